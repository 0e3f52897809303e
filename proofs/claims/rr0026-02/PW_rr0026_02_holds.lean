import PyProof.Rows.All
import Wide.All
import OpenK.AllK
import Wide.FinOn
import Lean
import PySem.Challenge.RW_rr0026_02
set_option Elab.async false
set_option maxRecDepth 100000
set_option autoImplicit false
set_option tactic.hygienic false
set_option linter.all false
set_option genSizeOf false
set_option genSizeOfSpec false
set_option bootstrap.genMatcherCode false
set_option linter.unusedVariables false
set_option linter.unusedSimpArgs false
set_option linter.unusedSectionVars false

/-! X3 -/
noncomputable section
set_option maxHeartbeats 200000
open PyProof.Rows PySem PySem.Calls PySem.W
namespace Mine
theorem Om0 {a : Nat} : a ≤ 1 → a ≤ (16777216 + 1) := by lia
theorem Om1 {a b : Nat} : (¬ (a < b)) → (b ≤ a) := by lia
theorem Om2 {a b : Nat} : a ≤ b → b = 14 → a ≤ (16777216 + 1) := by lia
theorem Om3 {a b c : Nat} : ((a + (20 * b)) + 200) < c → (a + 200) < c := by lia
theorem Om4 {a b : Nat} {x : Int} : a = b → (-(b : Int)) ≤ x → (-(a : Int)) ≤ x := by lia
theorem Om5 {a b : Nat} : (a + 200) < b → (a + 1) < b := by lia
theorem Om6 {a b : Nat} : a < 100000 → b = a → a ≤ 16777216 := by lia
theorem Om7 {a b c : Nat} : ((a + (20 * b)) + 200) < c → (a + 64) < c := by lia
theorem Om8 {x : Int} : 0 < x → x ≠ 0 := by lia
theorem Om9 {x : Int} : 0 < x → 0 ≤ x := by lia
theorem Om10 {x y : Int} : (0 < x) → (x < y) → (¬ (x = 0)) := by lia
theorem Om11 {x y : Int} : 0 < x → x < y → 0 ≤ x := by lia
theorem Om12 {a b : Nat} : (a - b) = 0 → (a - b) = 0 := by lia
theorem Om13 {a b : Nat} : (¬ (a < b)) → ((a - b) = 0) → (a = b) := by lia
theorem Om14 {a b : Nat} : a = b → b ≤ a := by lia
theorem Om15 {a b : Nat} : a < 1000000 → b = a → a ≤ 16777216 := by lia
theorem Om16 {a : Nat} : a ≤ ((a - 1) + 1) := by lia
theorem Om17 {a : Nat} : a < 4000 → (a + 1) < 4096 := by lia
theorem Om18 {a b c : Nat} : ((a + (3 * (b + 1))) + 10) < c → (((a + 1) + (3 * b)) + 10) < c := by lia
theorem Om19 {a b c : Nat} : ((a + (20 * (b + 1))) + 200) < c → (((a + 1) + (20 * b)) + 200) < c := by lia
theorem Om20 {a b c : Nat} : ((a + (3 * (b + 1))) + 10) < c → ((a + (3 * b)) + 10) < c := by lia
theorem Om21 {a b c : Nat} : ((a + (20 * (b + 1))) + 200) < c → ((a + (20 * b)) + 200) < c := by lia
theorem Om22 {a b c : Nat} : ((a + (20 * (b + 1))) + 200) < c → (((a + 3) + (20 * b)) + 200) < c := by lia
theorem Om23 {a : Nat} : a ≤ 20 → ((a + 0) + 0) < 30 := by lia
theorem Om24 {a b : Nat} : a ≤ 100 → b = a → a ≤ 16777216 := by lia
theorem Om25 {a b : Nat} : a = b → b < 1000 → b ≤ 16777216 := by lia
theorem Om26 {a b : Nat} {x : Int} : a = b → 0 ≤ x → x < (b : Int) → (Int.toNat x) < a := by lia
theorem Om27 {a b c d : Nat} : (a = b) → (c = a) → (¬ (d < c)) → (a ≤ d) := by lia
theorem Om28 {a : Nat} : a ≤ 1000 → a ≤ 16777216 := by lia
theorem Om29 {a b : Nat} : a = b → b ≤ 20 → b ≤ 1000 := by lia
theorem Om30 {a b : Nat} {x : Int} : ((0 ≤ x) ∧ ((x ≤ (a : Int)) ∧ (a < 1000000))) → (b = a) → (a ≤ 16777216) := by lia
theorem Om31 {a : Nat} {x : Int} : ((0 ≤ x) ∧ ((x ≤ (a : Int)) ∧ (a < 1000000))) → (x = (((Int.toNat x) : Nat) : Int)) := by lia
theorem Om32 {a b : Nat} : (a + 1) ≤ b → a ≤ b := by lia
theorem Om33 {a b c : Nat} : a < ((b + 1) + c) → a < (b + (c + 1)) := by lia
theorem Om34 {a b : Nat} : a ≤ b → a ≤ (b + 1) := by lia
theorem Om35 {a b : Nat} : (¬ (a ≤ b)) → (a = ((b + 1) + (a - (b + 1)))) := by lia
theorem Om36 {a b : Nat} : (¬ (((a + 1) + b) ≤ a)) → ((((a + 1) + b) - a) = ((((a + 1) + b) - (a + 1)) + 1)) := by lia
theorem Om37 {a b : Nat} : (((a : Int) - (b : Int)) % 1) = 0 := by lia
theorem Om38 {a b : Nat} : a < (0 + b) → (a : Int) < (b : Int) := by lia
theorem Om39 {a b : Nat} {x : Int} : ((a ≠ 0) ∧ ((0 ≤ x) ∧ ((x ≤ (b : Int)) ∧ (b < 1000000)))) → (x = (((Int.toNat x) : Nat) : Int)) := by lia
theorem Om40 {a b c d : Nat} : ((a ≠ 0) ∧ ((0 ≤ (b : Int)) ∧ (((b : Int) ≤ (c : Int)) ∧ (c < 1000000)))) → (d = c) → (b ≤ d) := by lia
theorem Om41 {a b c d : Nat} : ((a ≠ 0) ∧ ((0 ≤ (b : Int)) ∧ (((b : Int) ≤ (c : Int)) ∧ (c < 1000000)))) → (d = c) → (c ≤ 16777216) := by lia
theorem Om42 {a b : Nat} : a < b → 0 < ((b : Int) - (a : Int)) := by lia
theorem Om43 {a b : Nat} : a < b → (b - a) = ((b - (a + 1)) + 1) := by lia
theorem Om44 {a b : Nat} : ((a : Int) - (((b + 1) : Nat) : Int)) = (((a : Int) - (b : Int)) - 1) := by lia
theorem Om45 {a b c : Nat} : a = b → c = b → c ≤ a := by lia
theorem Om46 {a b : Nat} : a = b → ((b : Int) - (a : Int)) ≤ 0 := by lia
theorem Om47 {a b : Nat} : (¬ (a < b)) → (a ≤ b) → (a = b) := by lia
theorem Om48 {a b : Nat} : (¬ (a < b)) → (a ≤ b) → (b ≤ a) := by lia
theorem Om49 {a b : Nat} : a < b → (b - (a + 1)) < (b - a) := by lia
theorem Om50 : ((-(2000 : Int)) < (0 : Int)) := by lia
theorem Om51 : ((0 : Int) < (2000 : Int)) := by lia
theorem Om52 {x : Int} : (((-1000) < x) ∧ (x < 1000)) → ((-2000) < x) := by lia
theorem Om53 {x : Int} : (((-1000) < x) ∧ (x < 1000)) → (x < 2000) := by lia
theorem Om54 {x : Int} : (((-1000) < x) ∧ (x < 1000)) → ((Int.toNat x) < 2000) := by lia
theorem Om55 {x y : Int} : (((-1000) < x) ∧ (x < 1000)) → (((-1000) < y) ∧ (y < 1000)) → ((Int.toNat (x - y)) < 2000) := by lia
theorem Om56 {a b : Nat} : a = b → a = (b + 0) := by lia
theorem Om57 {a b c : Nat} : a = ((b + 1) + c) → a = (b + (c + 1)) := by lia
theorem Om58 {a b c : Nat} : ((a + (3 * (b + 2))) + 10) < c → a < c := by lia
theorem Om59 {a b : Nat} : a = (0 + b) → a = b := by lia
theorem Om60 {a : Nat} : (¬ (a < 44)) → (a = ((a - 44) + 44)) := by lia
theorem Om61 {a : Nat} {x : Int} : 0 ≤ x → a < 1000000 → (Int.toNat x) < a → x < (a : Int) := by lia
theorem Om62 {a : Nat} : a < 60 → a < 1000000 := by lia
theorem Om63 {x y : Int} : 0 ≤ x → y ≤ (((Int.toNat x) : Nat) : Int) → 0 ≤ y → y ≠ x → ((Int.toNat y) + 1) < ((Int.toNat x) + 1) := by lia
theorem Om64 {a : Nat} {x y : Int} : (Int.toNat x) < a → ((Int.toNat x) + 1) < ((a + (Int.toNat y)) + 2) := by lia
theorem Om65 {a : Nat} {x y z : Int} : (0 ≤ x) → (¬ (y = 0)) → (y = 1) → (z ≤ (((Int.toNat x) : Nat) : Int)) → (0 ≤ z) → (z ≠ x) → (((a + (Int.toNat z)) + 2) < ((a + (Int.toNat x)) + 2)) := by lia
theorem Om66 {a b c : Nat} : a < (b + 1) → c < a → c < b := by lia
theorem Om67 {a b : Nat} {x : Int} : (Int.toNat x) < a → ((Int.toNat x) + 1) < ((a + b) + 3) := by lia
theorem Om68 {a b : Nat} {x : Int} : (Int.toNat x) < a → ((b + (Int.toNat x)) + 2) < ((b + a) + 3) := by lia
theorem Om69 {a b : Nat} : 0 < ((a + b) + 3) := by lia
theorem Om70 {a b : Nat} : a ≤ b → b < a → False := by lia
theorem Om71 {a : Nat} {x : Int} : 0 ≤ x → (Int.toNat x) < a → a < 1000000 → x < (a : Int) := by lia
theorem Om72 {a : Nat} : a < 900000 → a < 1000000 := by lia
theorem Om73 {a : Nat} : a < 890000 → (a + 1) < 900000 := by lia
theorem Om74 {a : Nat} : (a + 1) < 900000 → (a + 1) < 1000000 := by lia
theorem Om75 {x : Int} : (¬ (0 ≤ x)) → (0 ≤ ((-1) - x)) := by lia
theorem Om76 {a b : Nat} : (a : Int) < ((((a + b) + 1) : Nat) : Int) := by lia
theorem Om77 {a : Nat} : a < 1000 → a < 1000000 := by lia
theorem Om78 {a : Nat} {x : Int} : ((Int.toNat x) + 1) < a → (Int.toNat x) < a := by lia
theorem Om79 {x : Int} : (x = 2) → (¬ (x = 3)) := by lia
theorem Om80 {a : Nat} {x y z : Int} : (x = 2) → (0 ≤ y) → (0 ≤ z) → (z < 100) → (((Int.toNat y) + (Int.toNat z)) < a) → (¬ (x = 3)) → (((((Int.toNat y) + 1) + (Int.toNat z)) ≤ a) ∧ (((Int.toNat z) < 100) ∧ (0 ≤ y))) := by lia
theorem Om81 {a : Nat} {x : Int} : (0 ≤ x) → (((Int.toNat x) + 1) < a) → ((((Int.toNat x) + 2) ≤ a) ∧ ((2 < 100) ∧ (0 ≤ x))) := by lia
theorem Om82 {a : Nat} : a < 1000 → (-1000) < ((a : Int) - 1) := by lia
theorem Om83 {a : Nat} : a < 1000 → ((a : Int) - 1) < 1000 := by lia
theorem Om84 {a : Nat} : a < 1000 → (Int.toNat (((a : Int) - 1) - (-1))) = a := by lia
theorem Om85 {a : Nat} : ((((a + 1) : Nat) : Int) - 1) = (a : Int) := by lia
theorem Om86 {a : Nat} : (((((a + 1) : Nat) : Int) - 1) + (-1)) = ((a : Int) - 1) := by lia
theorem Om87 {a b c : Nat} : (a + (b + 1)) ≤ c → (a + b) < c := by lia
theorem Om88 {a b : Nat} : (a + (b + 1)) < 1000000 → a < 1000000 := by lia
theorem Om89 {a b : Nat} : (a + (b + 1)) < 1000000 → ((a + 1) + b) < 1000000 := by lia
theorem Om90 {a b c : Nat} : (a + (b + 1)) ≤ c → (a + b) ≤ c := by lia
theorem Om91 {a : Nat} : a < 100 → a < 1000 := by lia
theorem Om92 {a b : Nat} : a < 900000 → b < 100 → (a + b) < 1000000 := by lia
theorem Om93 {a b : Nat} : a < 100 → b = a → b < 1000 := by lia
theorem Om94 {a b c : Nat} : a < 900000 → b < 100 → c = b → (a + c) < 1000000 := by lia
theorem Om95 {a : Nat} : a < 900000 → (a + 1) < 1000000 := by lia
theorem Om96 {a : Nat} : a < 800000 → a < 900000 := by lia
theorem Om97 {a : Nat} {x : Int} : ((0 ≤ x) ∧ (x < (0 : Int))) → (a ≤ 0) := by lia
theorem Om98 {a : Nat} {x : Int} : ((0 ≤ x) ∧ (x < (((a + 1) : Nat) : Int))) → (x ≠ (a : Int)) → ((0 ≤ x) ∧ (x < (a : Int))) := by lia
theorem Om99 {a b : Nat} : (a - 1) ≤ b → a ≤ (b + 1) := by lia
theorem Om100 {a : Nat} {x : Int} : (0 ≤ x) → ((Int.toNat x) < a) → ((0 ≤ x) ∧ (x < (a : Int))) := by lia
theorem Om101 {a b c d e f g : Nat} {x : Int} : (a < 60) → (((b + 1) + (100 * (60 - c))) ≤ (d + 1)) → (((e + f) ≤ a) ∧ ((f < 100) ∧ (0 ≤ x))) → (g ≤ f) → ((c + (0 + 1)) ≤ a) → (((g + b) + (100 * (60 - (c + (0 + 1))))) ≤ d) := by lia
theorem Om102 {a b c : Nat} : ((a + 1) + (100 * (60 - b))) ≤ (c + 1) → (a + (100 * (60 - b))) ≤ c := by lia
theorem Om103 {a b : Nat} : ((a + 1) + (100 * (60 - b))) ≤ 6100 → (a + 1) < 1000000 := by lia
theorem Om104 {a b : Nat} : ((a + 1) + (100 * (60 - b))) ≤ 6100 → a < 800000 := by lia
theorem Om105 {a b : Nat} : a ≤ b → b < 60 → a < 4000 := by lia
theorem Om106 {a b c d e f : Nat} {x : Int} : (((a + 1) + (100 * (60 - b))) ≤ 6100) → (c < 60) → ((b + 1) ≤ c) → (((d + e) ≤ c) ∧ ((e < 100) ∧ (0 ≤ x))) → (f ≤ e) → (((f + a) + (100 * (60 - (b + 1)))) ≤ 6100) := by lia
theorem Om107 {a b : Nat} : ((a + 1) + (100 * (60 - b))) ≤ 6100 → (a + (100 * (60 - b))) ≤ 6100 := by lia
theorem Om108 {a b : Nat} : a = (b + 1) → b ≤ a := by lia
theorem Om109 {a b : Nat} : a = (b + 1) → a ≠ 0 := by lia
theorem Om110 {a b c : Nat} : a = (b + 1) → c = a → b ≤ c := by lia
theorem Om111 {a : Nat} {x : Int} : a ≤ (Int.toNat x) → (Int.toNat x) < a → False := by lia
theorem Om112 {x y : Int} : x < y → x ≤ y := by lia
theorem Om113 {x y : Int} : (¬ (x < y)) → (y ≤ x) := by lia
theorem Om114 {x y z u : Int} : (x = 1) → (x = 0) → ((y ≠ 1) ∧ ((y = 0) → (z ≤ u))) := by lia
theorem Om115 {x y z : Int} : x = 0 → x = 1 → y ≤ z := by lia
theorem Om116 {x y z : Int} : (x + y) = (z + y) → x = z := by lia
theorem Om117 {x y z u : Int} : 0 ≤ x → x < y → z = x → u = x → y ≠ 0 := by lia
theorem Om118 {a : Nat} {x y : Int} : x = ((a : Int) + 1) → y < (a : Int) → y < x := by lia
theorem Om119 {a : Nat} {x y z u : Int} : x = ((a : Int) + 1) → 0 ≤ y → (Int.toNat y) < a → z = (u + y) → y < x := by lia
theorem Om120 {a : Nat} {x : Int} : (0 ≤ x) → ((Int.toNat x) < a) → (a < 60) → (((-1000) < x) ∧ (x < 1000)) := by lia
theorem Om121 {a : Nat} {x : Int} : (x = ((a : Int) + 1)) → (a < 60) → (((-1000) < x) ∧ (x < 1000)) := by lia
theorem Om122 {a : Nat} {x : Int} : a < 60 → x < (a : Int) → x < 60 := by lia
theorem Om123 {a : Nat} {x y : Int} : (a < 60) → (0 ≤ x) → (x < (a : Int)) → (0 ≤ y) → (y < (a : Int)) → ((0 ≤ ((x * 60) + y)) ∧ (((x * 60) + y) < (3600 : Int))) := by lia
theorem Om124 {a : Nat} {x y : Int} : (0 ≤ x) → ((Int.toNat x) < a) → (0 ≤ y) → ((Int.toNat y) < a) → ((0 ≤ x) ∧ ((x < (a : Int)) ∧ ((0 ≤ y) ∧ (y < (a : Int))))) := by lia
theorem Om125 : (((1 : Nat) + ((100 : Nat) * ((3601 : Nat) - (0 : Nat)))) ≤ (369999 : Nat)) := by lia
theorem Om126 {a b : Nat} : ((a + 1) + (100 * (3601 - b))) ≤ 0 → False := by lia
theorem Om127 {a b c d e : Nat} : ((a + 1) + (100 * (3601 - b))) ≤ (c + 1) → (d + (100 * (3601 - e))) ≤ (a + (100 * (3601 - b))) → (d + (100 * (3601 - e))) ≤ c := by lia
theorem Om128 {a b c : Nat} : ((a + (b + 1)) + (100 * (3601 - c))) ≤ 800000 → (b + 1) < 1000000 := by lia
theorem Om129 {a b c : Nat} : ((a + (b + 1)) + (100 * (3601 - c))) ≤ 800000 → a < 890000 := by lia
theorem Om130 {a b c : Nat} : ((a + (b + 1)) + (100 * (3601 - c))) ≤ 800000 → b < 800000 := by lia
theorem Om131 {a : Nat} : a ≤ 3600 → a < 4000 := by lia
theorem Om132 {a b c : Nat} : a = (b + 2) → c = ((b + 2) + 1) → b ≤ c := by lia
theorem Om133 {a : Nat} : a ≤ (a + 2) := by lia
theorem Om134 {a b c : Nat} : a = (b + 2) → c = ((b + 2) + 1) → c ≠ 0 := by lia
theorem Om135 {a b c : Nat} : a = (b + 2) → c = ((b + 2) + 1) → c ≠ (b + 1) := by lia
theorem Om136 {a b c : Nat} : a = (b + 2) → c = ((b + 2) + 1) → c ≠ b := by lia
theorem Om137 {a : Nat} : a < 400000 → ((a + 1) + (100 * (3601 - 0))) ≤ 800000 := by omega
theorem Om138 {a b c d : Nat} : a = (b + 2) → c = ((b + 2) + 1) → d = c → b ≤ d := by lia
theorem Om139 {a b c d : Nat} : a = (b + 2) → c = ((b + 2) + 1) → d = (b + 2) → b ≤ d := by lia
theorem Om140 {x : Int} : (¬ (0 ≤ x)) → (((-1) - (((Int.toNat ((-1) - x)) : Nat) : Int)) = x) := by lia
theorem Om141 {x : Int} : ((-1) - ((-1) - x)) = x := by lia
theorem Om142 {x : Int} : (0 ≤ x) → (¬ (0 ≤ ((-1) - x))) := by lia
theorem Om143 {a : Nat} {x : Int} : (Int.toNat x) = a → 0 ≤ x → (a : Int) = x := by lia
theorem Om144 {a : Nat} {x : Int} : 0 ≤ x → (Int.toNat x) = a → (a : Int) = x := by lia
theorem Om145 {a b : Nat} {x : Int} : (Int.toNat x) = a → a < b → (Int.toNat x) < b := by lia
theorem Om146 {a b : Nat} {x : Int} : ((Int.toNat x) = a) → (¬ (a < b)) → (¬ ((Int.toNat x) < b)) := by lia
theorem Om147 {a : Nat} {x : Int} : (0 ≤ x) → (¬ ((Int.toNat x) = a)) → ((a : Int) = x) → False := by lia
theorem Om148 {a : Nat} {x : Int} : (¬ (0 ≤ x)) → ((a : Int) = x) → False := by lia
theorem Om149 {a : Nat} {x : Int} : 0 ≤ x → ((-1) - (a : Int)) = x → False := by lia
theorem Om150 {a : Nat} {x : Int} : (¬ (0 ≤ x)) → ((Int.toNat ((-1) - x)) = a) → (((-1) - (a : Int)) = x) := by lia
theorem Om151 {a b : Nat} {x : Int} : (Int.toNat ((-1) - x)) = a → a < b → (Int.toNat ((-1) - x)) < b := by lia
theorem Om152 {a : Nat} {x : Int} : ((-1) - (a : Int)) = x → ((-1) - x) = (a : Int) := by lia
theorem Om153 {a b : Nat} {x : Int} : ((Int.toNat ((-1) - x)) = a) → (¬ (a < b)) → (¬ ((Int.toNat ((-1) - x)) < b)) := by lia
theorem Om154 {a : Nat} {x : Int} : (¬ (0 ≤ x)) → (¬ ((Int.toNat ((-1) - x)) = a)) → (((-1) - (a : Int)) = x) → False := by lia
theorem Om155 {a : Nat} : 0 ≤ (a : Int) := by lia
theorem Om156 {a : Nat} : (¬ (0 ≤ ((-1) - (a : Int)))) := by lia
theorem Om157 {a : Nat} : ((-1) - ((-1) - (a : Int))) = (a : Int) := by lia
theorem Om158 {a : Nat} {x : Int} : 0 ≤ x → (Int.toNat x) < a → x < (a : Int) := by lia
theorem Om159 {a : Nat} {x : Int} : (¬ (0 ≤ x)) → ((Int.toNat ((-1) - x)) < a) → (((-1) - x) < (a : Int)) := by lia
theorem Om160 {a b : Nat} : (((a : Int) + 1) + (b : Int)) = ((a : Int) + ((b : Int) + 1)) := by lia
theorem Om161 {a : Nat} : a < 900 → a < 1000000 := by lia
theorem Om162 {a : Nat} : a < 900 → a < 100000 := by lia
theorem Om163 {a : Nat} : a < 900 → (a + 1) < 1000 := by lia
theorem Om164 {a b : Nat} : (a + (b + 1)) < 800 → a < 900 := by lia
theorem Om165 {a b c : Nat} : (a + (b + 1)) < 800 → c ≤ (a + 1) → (c + b) < 800 := by lia
theorem Om166 {a b c : Nat} : (a + (b + 1)) < 800 → (c + (b + 1)) < 800 → c < 900 := by lia
theorem Om167 : ((0 : Int) ≤ (0 : Int)) := by lia
theorem Om168 : ((0 : Int) ≤ (1 : Int)) := by lia
theorem Om169 : ((0 : Int) ≤ (2 : Int)) := by lia
theorem Om170 {a : Nat} : (a < 59) → (¬ (100000 ≤ (a : Int))) := by lia
theorem Om171 {a : Nat} : a < 59 → (a + 1) < 60 := by lia
theorem Om172 {a b c : Nat} : (a + (b + 1)) < 60 → c = (a + 1) → c < 60 := by lia
theorem Om173 {a b c : Nat} : (a + (b + 1)) < 60 → c = (a + 1) → ((a + 1) + b) < 60 := by lia
theorem Om174 {a : Nat} : (a < 1000) → (((-1000) < (a : Int)) ∧ ((a : Int) < 1000)) := by lia
theorem Om175 {a b : Nat} : (a + b) < 60 → b < 1000 := by lia
theorem Om176 {a b : Nat} : ((a + b) < 60) → (¬ (100000 < ((a : Int) + (b : Int)))) := by lia
theorem Om177 {a b c : Nat} : a = (b + (c + 1)) → b < (b + (c + 1)) := by lia
theorem Om178 {a : Nat} : (a + (2 + 1)) < 60 → (a + 2) < 60 := by lia
theorem Om179 {x : Int} : (0 ≤ x) → (¬ (x = 0)) → (0 < x) := by lia
theorem Om180 {a b : Nat} : (a + (b + 1)) < 1000 → a < 1000000 := by lia
theorem Om181 {a b : Nat} : (a + (b + 1)) < 1000 → ((a + 1) + b) < 1000 := by lia
theorem Om182 {a b : Nat} : (a + (b + 1)) < 60 → b < 1000000 := by lia
theorem Om183 {a b : Nat} : (a + (b + 1)) < 60 → (0 + b) < 1000 := by lia
theorem Om184 {a b c : Nat} : (a + (b + 1)) < 60 → c = b → b < 1000000 := by lia
theorem Om185 {a : Nat} : a < 800 → a < 900 := by lia
theorem Om186 {a b : Nat} : a < 800 → b ≤ (a + 1) → b < 900 := by lia
theorem Om187 {x y z u v : Int} : x ≤ y → z ≤ ((u + x) + v) → z ≤ (u + (v + y)) := by lia
theorem Om188 {a b : Nat} : a = b → b < 100 → b < 1000 := by lia
theorem Om189 {a b : Nat} : a < 1000 → b ≤ a → (a - b) < 1000000 := by lia
theorem Om190 {a : Nat} : a < 1000 → a < 100000 := by lia
theorem Om191 {a : Nat} : a ≤ 2 → (a : Int) ≤ 2 := by lia
theorem Om192 {x : Int} : 1 ≤ x → x ≤ 50000 → 0 ≤ x := by lia
theorem Om193 {x y z : Int} : x ≤ (1 + y) → y ≤ (2 * z) → x ≤ (1 + (2 * z)) := by lia
theorem Om194 {x y : Int} : (1 ≤ x) → (x ≤ 50000) → (y ≤ (1 + (2 * x))) → (¬ ((100000 + 1) < y)) := by lia
theorem Om195 {a b : Nat} : a < 1000 → b = (a + 1) → a < 1000000 := by lia
theorem Om196 {a b c : Nat} {x : Int} : (((a + b) ≤ c) ∧ ((b < 100) ∧ (0 ≤ x))) → (b < 1000) := by lia
theorem Om197 {a b c d e : Nat} {x : Int} : (a < 1000) → (b = (a + 1)) → (((c + d) ≤ e) ∧ ((d < 100) ∧ (0 ≤ x))) → (((a + 1) + d) < 1000000) := by lia
theorem Om198 {a : Nat} : a < 10000 → a < 1000000 := by lia
theorem Om199 {a : Nat} : a < 10000 → a < 100000 := by lia
theorem Om200 {a : Nat} {x y : Int} : (x = 0) → (x = 1) → ((0 ≤ y) ∧ ((Int.toNat y) < a)) := by lia
theorem Om201 {x : Int} : x = 0 → x = 2 → False := by lia
theorem Om202 {a : Nat} {x y : Int} : (x = 0) → (x = 3) → ((0 ≤ y) ∧ (((Int.toNat y) + 1) < a)) := by lia
theorem Om203 {a : Nat} {x y : Int} : (x = 4) → (x = 0) → ((0 ≤ y) ∧ ((Int.toNat y) < a)) := by lia
theorem Om204 {a : Nat} {x y : Int} : (x = 4) → (x = 1) → ((0 ≤ y) ∧ ((Int.toNat y) < a)) := by lia
theorem Om205 {x : Int} : x = 4 → x = 2 → False := by lia
theorem Om206 {a : Nat} {x y : Int} : (x = 4) → (x = 3) → ((0 ≤ y) ∧ (((Int.toNat y) + 1) < a)) := by lia
theorem Om207 {a : Nat} {x y : Int} : (x = 5) → (x = 0) → ((0 ≤ y) ∧ ((Int.toNat y) < a)) := by lia
theorem Om208 {a : Nat} {x y : Int} : (x = 5) → (x = 1) → ((0 ≤ y) ∧ ((Int.toNat y) < a)) := by lia
theorem Om209 {x : Int} : x = 5 → x = 2 → False := by lia
theorem Om210 {a : Nat} {x y : Int} : (x = 5) → (x = 3) → ((0 ≤ y) ∧ (((Int.toNat y) + 1) < a)) := by lia
theorem Om211 {x : Int} : x = 0 → x = 4 → False := by lia
theorem Om212 {x : Int} : x = 0 → x = 5 → False := by lia
theorem Om213 {x : Int} : (x = 0) → ((x = 2) ∨ (x = 3)) → False := by lia
theorem Om214 {x : Int} : x = 1 → x = 0 → False := by lia
theorem Om215 {x : Int} : x = 1 → x = 4 → False := by lia
theorem Om216 {x : Int} : x = 1 → x = 5 → False := by lia
theorem Om217 {x : Int} : (x = 1) → ((x = 2) ∨ (x = 3)) → False := by lia
theorem Om218 {x : Int} : ((x = 2) ∨ (x = 3)) → (x = 4) → False := by lia
theorem Om219 {x : Int} : ((x = 2) ∨ (x = 3)) → (x = 5) → False := by lia
theorem Om220 {x : Int} : ((x = 2) ∨ (x = 3)) → (¬ (x = 0)) := by lia
theorem Om221 {x : Int} : ((x = 2) ∨ (x = 3)) → (¬ (x = 1)) := by lia
theorem Om222 {a b : Nat} : ((a + 1) + b) = (a + (b + 1)) := by lia
theorem Om223 {a b : Nat} : a ≤ (b - 1) → 0 < b → (a + 1) ≤ b := by lia
theorem Om224 {a b : Nat} : a ≤ (b + a) := by lia
theorem Om225 {a b : Nat} : (((a + b) - b) + 1) = (a + 1) := by lia
theorem Om226 {x : Int} : 0 < x → 1 ≤ x := by lia
theorem Om227 {x y : Int} : x ≤ (1 + (2 * y)) → 1 ≤ y → x ≤ (y * 4) := by lia
theorem Om228 {a : Nat} : a < (a + 1) := by lia
theorem Om229 {x y : Int} : 1 ≤ x → y ≤ x → y ≤ (x * 4) := by lia
theorem Om230 {a b : Nat} : a < b → a < (b + 1) := by lia
theorem Om231 {a b : Nat} : a < b → b ≤ 8 → a < 9 := by lia
theorem Om232 {x : Int} : (x = 0) → (¬ ((x = 2) ∨ (x = 3))) := by lia
theorem Om233 {x : Int} : (x = 4) → (¬ ((x = 2) ∨ (x = 3))) := by lia
theorem Om234 {x : Int} : (x = 5) → (¬ ((x = 2) ∨ (x = 3))) := by lia
theorem Om235 {a : Nat} : a < 1000 → a < 900000 := by lia
theorem Om236 {a b : Nat} : (a + (b + 1)) < 1000 → a < 1000 := by lia
theorem Om237 {a b c d : Nat} : ((a + 1) + (102 * (9 - b))) < (c + 1) → (d + (c + 1)) < 1000 → (a + 1) < 1000000 := by lia
theorem Om238 {a b c d : Nat} : ((a + 1) + (102 * (9 - b))) < (c + 1) → (d + (c + 1)) < 1000 → a < 1000 := by lia
theorem Om239 {a b c : Nat} : (a + (b + 1)) < 1000 → c ≤ (a + 1) → (c + b) < 1000 := by lia
theorem Om240 {a b c : Nat} : (a + (b + 1)) < 10000 → c ≤ (a + 1) → (c + b) < 10000 := by lia
theorem Om241 {x : Int} : 0 < x → 0 ≤ (1 + (2 * x)) := by lia
theorem Om242 {a : Nat} : a ≤ 8 → a ≠ 8 → a ≤ 7 := by lia
theorem Om243 {a : Nat} : a ≤ 8 → a < 1000 := by lia
theorem Om244 {a b c : Nat} : ((a + 1) + (102 * (9 - b))) < (c + 1) → (a + (102 * (9 - b))) < c := by lia
theorem Om245 {a b : Nat} : a ≤ b → ((b - a) + 1) ≤ (b + 1) := by lia
theorem Om246 {a b : Nat} : (a + (b + 1)) < 10000 → a < 10000 := by lia
theorem Om247 {a b c d e f : Nat} : ((a + 1) + (102 * (9 - b))) < (c + 1) → b ≤ 8 → d = e → e ≤ 2 → f = (b + 1) → (b + 1) ≤ 8 → ((d + (a + 1)) + (102 * (9 - (b + 1)))) < c := by lia
theorem Om248 {a b c d e : Nat} : a = (b + 1) → c = (b + 2) → d = (b + 3) → e < b → e ≠ b := by lia
theorem Om249 {a b c d e : Nat} : a = (b + 1) → c = (b + 2) → d = (b + 3) → e < b → e ≠ (b + 1) := by lia
theorem Om250 {a : Nat} : a ≠ (a + 1) := by lia
theorem Om251 {a : Nat} : (a + 2) ≠ (a + 3) := by lia
theorem Om252 {a b c d : Nat} : 0 < a → b = (a + 1) → c = (a + 2) → d = (a + 3) → (a + 2) ≠ 0 := by lia
theorem Om253 {a b c d : Nat} : 0 < a → b = (a + 1) → c = (a + 2) → d = (a + 3) → (a + 3) ≠ 0 := by lia
theorem Om254 {a b c d : Nat} : a < b → b < ((c + d) + 3) → a < ((c + d) + 3) → a < ((c + d) + 2) := by lia
theorem Om255 {a b c : Nat} : a < ((b + c) + 3) → a < ((b + c) + 3) := by lia
theorem Om256 {a : Nat} {x y : Int} : ((0 ≤ x) ∧ ((Int.toNat x) < a)) → ((0 ≤ y) ∧ ((Int.toNat y) < a)) → ((Int.toNat x) = (Int.toNat y)) → (y = x) := by lia
theorem Om257 {x y z u : Int} : x = 1 → x = 0 → (y = 1 → z ≤ u) := by lia
theorem Om258 {a b c : Nat} {x : Int} : ((Int.toNat x) = (a + b)) → (¬ ((a + b) < c)) → (c ≤ (a + b)) := by lia
theorem Om259 {x : Int} : x = 0 → x ≠ 6 := by lia
theorem Om260 {x : Int} : x = 4 → x ≠ 6 := by lia
theorem Om261 {x : Int} : x = 5 → x ≠ 6 := by lia
theorem Om262 {x : Int} : ((x = 2) ∨ (x = 3)) → (x ≠ 6) := by lia
theorem Om263 {x : Int} : x = 6 → x = 0 → False := by lia
theorem Om264 {x : Int} : x = 6 → x = 4 → False := by lia
theorem Om265 {x : Int} : x = 6 → x = 5 → False := by lia
theorem Om266 {x : Int} : (x = 6) → ((x = 2) ∨ (x = 3)) → False := by lia
theorem Om267 {a b : Nat} : a < ((b + a) + 1) := by lia
theorem Om268 {a b c : Nat} : a < b → ((a + c) + 1) < ((b + c) + 1) := by lia
theorem Om269 {x : Int} : ((x = 2) ∨ (x = 3)) → (x = 0) → False := by lia
theorem Om270 {a b c : Nat} : a < b → c < a → c < b := by lia
theorem Om271 {a b c : Nat} : a < b → c < 9 → c < (b + 9) := by lia
theorem Om272 {a b : Nat} : a < b → (a + 9) < (b + 9) := by lia
theorem Om273 {a b : Nat} {x : Int} : (Int.toNat x) < a → (Int.toNat x) < (a + b) := by lia
theorem Om274 {a b : Nat} {x y : Int} : ((Int.toNat x) + (Int.toNat y)) < a → ((Int.toNat x) + (Int.toNat y)) < (a + b) := by lia
theorem Om275 {a b : Nat} {x : Int} : ((Int.toNat x) + 1) < a → ((Int.toNat x) + 1) < (a + b) := by lia
theorem Om276 {a b : Nat} {x : Int} : (¬ (a < b)) → (x ≤ (((b + (a - b)) : Nat) : Int)) → (x ≤ (a : Int)) := by lia
theorem Om277 {a b c : Nat} : (a + b) ≤ c → a ≤ c := by lia
theorem Om278 {a b c : Nat} : (a + b) ≤ c → b ≤ (c - a) := by lia
theorem Om279 {x y : Int} : x < y → 0 ≤ x → (Int.toNat x) < (Int.toNat y) := by lia
theorem Om280 {a : Nat} {x : Int} : ((0 ≤ x) ∧ ((Int.toNat x) < a)) → (x < (a : Int)) := by lia
theorem Om281 {a : Nat} : a ≤ 2 → a ≤ 2 := by lia
theorem Om282 {a b : Nat} : a = 2 → (b + 1) < (b + a) := by lia
theorem Om283 {a : Nat} : a ≤ (a + 1) := by lia
theorem Om284 {a : Nat} : ((a + 1) - a) = 1 := by lia
theorem Om285 {a : Nat} : a ≤ a := by lia
theorem Om286 {a b : Nat} : a ≤ 2 → b = a → 0 ≤ (a : Int) := by lia
theorem Om287 {a b : Nat} : a ≤ 2 → b = a → (a : Int) < 100 := by lia
theorem Om288 {a : Nat} {x : Int} : ((0 ≤ x) ∧ ((Int.toNat x) < a)) → ((x < (a : Int)) ∧ (0 ≤ x)) := by lia
theorem Om289 {a b : Nat} {x : Int} : x < (a : Int) → x ≤ (((a + b) : Nat) : Int) := by lia
theorem Om290 {a : Nat} : a < 8 → a ≤ 7 := by lia
theorem Om291 {a : Nat} {x y : Int} : (x = (a : Int)) → (y = x) → ((y < (a : Int)) ∧ (0 ≤ y)) → False := by lia
theorem Om292 {a : Nat} {x y : Int} : (x = (a : Int)) → (x = y) → ((y < (a : Int)) ∧ (0 ≤ y)) → False := by lia
theorem Om293 {a : Nat} {x y : Int} : (x = (a : Int)) → ((y < (a : Int)) ∧ (0 ≤ y)) → (y < x) := by lia
theorem Om294 {x : Int} : 0 ≤ x → x < 7 → x < 4 → x < 6 := by lia
theorem Om295 {a : Nat} : a < 8 → 2 ≤ a → 0 < (a : Int) := by lia
theorem Om296 {a : Nat} {x : Int} : ((0 ≤ x) ∧ (x < (a : Int))) → ((Int.toNat x) < a) := by lia
theorem Om297 {a b : Nat} : a < 8 → 2 ≤ a → b ≤ (a - 2) → b < 8 := by lia
theorem Om298 {a b c : Nat} : a = b → c = b → b ≤ 2 → b ≤ 3 := by lia
theorem Om299 {a b c : Nat} : a = b → c = b → b ≤ 2 → (b + 1) ≤ 3 := by lia
theorem Om300 {a b c : Nat} : a ≤ 3 → b ≤ (3 * c) → (b + a) ≤ (3 * (c + (0 + 1))) := by lia
theorem Om301 {a b : Nat} : a ≤ (3 * b) → a ≤ (3 * (b + 1)) := by lia
theorem Om302 {a b : Nat} : a < 8 → b ≤ (a - 2) → b ≤ ((a + 1) - 2) := by lia
theorem Om303 {a b : Nat} : a ≤ (3 * b) → (a + 1) ≤ (3 * (b + 1)) := by lia
theorem Om304 {a : Nat} : 0 < a → a < 1000 → 0 < (a : Int) := by lia
theorem Om305 {x : Int} : (0 ≤ x) → (x < 4) → ((x = 0) ∨ ((x = 1) ∨ ((x = 2) ∨ (x = 3)))) := by lia
theorem Om306 {a : Nat} {x : Int} : 0 ≤ x → x < (a : Int) → (Int.toNat x) < a := by lia
theorem Om307 {a : Nat} : a < 100 → a < 900 := by lia
theorem Om308 {a : Nat} : a < 8 → a < 1000 := by lia
theorem Om309 {a b c : Nat} : (a = b) → ((0 < b) ∧ (b ≤ 2)) → (c = b) → (a < 1000) := by lia
theorem Om310 {a b c : Nat} : (a < 50) → ((0 < b) ∧ (b ≤ 2)) → (c = b) → ((a + (b + 1)) < 60) := by lia
theorem Om311 {a : Nat} : a < 8 → a < 1000000 := by lia
theorem Om312 {a : Nat} : ((0 < a) ∧ (a ≤ 2)) → (a < 1000) := by lia
theorem Om313 {a : Nat} : a < 8 → 2 ≤ a → 0 < a := by lia
theorem Om314 {a : Nat} : a < 8 → 2 ≤ a → a < 1000 := by lia
theorem Om315 {a : Nat} : ((0 < a) ∧ (a ≤ 2)) → ((0 + a) < 1000) := by lia
theorem Om316 {a : Nat} : a < 50 → a < 59 := by lia
theorem Om317 {x : Int} : (0 ≤ x) → (x < 7) → ((x = 0) ∨ ((x = 1) ∨ ((x = 2) ∨ ((x = 3) ∨ ((x = 4) ∨ ((x = 5) ∨ (x = 6))))))) := by lia
theorem Om318 {a : Nat} : (¬ ((0 ≤ (-1)) ∧ (((-1) < (a : Int)) ∧ (a < 1000000)))) := by lia
theorem Om319 {a : Nat} : a < 1000 → 0 < a → (-(a : Int)) ≤ (-1) := by lia
theorem Om320 {a : Nat} : a < 1000 → 0 < a → a < 1000000 := by lia
theorem Om321 {a : Nat} : a < 1000 → 0 < a → (Int.toNat ((-1) + (a : Int))) = (a - 1) := by lia
theorem Om322 {a b c : Nat} : a < 8 → b = (a + 1) → c = (a + 1) → c < 100 := by lia
theorem Om323 {a : Nat} : a < 900 → a < 1000 := by lia
theorem Om324 {a : Nat} : a ≤ 6 → a ≠ 9 := by lia
theorem Om325 {a : Nat} : a ≤ 6 → a ≠ 10 := by lia
theorem Om326 {a : Nat} : (a ≤ 6) → (¬ (a = 8)) := by lia
theorem Om327 {a : Nat} : (a ≤ 6) → (¬ (a = 7)) := by lia
theorem Om328 {a b c : Nat} : a < 8 → b ≤ (3 * a) → c = (a + 1) → b < 50 := by lia
theorem Om329 {a b : Nat} : (a + (b + 1)) ≤ 8 → a < 8 := by lia
theorem Om330 {a b c : Nat} : (a + (b + 1)) ≤ 8 → c = (a + 1) → a < 8 := by lia
theorem Om331 {a b c : Nat} : (a + (b + 1)) ≤ 8 → c = (a + 1) → (c + b) ≤ 8 := by lia
theorem Om332 {a b c : Nat} : (a + (b + 1)) < 800 → c = (a + 1) → (c + b) < 800 := by lia
theorem Om333 {x : Int} : ((0 ≤ x) ∧ (x < 6)) → ((((Int.toNat (3 + x)) : Nat) : Int) = (3 + x)) := by lia
theorem Om334 {a b c : Nat} : a < b → c = (b + 1) → a ≠ b := by lia
theorem Om335 {a b c : Nat} : a < b → c = (b + 1) → a ≠ (b + 1) := by lia
theorem Om336 {a b c : Nat} : a < b → c = (b + 1) → b ≠ 0 := by lia
theorem Om337 {a b : Nat} : a = (b + 1) → (b + 1) ≠ 0 := by lia
theorem Om338 {a : Nat} {x : Int} : ((0 ≤ x) ∧ (x < 6)) → ((a : Int) = (3 + x)) → ((a ≤ 8) ∧ (3 ≤ a)) := by lia
theorem Om339 {a : Nat} {x : Int} : ((0 ≤ x) ∧ (x < 6)) → ((a : Int) = (3 + x)) → (a < 1000) := by lia
theorem Om340 {a : Nat} {x : Int} : ((0 ≤ x) ∧ (x < 6)) → ((a : Int) = (3 + x)) → ((0 + a) ≤ 8) := by lia
theorem Om341 {a : Nat} {x : Int} : ((0 ≤ x) ∧ (x < 6)) → ((a : Int) = (3 + x)) → ((0 + a) < 800) := by lia
theorem Om342 {a b c : Nat} {x : Int} : ((0 ≤ x) ∧ (x < 6)) → ((a : Int) = (3 + x)) → (b = (c + a)) → (b = a) → (3 ≤ b) := by lia
theorem Om343 {a b c : Nat} {x : Int} : ((0 ≤ x) ∧ (x < 6)) → ((a : Int) = (3 + x)) → (b = (c + a)) → (b = a) → (b ≤ 8) := by lia
theorem Om344 {a : Nat} : a ≤ 1 → (a + 1) ≤ 64 := by lia
theorem Om345 {a : Nat} : a < 100 → a < 1000000 := by lia
theorem Om346 {x : Int} : 0 ≤ x → 0 ≤ x := by lia
theorem Om347 {a : Nat} : a ≤ 8 → a ≠ 13 := by lia
theorem Om348 {a : Nat} : (a ≤ 8) → (¬ (a = 12)) := by lia
theorem Om349 {a : Nat} : (a ≤ 8) → (¬ (a = 11)) := by lia
theorem Om350 {a : Nat} : a < 100 → 0 < a → a < 1000000 := by lia
theorem Om351 {a : Nat} : (a ≤ 8) → (¬ (a = 10)) := by lia
theorem Om352 {a : Nat} : (a ≤ 8) → (¬ (a = 9)) := by lia
theorem Om353 {x : Int} : (x = 6) → ((x ≠ 2) ∧ (x ≠ 3)) := by lia
theorem Om354 {x : Int} : (x = 0) → ((x ≠ 2) ∧ (x ≠ 3)) := by lia
theorem Om355 {x : Int} : (x = 4) → ((x ≠ 2) ∧ (x ≠ 3)) := by lia
theorem Om356 {x : Int} : (x = 5) → ((x ≠ 2) ∧ (x ≠ 3)) := by lia
theorem Om357 {x : Int} : ((0 ≤ x) ∧ (x < 3)) → (0 ≤ (1 + x)) := by lia
theorem Om358 {x : Int} : ((0 ≤ x) ∧ (x < 3)) → ((Int.toNat (1 + x)) < 1000) := by lia
theorem Om359 {a b c d : Nat} : a ≤ b → c ≤ a → d < c → d = b → False := by lia
theorem Om360 {a b c : Nat} : a < b → a = c → b ≤ c → False := by lia
theorem Om361 {a b c : Nat} : a < b → b ≤ c → a ≠ c := by lia
theorem Om362 {a b c d e f : Nat} : ((a < 100) ∧ ((b < 100) ∧ ((c < 100) ∧ ((d < 100) ∧ ((e < 100) ∧ (f < 100)))))) → (a < 800) := by lia
theorem Om363 {a b c d e f : Nat} : ((a < 100) ∧ ((b < 100) ∧ ((c < 100) ∧ ((d < 100) ∧ ((e < 100) ∧ (f < 100)))))) → (b < 800) := by lia
theorem Om364 {a : Nat} : 3 ≤ a → a ≤ 8 → a < 100 := by lia
theorem Om365 {a : Nat} : 3 ≤ a → a ≤ 8 → 0 < a := by lia
theorem Om366 {a b : Nat} : a ≤ b → 0 < a → 0 = b → False := by lia
theorem Om367 {a b : Nat} : (¬ ((a : Int) < (b : Int))) → (b ≤ a) := by lia
theorem Om368 {a b : Nat} : a ≤ b → (a + (b - a)) = b := by lia
theorem Om369 {a : Nat} : a ≤ 63 → a < 1000 := by lia

section
variable {prog : Program} {w : World} {A : Around} {E : Value → Shared → Prop} {h : Heap} {g : Array GenState} {d : Drawn} {t : Nat} {os : OsState}
variable {nm q : PySem.Str} {C N : Addr} {bs bm bmB : List Value} {hdct : Bool} {sn : List PySem.Str} {sub : List Value} {ab : Bool} {col : Option Bool} {dd : Option Addr} {k0 k1 k2 k3 k5 : Option Value} {B newId initId : String}

/-- a class of its own with a base of its own and an __init__ of its own is called -/
theorem exc_make (F : ExcBaseFacts B newId initId bmB) (T : OwnTail h bmB bm) {mN : PySem.Str → Option Value} {rest : List Value} {fI : Addr} {oI : Obj} {Q : Value → Shared → Prop}
    (hC : h.get? C = some (excClassObj nm q C N bs bm hdct sn sub ab col dd k0 k1 k2 k3 k5 newId)) (hn : h.Ns N mN) (hi : mN "__init__" = some (.ref fI))
    (hfI : h.get? fI = some oI) (hfc : oI.cls = .type "function") (hrest : rest.length ≤ sizeLine)
    (hq : ∀ h' e, Heap.MadeExcOf h h' e (.ref C) rest →
      wpAny (model prog w) (A.under (.builtin "type.__call__" ⟨.ref C :: rest, []⟩)) (call (.ref fI) (.ref e :: rest)) (fun r s' => r = .none ∧ Q (.ref e) s') E ⟨h', g, d, t, os⟩) :
    wpAny (model prog w) A (call (.ref C) rest) Q E ⟨h, g, d, t, os⟩ := by
  have f1 := tc_lookup
  have f2 := tc_bind (.ref C)
  have hT : (⟨h, g, d, t, os⟩ : Shared).TypeIs (.ref C) "type" := ⟨_, hC, rfl⟩
  refine wpAny_call (codeAny_of_tree ?_)
  show wpAny _ _ (callAny (.ref C) _) _ _ _
  repeat (any_goals (first | assumption | with_reducible refine wpAny_loadPart_at hC ?_ | wp_step))
  refine ⟨rfl, codeAny_call_builtin_at (Code.quiet_builtin _ (by decide +kernel)) entry_typeCall (wpAny_check_type_call_sub hC ?_)⟩
  repeat (first | with_reducible refine wpAny_loadPart_at hC ?_ | with_reducible refine wpAny_madeBy_exc hC ?_ | wp_step)
  refine codeAny_call_builtin_code (Code.quiet_builtin _ F.quiet) (wpAny_check_new_subT F T hC (codeAny_exc_new_subT F T hC ?_ hrest))
  show wpAny _ _ _ _ _ ⟨(h.push { cls := .type "tuple", data := .seq rest.toArray }).push { cls := .ref C, data := .fields #[.ref h.objs.size, .none, .none, .none, .bool false, .none] }, g, d, t, os⟩
  generalize e1 : h.push { cls := .type "tuple", data := .seq rest.toArray } = h1
  generalize e2 : h1.push { cls := .ref C, data := .fields #[.ref h.objs.size, .none, .none, .none, .bool false, .none] } = h2
  have k2 : ∀ b o, h.get? b = some o → h2.get? b = some o := fun b o e => by rw [← e2, ← e1]; exact Heap.get?_push_of_some _ (Heap.get?_push_of_some _ e)
  have hget : h2.get? (h.objs.size + 1) = some { cls := .ref C, data := .fields #[.ref h.objs.size, .none, .none, .none, .bool false, .none] } := by
    rw [← e2]; exact Heap.get?_push_at (by rw [← e1]; exact (Heap.size_push ..).symm) rfl
  have htup : h2.get? h.objs.size = some { cls := .type "tuple", data := .seq rest.toArray } := by
    rw [← e2]; refine Heap.get?_push_of_some _ ?_; rw [← e1]; exact Heap.get?_push_size _ rfl
  have hC2 := k2 _ _ hC
  have hcC : (Value.ref C :: bm).contains (.ref C) = true := by simp
  unfold isInstance
  repeat (first | with_reducible refine wpAny_loadPart_at hget ?_ | (with_reducible refine wpAny_isSubtype_exc hC2 ?_; rw [hcC]) | wp_step)
  show wpAny _ _ (typeLookup (.ref C) _) _ _ _
  refine wpAny_typeLookup_tail hC2 (hn.keeps k2) (T.keeps k2) F.mroIs F.init.lookup ?_
  rw [hi]
  refine wpAny_holding (wpAny_bind ?_)
  unfold bindSpecial
  refine wpAny_bind (wpAny_typeOf (T := "function") ⟨_, k2 _ _ hfI, hfc⟩ ?_)
  rw [if_pos (by decide)]
  refine wpAny_pure (wpAny_bind (wpAny_mono (hq _ (h.objs.size + 1) ⟨k2, Heap.get?_none_of_le (Nat.le_succ _), h.objs.size, hget, Heap.get?_none_of_le (Nat.le_refl _), htup⟩) (fun r s' hr => ?_) fun _ _ x => x))
  obtain ⟨rfl, hQ⟩ := hr
  wp_walk
  exact hQ

theorem exc_refuse (self : Value) (C D : Addr) : refuseLoop self "__setattr__" [.ref C, .ref D, .type "Exception", .type "BaseException", .type "object"] = pure () := by
  rw [refuseLoop_ref, refuseLoop_ref]
  kernel_rfl
end

section
variable {prog : Program} {w : World} {A : Around} {E : Value → Shared → Prop} {s : Shared}
/-- an attribute is stored into an instance that has no dict yet -/
theorem exc_osa {K : Frag} {x C : Addr} {ox : Obj} {vs : Array Value} {cd : ClassData} {name : PySem.Str} {tk : Tok} {v : Value} {R : Result → Shared → Prop} (X : K.In s.heap) (I : InstAt s.heap x ox C none) (hcd : clsIn K C = some cd) (hd : cd.hasDict = true)
    (hm : cd.mro.contains (.type "object") = true) (hr : refuseLoop (.ref x) "__setattr__" cd.mro = pure ()) (ht : takerIn K C name = some none) (hnd : ox.dict = none) (hda : ox.data = .fields vs)
    (h : ∀ h', (∀ b o, b ≠ x → s.heap.get? b = some o → h'.get? b = some o) → h'.get? x = some { ox with dict := some s.heap.objs.size } → R (.ok (.ret .none)) { s with heap := h', toks := s.toks + 1 }) :
    codeAny (model prog w) A (.call (.builtin "object.__setattr__") ⟨[.ref x, .str name tk, v], []⟩) R s := by
  have ne : cd.mro.isEmpty = false := by cases q : cd.mro with | nil => rw [q] at hm; cases hm | cons _ _ => rfl
  obtain ⟨hx, hcls, hno, -⟩ := id I
  have SF := PySem.F.store_object
  have sub : Looks (model prog w) s.heap (isInstance (.ref x) (.type "object")) true := I.type.andThen (looks_mroIn X (by unfold mroIn; rw [hcd, Option.bind_some, if_neg (by rw [ne]; decide), hm]))
  refine codeAny_call_builtin SF.slot.plain SF.entry (@check_slot (model prog w) _ _ s "object.__setattr__" "object" "__setattr__" (.ref x) [.str name tk, v] [] _ SF.kind SF.split sub (SF.args (.ref x) (.str name tk) v) ?_)
  obtain ⟨attr, ha, hr'⟩ := Option.bind_eq_some_iff.mp ht
  have L3 : Looks (model prog w) s.heap (Builtin.ObjectAttr.storeTaker? attr) none := by
    cases attr with
    | none => exact .now
    | some a =>
      obtain ⟨b, hb, e⟩ := Option.map_eq_some_iff.mp hr'
      refine (looks_takesIn X hb).andThen ?_
      cases b with
      | false => exact .now
      | true => cases e
  have hmro : Looks (model prog w) s.heap (mroOf (.ref C)) cd.mro := (looks_clsIn X hcd).andThen .now
  rw [osa_eq, refuse_eq]
  refine wpAny_bind (wpAny_bind (I.type.here (wpAny_bind (hmro.here ?_))))
  rw [hr]
  refine wpAny_pure (wpAny_bind (I.type.here (wpAny_bind ((looks_findIn X ha).here (wpAny_bind (L3.here ?_))))))
  show wpAny _ _ (Builtin.ObjectAttr.storeInOwnDict (.ref x) (.ref C) (.str name tk) name v attr.isSome) _ _ _
  have hpush := Heap.get?_push_of_some (h := s.heap) { cls := .type "dict", data := .dict #[] } hx
  have hxd : s.heap.objs.size ≠ x := Nat.ne_of_gt (Heap.lt_size hx)
  refine wpAny_bind (wpAny_pure (wpAny_bind (wpAny_bind (wpAny_loadPart hx ?_))))
  rw [hcls]
  refine wpAny_bind ((looks_clsIn X hcd).here ?_)
  rw [hd, hnd]
  obtain ⟨oc, od, oda, osl⟩ := ox
  dsimp only at hcls hnd hda ⊢
  subst hcls hnd hda
  rw [if_neg (by decide)]
  rw [show typeHasDict (.ref C) = true from rfl, if_neg (by decide)]
  have hg := Heap.get?_push_size s.heap (o := { cls := .type "dict", data := .dict #[] }) rfl
  refine wpAny_bind (wpAny_alloc (wpAny_bind (wpAny_update hpush (wpAny_pure (a := some s.heap.objs.size) ?_))))
  generalize e1 : (s.heap.push { cls := .type "dict", data := .dict #[] }).update x (fun o => { o with dict := some s.heap.objs.size }) = h1
  have g1 : h1.get? s.heap.objs.size = some { cls := .type "dict", data := .dict #[] } := by rw [← e1, Heap.get?_update_other _ _ (Ne.symm hxd)]; exact hg
  have g2 : h1.get? x = some { cls := .ref C, dict := some s.heap.objs.size, data := .fields vs, slots := osl } := by rw [← e1]; exact Heap.get?_update_self _ hpush rfl
  have g3 : ∀ b o, b ≠ x → s.heap.get? b = some o → h1.get? b = some o := fun b o ne e => by rw [← e1, Heap.get?_update_other _ _ (Ne.symm ne)]; exact Heap.get?_push_of_some _ e
  have n1 : h1.Ns1 s.heap.objs.size fun _ => none := Heap.Ns1.of_empty ⟨_, #[], _, g1, rfl, fun e he => absurd he (by simp), fun _ => rfl⟩
  show wpAny _ _ (Builtin.ObjectAttr.storeInDict s.heap.objs.size (.str name tk) name v) _ _ _
  unfold Builtin.ObjectAttr.storeInDict Builtin.ObjectAttr.newKeyGuard
  refine wpAny_bind (wpAny_pure (wpAny_bind (wpAny_nsSet1 (s := { s with heap := h1 }) n1 fun h' hn' hs' => ?_)))
  obtain ⟨oD, esD, epD, hoD, hdD, hcD⟩ := hn'.count (ns := [name]) (fun y hy => by
    by_cases z : y = name
    · rw [z]; exact .head _
    · rw [if_neg z] at hy; exact absurd rfl hy)
  refine wpAny_bind (wpAny_lookBehind hoD (by rw [hdD]; exact pastItsLine_dict (by rw [sizeLine_eq]; simp at hcD; exact Om0 hcD)) (wpAny_pure ?_))
  exact h h' (fun b o ne e => (hs'.2 b (Nat.ne_of_lt (Heap.lt_size e))).trans (g3 b o ne e)) ((hs'.2 x (Ne.symm hxd)).trans g2)

/-- raise, of an instance of an exception class of one's own -/
theorem exc_raise {K : Frag} {C : Addr} {cd : ClassData} {x : PySem.Expr} {env : Env} {pos : Pos} {Q : Flow → Shared → Prop} (hcd : clsIn K C = some cd) (hb : cd.mro.contains (.type "BaseException") = true)
    (hty : typeIn K (.ref C) = some (.type "type")) (hh : A.handled = none)
    (h : wpAny (model prog w) A (eval x env) (fun v s₁ => ∃ e oe vs, v = .ref e ∧ K.In s₁.heap ∧ s₁.heap.get? e = some oe ∧ oe.cls = .ref C ∧ oe.data = .fields vs ∧ vs[1]? = some .none ∧ E (.ref e) s₁) E s) :
    wpAny (model prog w) A (exec (.Raise (some x) none pos) env) Q E s := by
  rw [arm_exec_Raise]
  refine wpAny_bind (wpAny_standAt ?_)
  show wpAny (model prog w) A (raiseStmt env (some (do let v ← eval x env; standAt pos; pure v)) none) Q E s
  unfold raiseStmt
  refine wpAny_bind (wpAny_bind (wpAny_mono h (fun v s₁ h₁ => wpAny_bind (wpAny_standAt (wpAny_pure ?_))) fun _ _ x => x))
  obtain ⟨e, oe, vs, rfl, X, I, hcl, hd, h1, hE⟩ := h₁
  have It : Looks (model prog w) s₁.heap (typeOf (.ref e)) (.ref C) := hcl ▸ (Looks.ld I).andThen .now
  have ne : cd.mro.isEmpty = false := by cases q : cd.mro with | nil => rw [q] at hb; cases hb | cons _ _ => rfl
  have inst : ∀ {b : Value} {r : Bool}, cd.mro.contains b = r → Looks (model prog w) s₁.heap (isSubtype (.ref C) b) r := fun e => looks_mroIn X (by unfold mroIn; rw [hcd, Option.bind_some, if_neg (by rw [ne]; decide), e])
  have L1 : Looks (model prog w) s₁.heap (isType (.ref e)) false := (Looks.ld I).andThen (by
    show Looks _ _ (pure (match oe.data with | .cls _ => true | _ => false)) false
    rw [hd]; exact .now)
  have L2 : Looks (model prog w) s₁.heap (isInstance (.ref e) (.type "BaseException")) true := It.andThen (inst hb)
  have L3 : Looks (model prog w) s₁.heap (excFromValue (.ref e) "exceptions must derive from BaseException") (.ref e) :=
    Looks.andThen (Looks.andThen L1 .now) (L2.andThen .now)
  have L4 : Looks (model prog w) s₁.heap (raisedInstance (.ref e)) (.ref e) := It.andThen ((looks_typeIn X hty).andThen .now)
  refine wpAny_bind (wpAny_pure ?_)
  refine wpAny_bind (wpAny_holding (L3.here (wpAny_bind (L1.here (wpAny_bind (L4.here ?_))))))
  refine wpAny_bind (wpAny_bind (wpAny_field I hd h1 ?_))
  rw [if_neg (by decide)]
  refine wpAny_pure ?_
  unfold raiseNew
  refine wpAny_bind (wpAny_handled ?_)
  rw [hh]
  exact wpAny_throw hE

set_option tactic.hygienic true in
theorem exc_matches {K : Frag} {M : Model} {h : Heap} {C e : Addr} {cd : ClassData} {oe : Obj} (X : K.In h) (I : h.get? e = some oe) (hcl : oe.cls = .ref C) (hcd : clsIn K C = some cd) (hb : cd.mro.contains (.type "BaseException") = true) (hc : cd.mro.contains (.ref C) = true)
    (hty : typeIn K (.ref C) = some (.type "type")) : Looks M h (excMatches (.ref e) (.ref C)) true := by
  have ne : cd.mro.isEmpty = false := by cases q : cd.mro with | nil => rw [q] at hb; cases hb | cons _ _ => rfl
  have inst : ∀ {b : Value} {r : Bool}, cd.mro.contains b = r → Looks M h (isSubtype (.ref C) b) r := fun e => looks_mroIn X (by unfold mroIn; rw [hcd, Option.bind_some, if_neg (by rw [ne]; decide), e])
  have hC : ∃ oc, h.get? C = some oc ∧ oc.data = .cls cd := by
    unfold clsIn at hcd
    split at hcd
    · rename_i ho; cases hcd; exact ⟨_, X _ _ ho, rfl⟩
    · cases hcd
  obtain ⟨oc, hC, hdC⟩ := hC
  have L1 : Looks M h (isInstance (.ref C) (.type "tuple")) false := (looks_typeIn X hty).andThen (Looks.of_pure (by rw [isSubtype_type]; kernel_rfl))
  have L2 : Looks M h (isExcClass (.ref C)) true := Looks.andThen ((Looks.ld hC).andThen (by
    show Looks _ _ (pure (match oc.data with | .cls _ => true | _ => false)) true
    rw [hdC]; exact .now)) (show Looks M h (if true = true then isSubtype (.ref C) (.type "BaseException") else pure false) true from (inst hb))
  unfold excMatches
  refine L1.andThen ?_
  refine Looks.andThen .now ?_
  refine Looks.andThen (a := ()) ?_ ?_
  · simp only [List.forIn_cons, List.forIn_nil]
    exact Looks.andThen (Looks.andThen L2 .now) .now
  · refine Looks.andThen (a := .ref C) (hcl ▸ (Looks.ld I).andThen .now) ?_
    simp only [List.forIn_cons, List.forIn_nil]
    exact Looks.andThen (Looks.andThen (Looks.andThen (inst hc) .now) .now) .now

theorem exc_catch {K : Frag} {C e : Addr} {cd : ClassData} {t : PySem.Expr} {env : Env} {b₀ : Stmt} {suite : List Stmt} {pos : Pos} {rest : List ExceptHandler} {Q : Flow → Shared → Prop} (hcd : clsIn K C = some cd) (hb : cd.mro.contains (.type "BaseException") = true) (hc : cd.mro.contains (.ref C) = true)
    (hty : typeIn K (.ref C) = some (.type "type"))
    (h : wpAny (model prog w) (A.mark (some (.ref e))) (eval t env) (fun c s₁ => c = .ref C ∧ K.In s₁.heap ∧ (∃ oe, s₁.heap.get? e = some oe ∧ oe.cls = .ref C) ∧
      wpAny (model prog w) (A.mark (some (.ref e))) (setFlight (.ref e) none) (fun _ s₂ => wpAny (model prog w) (A.mark (some (.ref e))) (execs (b₀ :: suite) env) Q (fun _ _ => False) s₂) (fun _ _ => False) s₁) (fun _ _ => False) s) :
    wpAny (model prog w) A (handleBy (.ref e) env (.ExceptHandler (some t) none (b₀ :: suite) pos :: rest)) Q E s := by
  have no : ∀ {α : Type} {M : Model} {A : Around} {m : Sem α} {P : α → Shared → Prop} {E : Value → Shared → Prop} {s : Shared}, wpAny M A m P (fun _ _ => False) s → wpAny M A m P E s := fun h => wpAny_mono h (fun _ _ x => x) fun _ _ x => x.elim
  refine wpAny_handleBy_cons (codeAny_handlers_test (no (wpAny_mono h (fun c s₁ h₁ => ?_) fun _ _ x => x))) (fun q => nomatch q)
  obtain ⟨rfl, X, ⟨oe, I, hcl⟩, k⟩ := h₁
  refine (exc_matches X I hcl hcd hb hc hty).here (codeAny_handlers_suite (no (wpAny_mono k (fun _ _ z => no z) fun _ _ x => x)))
end

end Mine
end

/-! N1 -/
noncomputable section
set_option maxHeartbeats 200000
open PyProof.Rows PySem PySem.Calls PySem.W
namespace Mine

theorem and_l {a b : Bool} (h : (a && b) = true) : a = true := (Bool.and_eq_true_iff.mp h).1
theorem and_r {a b : Bool} (h : (a && b) = true) : b = true := (Bool.and_eq_true_iff.mp h).2

/-- abstract values: immutable data as trees, mutable objects by number -/
inductive V where
  | none
  | bool (b : Bool)
  | int (i : Int)
  | str (s : PySem.Str)
  | tup (vs : List V)
  | obj (i : Nat)
  deriving Inhabited

inductive AObj where
  | list (xs : List V)
  | dictI (es : List (Int × V))
  | dictS (es : List (PySem.Str × V))
  | dictT (es : List (List Int × V))
  | set (xs : List Int)
  | inst (C : Nat) (d : Nat)
  | ns (fs : List (Nat × V))
  | exc (st : Nat)
  deriving Inhabited

noncomputable abbrev AH := List AObj

mutual
noncomputable def Rel (h : Heap) (φ : List Addr) : V → Value → Prop
  | .none, v => v = .none
  | .bool b, v => v = .bool b
  | .int i, v => ∃ t, v = .int i t
  | .str s, v => ∃ t, v = .str s t
  | .obj i, v => ∃ a, φ[i]? = some a ∧ v = .ref a
  | .tup vs, v => ∃ a ws, v = .ref a ∧ IsTup h a ws ∧ RelL h φ vs ws.toList
noncomputable def RelL (h : Heap) (φ : List Addr) : List V → List Value → Prop
  | [], ws => ws = []
  | v :: vs, ws => ∃ w ws', ws = w :: ws' ∧ Rel h φ v w ∧ RelL h φ vs ws'
end

theorem RelL.cons {h : Heap} {φ : List Addr} {v : V} {vs : List V} {w : Value} {ws : List Value} (x : Rel h φ v w) (y : RelL h φ vs ws) : RelL h φ (v :: vs) (w :: ws) := ⟨_, _, rfl, x, y⟩
theorem RelL.nil {h : Heap} {φ : List Addr} : RelL h φ [] [] := rfl

/-- tuples are kept -/
noncomputable def TK (h h' : Heap) : Prop := ∀ a ws, IsTup h a ws → IsTup h' a ws
theorem TK.refl (h : Heap) : TK h h := fun _ _ x => x
theorem TK.trans {h h' h'' : Heap} (x : TK h h') (y : TK h' h'') : TK h h'' := fun a ws z => y a ws (x a ws z)

theorem prefix_get {φ φ' : List Addr} (p : φ <+: φ') {i : Nat} {a : Addr} (e : φ[i]? = some a) : φ'[i]? = some a := by
  obtain ⟨ψ, rfl⟩ := p
  rw [List.getElem?_append_left (List.getElem?_eq_some_iff.mp e).1]; exact e

theorem prefix_get' {α : Type} {φ φ' : List α} (p : φ <+: φ') {i : Nat} {a : α} (e : φ[i]? = some a) : φ'[i]? = some a := by
  obtain ⟨ψ, rfl⟩ := p
  rw [List.getElem?_append_left (List.getElem?_eq_some_iff.mp e).1]; exact e
theorem append_get {φ : List Addr} {b a : Addr} {i : Nat} (e : (φ ++ [b])[i]? = some a) : φ[i]? = some a ∨ a = b := by
  by_cases q : i < φ.length
  · rw [List.getElem?_append_left q] at e; exact .inl e
  · rw [List.getElem?_append_right (by exact Om1 q)] at e
    cases z : i - φ.length with
    | zero => rw [z] at e; simp at e; exact .inr e.symm
    | succ n => rw [z] at e; simp at e

mutual
theorem Rel.mono {h h' : Heap} {φ φ' : List Addr} (p : φ <+: φ') (k : TK h h') : ∀ {v : V} {w : Value}, Rel h φ v w → Rel h' φ' v w
  | .none, _, x => x
  | .bool _, _, x => x
  | .int _, _, x => x
  | .str _, _, x => x
  | .obj _, _, ⟨a, e, q⟩ => ⟨a, prefix_get p e, q⟩
  | .tup _, _, ⟨a, ws, e, t, r⟩ => ⟨a, ws, e, k _ _ t, RelL.mono p k r⟩
theorem RelL.mono {h h' : Heap} {φ φ' : List Addr} (p : φ <+: φ') (k : TK h h') : ∀ {vs : List V} {ws : List Value}, RelL h φ vs ws → RelL h' φ' vs ws
  | [], _, x => x
  | _ :: _, _, ⟨w, ws', e, a, b⟩ => ⟨w, ws', e, Rel.mono p k a, RelL.mono p k b⟩
end

theorem RelL.length {h : Heap} {φ : List Addr} : ∀ {vs : List V} {ws : List Value}, RelL h φ vs ws → ws.length = vs.length
  | [], _, e => by cases e; rfl
  | _ :: _, _, ⟨_, _, e, _, r⟩ => by rw [e, List.length_cons, List.length_cons, r.length]
theorem RelL.get {h : Heap} {φ : List Addr} : ∀ {vs : List V} {ws : List Value} {i : Nat} {v : V}, RelL h φ vs ws → vs[i]? = some v → ∃ w, ws[i]? = some w ∧ Rel h φ v w
  | [], _, _, _, _, q => by simp at q
  | _ :: _, _, 0, _, ⟨w, _, e, a, _⟩, q => by
    simp only [List.getElem?_cons_zero, Option.some.injEq] at q
    subst q e
    exact ⟨w, rfl, a⟩
  | _ :: _, _, i + 1, _, ⟨_, _, e, _, r⟩, q => by
    subst e
    simp only [List.getElem?_cons_succ] at q ⊢
    exact r.get q
theorem RelL.append {h : Heap} {φ : List Addr} : ∀ {vs us : List V} {ws xs : List Value}, RelL h φ vs ws → RelL h φ us xs → RelL h φ (vs ++ us) (ws ++ xs)
  | [], _, _, _, e, r => by cases e; exact r
  | _ :: _, _, _, _, ⟨_, _, e, a, r⟩, r' => by subst e; exact ⟨_, _, rfl, a, r.append r'⟩
theorem RelL.set {h : Heap} {φ : List Addr} : ∀ {vs : List V} {ws : List Value} {i : Nat} {v : V} {w : Value}, RelL h φ vs ws → Rel h φ v w → RelL h φ (vs.set i v) (ws.set i w)
  | [], _, _, _, _, e, _ => by cases e; rfl
  | _ :: _, _, 0, _, _, ⟨_, _, e, _, r⟩, q => by subst e; exact ⟨_, _, rfl, q, r⟩
  | _ :: _, _, _ + 1, _, _, ⟨_, _, e, a, r⟩, q => by subst e; exact ⟨_, _, rfl, a, r.set q⟩
theorem RelL.take {h : Heap} {φ : List Addr} : ∀ (n : Nat) {vs : List V} {ws : List Value}, RelL h φ vs ws → RelL h φ (vs.take n) (ws.take n)
  | 0, _, _, _ => rfl
  | _ + 1, [], _, e => by cases e; rfl
  | n + 1, _ :: _, _, ⟨_, _, e, a, r⟩ => by subst e; exact ⟨_, _, rfl, a, r.take n⟩
theorem RelL.drop {h : Heap} {φ : List Addr} : ∀ (n : Nat) {vs : List V} {ws : List Value}, RelL h φ vs ws → RelL h φ (vs.drop n) (ws.drop n)
  | 0, _, _, r => r
  | _ + 1, [], _, e => by cases e; rfl
  | n + 1, _ :: _, _, ⟨_, _, e, _, r⟩ => by subst e; exact r.drop n

section
variable {K : Type} [DecidableEq K]
noncomputable def vAt (es : List (K × V)) (k : K) : Option V := (es.find? fun kv => kv.1 = k).map (·.2)
noncomputable def vPut (es : List (K × V)) (k : K) (v : V) : List (K × V) :=
  if es.any (fun kv => kv.1 = k) then es.map (fun kv => if kv.1 = k then (kv.1, v) else kv) else es ++ [(k, v)]

noncomputable def RelKV (h : Heap) (φ : List Addr) : List (K × V) → List (K × Value) → Prop
  | [], ys => ys = []
  | (k, v) :: xs, ys => ∃ w ys', ys = (k, w) :: ys' ∧ Rel h φ v w ∧ RelKV h φ xs ys'
theorem RelKV.mono {h h' : Heap} {φ φ' : List Addr} (p : φ <+: φ') (k : TK h h') : ∀ {xs : List (K × V)} {ys : List (K × Value)}, RelKV h φ xs ys → RelKV h' φ' xs ys
  | [], _, x => x
  | (_, _) :: _, _, ⟨w, ys', e, a, b⟩ => ⟨w, ys', e, Rel.mono p k a, RelKV.mono p k b⟩
theorem RelKV.length {h : Heap} {φ : List Addr} : ∀ {xs : List (K × V)} {ys : List (K × Value)}, RelKV h φ xs ys → ys.length = xs.length
  | [], _, e => by cases e; rfl
  | (_, _) :: _, _, ⟨_, _, e, _, r⟩ => by rw [e, List.length_cons, List.length_cons, r.length]
theorem RelKV.at_ {h : Heap} {φ : List Addr} : ∀ {xs : List (K × V)} {ys : List (K × Value)} (k : K), RelKV h φ xs ys →
    match vAt xs k with
    | some v => ∃ w, valueAt ys k = some w ∧ Rel h φ v w
    | none => valueAt ys k = none
  | [], _, _, e => by cases e; rfl
  | (j, v) :: xs, _, k, ⟨w, ys', e, a, r⟩ => by
    subst e
    unfold vAt valueAt
    by_cases q : j = k
    · simp only [List.find?_cons, q, decide_true, Option.map_some]; exact ⟨w, rfl, a⟩
    · simp only [List.find?_cons, q, decide_false]; exact r.at_ k
theorem RelKV.any {h : Heap} {φ : List Addr} : ∀ {xs : List (K × V)} {ys : List (K × Value)} (k : K), RelKV h φ xs ys → (xs.any fun kv => decide (kv.1 = k)) = ys.any fun kv => decide (kv.1 = k)
  | [], _, _, e => by cases e; rfl
  | (_, _) :: _, _, k, ⟨_, _, e, _, r⟩ => by subst e; rw [List.any_cons, List.any_cons, r.any k]
theorem RelKV.map {h : Heap} {φ : List Addr} : ∀ {xs : List (K × V)} {ys : List (K × Value)} (k : K) {v : V} {w : Value}, RelKV h φ xs ys → Rel h φ v w →
    RelKV h φ (xs.map fun kv => if kv.1 = k then (kv.1, v) else kv) (ys.map fun kv => if kv.1 = k then (kv.1, w) else kv)
  | [], _, _, _, _, e, _ => by cases e; rfl
  | (j, _) :: _, _, k, _, _, ⟨_, _, e, a, r⟩, q => by
    subst e
    rw [List.map_cons, List.map_cons]
    by_cases z : j = k
    · rw [if_pos z, if_pos z]; exact ⟨_, _, rfl, q, r.map k q⟩
    · rw [if_neg z, if_neg z]; exact ⟨_, _, rfl, a, r.map k q⟩
theorem RelKV.snoc {h : Heap} {φ : List Addr} : ∀ {xs : List (K × V)} {ys : List (K × Value)} {k : K} {v : V} {w : Value}, RelKV h φ xs ys → Rel h φ v w → RelKV h φ (xs ++ [(k, v)]) (ys ++ [(k, w)])
  | [], _, _, _, _, e, q => by cases e; exact ⟨_, _, rfl, q, rfl⟩
  | (_, _) :: _, _, _, _, _, ⟨_, _, e, a, r⟩, q => by subst e; exact ⟨_, _, rfl, a, r.snoc q⟩
theorem RelKV.put {h : Heap} {φ : List Addr} {xs : List (K × V)} {ys : List (K × Value)} (k : K) {v : V} {w : Value} (r : RelKV h φ xs ys) (q : Rel h φ v w) : RelKV h φ (vPut xs k v) (stored ys k w) := by
  unfold vPut stored
  rw [r.any k]
  split
  · exact r.map k q
  · exact r.snoc q
end

/-- the attribute names' table -/
noncomputable def attrNames : List PySem.Str := (["texts", "atom_numbers", "functors", "functor_numbers", "symbols", "max_heap", "heap", "stack", "trail", "hb", "bb", "span", "met", "ball"] : List String).map PySem.Str.ofString
noncomputable def attrName (i : Nat) : PySem.Str := attrNames.getD i PySem.Str.empty

/-- what is fixed -/
structure Cx where
  prog : Program
  w : World
  K : Frag
  hB : Heap
  cls : Nat → Addr
  nc : Nat
  exc : Addr

/-- an instance's own names -/
structure NsRel (h : Heap) (φ : List Addr) (a : Addr) (fs : List (Nat × V)) : Prop where
  ns : ∃ m, h.Ns1 a m ∧ (∀ i v, fs.lookup i = some v → ∃ w, m (attrName i) = some w ∧ Rel h φ v w) ∧ ∀ x w, m x = some w → ∃ i v, fs.lookup i = some v ∧ x = attrName i
  lt : ∀ i v, fs.lookup i = some v → i < attrNames.length
theorem NsRel.mono {h h' : Heap} {φ φ' : List Addr} {a : Addr} {fs : List (Nat × V)} (p : φ <+: φ') (k : TK h h') (e : h'.get? a = h.get? a) (x : NsRel h φ a fs) : NsRel h' φ' a fs := by
  obtain ⟨⟨m, ⟨o, es, ep, ho, r⟩, h1, h2⟩, lt⟩ := x
  exact ⟨⟨m, ⟨o, es, ep, e.trans ho, r⟩, fun i v q => let ⟨w, a, b⟩ := h1 i v q; ⟨w, a, b.mono p k⟩, h2⟩, lt⟩

/-- a dict with tuples of ints as keys -/
noncomputable def DictT (prog : Program) (w : World) (h : Heap) (φ : List Addr) (a : Addr) (es : List (List Int × V)) : Prop :=
  ∃ xs : List (List Int × Addr × Value), h.DictOfH (tupleKind (intKind prog w)) a xs ∧ RelKV h φ es (xs.map fun x => (x.1, x.2.2))

noncomputable def ObjRel (C : Cx) (h : Heap) (φ : List Addr) (a : Addr) : AObj → Prop
  | .list xs => ∃ ws n, h.get? a = some (listOf ws n) ∧ RelL h φ xs ws.toList
  | .dictI es => ∃ kvs, h.DictOf (intKind C.prog C.w) a kvs ∧ RelKV h φ es kvs
  | .dictS es => ∃ kvs, h.DictOf (strKind C.prog C.w) a kvs ∧ RelKV h φ es kvs
  | .dictT es => DictT C.prog C.w h φ a es
  | .set xs => ∃ S, h.SetOf (intKind C.prog C.w) a S xs.length ∧ ∀ k, S k = true ↔ k ∈ xs
  | .inst c d => c < C.nc ∧ ∃ da, φ[d]? = some da ∧ h.get? a = some (instObj (C.cls c) da)
  | .ns fs => NsRel h φ a fs
  | .exc st => ∃ ob t vs, h.get? a = some ob ∧ ob.cls = .ref C.exc ∧ ob.data = .fields vs ∧ vs[0]? = some (.ref t) ∧ (st < 2 → vs[1]? = some .none) ∧ (st = 0 → ob.dict = none)

/-- an object that is no tuple -/
noncomputable def NoTup (o : Obj) : Prop := ¬ (o.cls = .type "tuple" ∧ ∃ ws n, o.data = .seq ws n)
theorem ObjRel.live {C : Cx} {h : Heap} {φ : List Addr} {a : Addr} {o : AObj} (x : ObjRel C h φ a o) : ∃ ob, h.get? a = some ob ∧ NoTup ob := by
  cases o with
  | list xs => obtain ⟨ws, n, e, _⟩ := x; exact ⟨_, e, fun q => by have := q.1; simp at this⟩
  | dictI es => obtain ⟨kvs, ⟨ob, _, _, e, q, _⟩, _⟩ := x; exact ⟨ob, e, fun z => by have := z.1; rw [q.1] at this; simp at this⟩
  | dictS es => obtain ⟨kvs, ⟨ob, _, _, e, q, _⟩, _⟩ := x; exact ⟨ob, e, fun z => by have := z.1; rw [q.1] at this; simp at this⟩
  | dictT es => obtain ⟨xs, ⟨ob, _, _, e, q, _⟩, _⟩ := x; exact ⟨ob, e, fun z => by have := z.1; rw [q.1] at this; simp at this⟩
  | set xs => obtain ⟨S, ⟨ob, _, _, _, e, q, _⟩, _⟩ := x; exact ⟨ob, e, fun z => by have := z.1; rw [q.1] at this; simp at this⟩
  | inst c d => obtain ⟨_, da, _, e⟩ := x; exact ⟨_, e, fun q => by have := q.1; simp at this⟩
  | ns fs => obtain ⟨⟨m, ⟨ob, _, _, e, q, _⟩, _⟩, _⟩ := x; exact ⟨ob, e, fun z => by obtain ⟨_, _, _, w⟩ := z; rw [q] at w; cases w⟩
  | exc f => obtain ⟨ob, t, vs, e, q, _⟩ := x; exact ⟨ob, e, fun z => by have := z.1; rw [q] at this; cases this⟩

theorem isTupKey_mono {prog : Program} {w : World} {h h' : Heap} (k : TK h h') {ks : List Int} {a : Addr} (x : IsTupleKey (intKind prog w) h ks a) : IsTupleKey (intKind prog w) h' ks a := by
  obtain ⟨o, items, n, e, c, d, i⟩ := x
  obtain ⟨o', e', c', n', d'⟩ := k a items ⟨o, e, c, n, d⟩
  exact ⟨o', items, n', e', c', d', i⟩

theorem ObjRel.mono {C : Cx} {h h' : Heap} {φ φ' : List Addr} (p : φ <+: φ') (k : TK h h') {a : Addr} {o : AObj} (e : h'.get? a = h.get? a) (x : ObjRel C h φ a o) : ObjRel C h' φ' a o := by
  cases o with
  | list xs => obtain ⟨ws, n, q, r⟩ := x; exact ⟨ws, n, e.trans q, r.mono p k⟩
  | dictI es => obtain ⟨kvs, ⟨ob, es', ep, q, y⟩, r⟩ := x; exact ⟨kvs, ⟨ob, es', ep, e.trans q, y⟩, r.mono p k⟩
  | dictS es => obtain ⟨kvs, ⟨ob, es', ep, q, y⟩, r⟩ := x; exact ⟨kvs, ⟨ob, es', ep, e.trans q, y⟩, r.mono p k⟩
  | dictT es =>
    obtain ⟨xs, ⟨ob, es', ep, q, y1, y2, y3, y4, y5⟩, r⟩ := x
    exact ⟨xs, ⟨ob, es', ep, e.trans q, y1, y2, y3, fun z hz => isTupKey_mono k (y4 z hz), y5⟩, r.mono p k⟩
  | set xs => obtain ⟨S, ⟨ob, a1, a2, a3, q, y⟩, r⟩ := x; exact ⟨S, ⟨ob, a1, a2, a3, e.trans q, y⟩, r⟩
  | inst c d => obtain ⟨l, da, f, q⟩ := x; exact ⟨l, da, prefix_get p f, e.trans q⟩
  | ns fs => exact NsRel.mono p k e x
  | exc f => obtain ⟨ob, t, vs, q, r⟩ := x; exact ⟨ob, t, vs, e.trans q, r⟩

structure Ok (C : Cx) (φ : List Addr) (σ : AH) (h : Heap) : Prop where
  len : φ.length = σ.length
  nd : φ.Nodup
  new : ∀ (i : Nat) (a : Addr), i ≠ 0 → φ[i]? = some a → C.hB.get? a = none
  zero : ∃ xs, σ[0]? = some (.list xs)
  base : C.hB.StaysIn h
  obj : ∀ (i : Nat) (o : AObj), σ[i]? = some o → ∃ a, φ[i]? = some a ∧ ObjRel C h φ a o

theorem Ok.nz {C : Cx} {φ : List Addr} {σ : AH} {h : Heap} (x : Ok C φ σ h) {i : Nat} {o : AObj} (e : σ[i]? = some o) (ho : ∀ xs, o ≠ .list xs) : i ≠ 0 := fun z => by
  obtain ⟨xs, q⟩ := x.zero
  rw [z, q] at e
  exact ho xs (Option.some.inj e).symm
theorem Ok.at_ {C : Cx} {φ : List Addr} {σ : AH} {h : Heap} (x : Ok C φ σ h) {i : Nat} {a : Addr} (e : φ[i]? = some a) : ∃ o, σ[i]? = some o ∧ ObjRel C h φ a o := by
  have hi : i < σ.length := x.len ▸ (List.getElem?_eq_some_iff.mp e).1
  obtain ⟨b, hb, r⟩ := x.obj i σ[i] (List.getElem?_eq_getElem hi)
  rw [e] at hb; cases hb
  exact ⟨_, List.getElem?_eq_getElem hi, r⟩
theorem Ok.live {C : Cx} {φ : List Addr} {σ : AH} {h : Heap} (x : Ok C φ σ h) {a : Addr} (m : a ∈ φ) : ∃ ob, h.get? a = some ob ∧ NoTup ob := by
  obtain ⟨i, e⟩ := List.mem_iff_getElem?.mp m
  obtain ⟨o, _, r⟩ := x.at_ e
  exact r.live
theorem Ok.notup {C : Cx} {φ : List Addr} {σ : AH} {h : Heap} (x : Ok C φ σ h) {a : Addr} {ws : Array Value} (t : IsTup h a ws) : a ∉ φ := fun m => by
  obtain ⟨ob, e, n⟩ := x.live m
  obtain ⟨o, e', c, k, d⟩ := t
  rw [e] at e'; cases e'
  exact n ⟨c, ws, k, d⟩

/-- the same, but for a namespace's slots -/
noncomputable def Same (o o' : Obj) : Prop := o' = o ∨ (∃ es ep, o.data = .dict es ep) ∧ ∃ sl, o' = { o with slots := sl }
theorem Same.refl (o : Obj) : Same o o := .inl rfl
theorem Same.cls {o o' : Obj} (x : Same o o') : o'.cls = o.cls := by
  rcases x with rfl | ⟨_, sl, rfl⟩ <;> rfl
theorem Same.data {o o' : Obj} (x : Same o o') : o'.data = o.data := by
  rcases x with rfl | ⟨_, sl, rfl⟩ <;> rfl
theorem Same.trans {o o' o'' : Obj} (x : Same o o') (y : Same o' o'') : Same o o'' := by
  rcases x with rfl | ⟨d, sl, rfl⟩
  · exact y
  · rcases y with rfl | ⟨d', sl', rfl⟩
    · exact .inr ⟨d, sl, rfl⟩
    · exact .inr ⟨d, sl', rfl⟩
theorem Same.eq {o o' : Obj} (x : Same o o') (h : ∀ es ep, o.data ≠ .dict es ep) : o' = o := by
  rcases x with rfl | ⟨⟨es, ep, d⟩, _⟩
  · rfl
  · exact absurd d (h es ep)
theorem Same.ns {h h' : Heap} {a : Addr} {m : PySem.Str → Option Value} (x : h.Ns a m) (k : ∀ o, h.get? a = some o → ∃ o', h'.get? a = some o' ∧ Same o o') : h'.Ns a m :=
  let ⟨o, es, ep, e, d, r⟩ := x; let ⟨o', e', s⟩ := k o e; ⟨o', es, ep, e', s.data.trans d, r⟩

/-- what a run of a part does to the heap: all but the objects of the call and X is kept -/
structure Ext (X : List Addr) (φ : List Addr) (h : Heap) (φ' : List Addr) (h' : Heap) : Prop where
  pre : ∃ ψ, φ' = φ ++ ψ ∧ ∀ a ∈ ψ, h.get? a = none
  keep : ∀ a o, a ∉ φ → a ∉ X → h.get? a = some o → ∃ o', h'.get? a = some o' ∧ Same o o'
  live : ∀ a, a ∈ φ ∨ a ∈ X → h.get? a ≠ none → h'.get? a ≠ none

theorem Ext.of_keep {X φ : List Addr} {h h' : Heap} (k : ∀ a o, h.get? a = some o → h'.get? a = some o) : Ext X φ h φ h' := ⟨⟨[], by simp, fun _ hm => nomatch hm⟩, fun a o _ _ e => ⟨o, k a o e, .refl o⟩, fun a _ e => by
  obtain ⟨o', q⟩ := Option.ne_none_iff_exists'.mp e
  rw [k a o' q]; exact fun h => nomatch h⟩
theorem Ext.refl (X φ : List Addr) (h : Heap) : Ext X φ h φ h := .of_keep fun _ _ e => e
theorem Ext.pref {X φ φ' : List Addr} {h h' : Heap} (x : Ext X φ h φ' h') : φ <+: φ' := let ⟨ψ, e, _⟩ := x.pre; ⟨ψ, e.symm⟩
theorem Ext.alive {X φ φ' : List Addr} {h h' : Heap} (x : Ext X φ h φ' h') {a : Addr} (e : h.get? a ≠ none) : h'.get? a ≠ none := by
  by_cases m : a ∈ φ
  · exact x.live a (.inl m) e
  · by_cases m' : a ∈ X
    · exact x.live a (.inr m') e
    · obtain ⟨o, q⟩ := Option.ne_none_iff_exists'.mp e
      obtain ⟨o', q', _⟩ := x.keep a o m m' q
      rw [q']; exact fun h => nomatch h
theorem Ext.trans {X φ φ₁ φ₂ : List Addr} {h h₁ h₂ : Heap} (x : Ext X φ h φ₁ h₁) (y : Ext X φ₁ h₁ φ₂ h₂) : Ext X φ h φ₂ h₂ := by
  obtain ⟨ψ, e, f⟩ := x.pre
  obtain ⟨ψ', e', f'⟩ := y.pre
  refine ⟨⟨ψ ++ ψ', by rw [e', e, List.append_assoc], fun a hm => ?_⟩, fun a o m m' q => ?_, fun a m q => y.alive (x.alive q)⟩
  · rcases List.mem_append.mp hm with hm | hm
    · exact f a hm
    · cases q : h.get? a with
      | none => rfl
      | some o => exact absurd (f' a hm) (x.alive (by rw [q]; exact fun h => nomatch h))
  · obtain ⟨o₁, q₁, s₁⟩ := x.keep a o m m' q
    obtain ⟨o₂, q₂, s₂⟩ := y.keep a o₁ (fun hm => by
      rw [e] at hm
      rcases List.mem_append.mp hm with hm | hm
      · exact m hm
      · rw [f a hm] at q; cases q) m' q₁
    exact ⟨o₂, q₂, s₁.trans s₂⟩
theorem Ext.weak {X Y φ φ' : List Addr} {h h' : Heap} (x : Ext X φ h φ' h') (s : ∀ a ∈ X, a ∈ Y) : Ext Y φ h φ' h' :=
  ⟨x.pre, fun a o m m' q => x.keep a o m (fun z => m' (s a z)) q, fun a _ q => x.alive q⟩
/-- what was not alive before may be turned -/
theorem Ext.strong {X Y φ φ' : List Addr} {h h' : Heap} (x : Ext Y φ h φ' h') (s : ∀ a ∈ Y, a ∈ X ∨ h.get? a = none) : Ext X φ h φ' h' :=
  ⟨x.pre, fun a o m m' q => x.keep a o m (fun z => by
    rcases s a z with z | z
    · exact m' z
    · rw [z] at q; cases q) q, fun a _ q => x.alive q⟩
theorem Ext.tk {X φ φ' : List Addr} {h h' : Heap} {C : Cx} {σ : AH} (x : Ext X φ h φ' h') (k : Ok C φ σ h) (n : ∀ a ∈ X, ∀ ws, ¬ IsTup h a ws) : TK h h' := fun a ws t => by
  have z := k.notup t
  obtain ⟨o, e, c, ep, d⟩ := t
  obtain ⟨o', e', s⟩ := x.keep a o z (fun m => n a m ws ⟨o, e, c, ep, d⟩) e
  exact ⟨o', e', s.cls.trans c, ep, s.data.trans d⟩
theorem Ext.push {X φ : List Addr} {h : Heap} (o : Obj) : Ext X φ h φ (h.push o) := .of_keep fun _ _ e => Heap.get?_push_of_some o e
theorem Ext.sameBut {X φ : List Addr} {h h' : Heap} {a : Addr} (s : Heap.SameBut a h h') (m : a ∈ φ ∨ a ∈ X) (l : h'.get? a ≠ none) : Ext X φ h φ h' :=
  ⟨⟨[], by simp, fun _ hm => nomatch hm⟩, fun b o n n' e => ⟨o, (s.2 b (fun q => by subst q; exact m.elim n n')).trans e, .refl o⟩, fun b _ e => by
    by_cases q : b = a
    · subst q; exact l
    · rw [s.2 b q]; exact e⟩
theorem Ext.extBut {X φ : List Addr} {h h' : Heap} {a : Addr} (s : Heap.ExtBut a h h') (m : h.get? a = none) : Ext X φ h φ h' :=
  .of_keep fun b o e => s b o (fun q => by subst q; rw [m] at e; cases e) e

theorem fresh_size (h : Heap) : h.get? h.objs.size = none := by
  cases q : h.get? h.objs.size with
  | none => rfl
  | some o => exact absurd (Heap.lt_size q) (Nat.lt_irrefl _)

/-- the objects stand where nothing of them was turned -/
theorem Ok.ext {C : Cx} {φ : List Addr} {σ : AH} {h h' : Heap} (k : Ok C φ σ h) (hB : C.hB.StaysIn h') (t : TK h h') (s : ∀ a ∈ φ, h'.get? a = h.get? a) : Ok C φ σ h' :=
  ⟨k.len, k.nd, k.new, k.zero, hB, fun i o e => by
    obtain ⟨a, ea, r⟩ := k.obj i o e
    exact ⟨a, ea, r.mono (List.prefix_refl _) t (s a (List.mem_of_getElem? ea))⟩⟩
theorem Ok.push {C : Cx} {φ : List Addr} {σ : AH} {h : Heap} (k : Ok C φ σ h) (o : Obj) : Ok C φ σ (h.push o) :=
  k.ext (fun b x e => Heap.get?_push_of_some o (k.base b x e)) (fun a ws t => t.push o) fun a m => by
    obtain ⟨ob, e, _⟩ := k.live m
    rw [e]; exact Heap.get?_push_of_some o e
/-- one object is turned -/
theorem Ok.upd {C : Cx} {φ : List Addr} {σ : AH} {h h' : Heap} (k : Ok C φ σ h) {i : Nat} {a : Addr} {o' : AObj} (hz : i ≠ 0) (e : φ[i]? = some a) (s : Heap.SameBut a h h') (r : TK h h' → ObjRel C h' φ a o') : Ok C φ (σ.set i o') h' := by
  have t : TK h h' := fun b ws x => by
    have z := k.notup x
    obtain ⟨ob, q, c⟩ := x
    exact ⟨ob, (s.2 b (fun w => z (w ▸ List.mem_of_getElem? e))).trans q, c⟩
  refine ⟨by rw [List.length_set]; exact k.len, k.nd, k.new, (by obtain ⟨xs, z⟩ := k.zero; exact ⟨xs, by rw [List.getElem?_set_ne hz]; exact z⟩), fun b x q => ?_, fun j o q => ?_⟩
  · have : b ≠ a := fun w => by
      have := k.new i a hz e
      rw [← w, q] at this; cases this
    exact (s.2 b this).trans (k.base b x q)
  · rw [List.getElem?_set] at q
    by_cases z : i = j
    · subst z
      rw [if_pos rfl] at q
      split at q
      · cases q; exact ⟨a, e, r t⟩
      · cases q
    · rw [if_neg z] at q
      obtain ⟨b, eb, rb⟩ := k.obj j o q
      refine ⟨b, eb, rb.mono (List.prefix_refl _) t (s.2 b fun w => z ?_)⟩
      subst w
      exact (List.getElem?_inj (List.getElem?_eq_some_iff.mp e).1 k.nd).mp (e.trans eb.symm)
/-- one object is turned, others may be made -/
theorem Ok.turn {C : Cx} {φ : List Addr} {σ : AH} {h h' : Heap} (k : Ok C φ σ h) {i : Nat} {a : Addr} {o' : AObj} (hz : i ≠ 0) (e : φ[i]? = some a) (s : ∀ b o, b ≠ a → h.get? b = some o → h'.get? b = some o) (r : TK h h' → ObjRel C h' φ a o') : Ok C φ (σ.set i o') h' := by
  have t : TK h h' := fun b ws x => by
    have z := k.notup x
    obtain ⟨ob, q, c⟩ := x
    exact ⟨ob, s b ob (fun w => z (w ▸ List.mem_of_getElem? e)) q, c⟩
  refine ⟨by rw [List.length_set]; exact k.len, k.nd, k.new, (by obtain ⟨xs, z⟩ := k.zero; exact ⟨xs, by rw [List.getElem?_set_ne hz]; exact z⟩), fun b x q => ?_, fun j o q => ?_⟩
  · exact s b x (fun w => by
      have := k.new i a hz e
      rw [← w, q] at this; cases this) (k.base b x q)
  · rw [List.getElem?_set] at q
    by_cases z : i = j
    · subst z
      rw [if_pos rfl] at q
      split at q
      · cases q; exact ⟨a, e, r t⟩
      · cases q
    · rw [if_neg z] at q
      obtain ⟨b, eb, rb⟩ := k.obj j o q
      have ne : b ≠ a := fun w => z (by
        subst w
        exact (List.getElem?_inj (List.getElem?_eq_some_iff.mp e).1 k.nd).mp (e.trans eb.symm))
      obtain ⟨ob, g, _⟩ := rb.live
      exact ⟨b, eb, rb.mono (List.prefix_refl _) t ((s b ob ne g).trans g.symm)⟩

end Mine
end

/-! N2 -/
noncomputable section
set_option genInjectivity false
set_option maxHeartbeats 200000
open PySem
namespace Mine

inductive Cm where | eq | ne | lt | le | gt | ge | isIn | notIn
  deriving DecidableEq
inductive Bo where | add | sub | mul | mod | fdiv
  deriving DecidableEq

mutual
inductive E where
  | loc (i : Nat)
  | kint (i : Int)
  | kstr (s : PySem.Str)
  | kbool (b : Bool)
  | knone
  | glob (g : Nat)
  | tup (es : EL)
  | list (es : EL)
  | dict0 (k : Nat)
  | attr (e : E) (a : Nat)
  | sub (e i : E)
  | slTo (e : E) (n : Nat)
  | cmp (op : Cm) (a b : E)
  | boolop (isAnd : Bool) (es : EL)
  | not (e : E)
  | neg (e : E)
  | bin (op : Bo) (a b : E)
  | ife (c a b : E)
  | callF (f : Nat) (es : EL)
  | callM (m : Nat) (e : E) (es : EL)
  | new (c : Nat) (es : EL)
  | blt (b : Nat) (es : EL)
  | meth (k : Nat) (e : E) (es : EL)
  | isNone (e : E)
  | isStr (e : E)
  | pow
  | slFrom (i j : Nat)
  | comp (i j : Nat)
  | newX (es : EL)
inductive EL where
  | nil
  | cons (e : E) (es : EL)
end
inductive T where
  | loc (i : Nat)
  | tup (is : List Nat)
  | attr (e : E) (a : Nat)
  | sub (e i : E)
mutual
inductive S where
  | assign (t : T) (e : E)
  | augLoc (i : Nat) (op : Bo) (e : E)
  | augSub (e i : E) (op : Bo) (r : E)
  | expr (e : E)
  | ite (c : E) (a b : SL)
  | while (c : E) (b : SL)
  | for_ (t : T) (e : E) (b : SL)
  | ret (e : E)
  | retN
  | cont
  | pass
  | delFrom (i j : Nat)
  | raise (e : E)
  | tryRet (m : Nat) (e : E) (es : EL)
  | stuck
inductive SL where
  | nil
  | cons (s : S) (ss : SL)
end

inductive Fl where
  | next
  | cont
  | ret (v : V)
  | exc

noncomputable abbrev En := Nat → Option V
noncomputable def En.put (ρ : En) (i : Nat) (v : V) : En := fun j => if j = i then some v else ρ j

/-- what the language takes of a program: globals, methods by class and name, makers, the called defs -/
structure Prg where
  xinit : Nat
  glob : Nat → Option V
  meth : Nat → Nat → Option Nat
  init : Nat → Option Nat
/-- the called defs: what they give, and where one of them raises -/
noncomputable abbrev Cf := Nat → List V → AH → (V → AH → Prop) → (AH → Prop) → Prop
noncomputable def noX : AH → Prop := fun _ => False

/-- a value as plain data: lists by what they hold, to the depth n -/
noncomputable def toPyL (f : V → Option PyData) : List V → Option (List PyData)
  | [] => some []
  | x :: xs => match f x, toPyL f xs with
    | some d, some ds => some (d :: ds)
    | _, _ => none
noncomputable def toPy (σ : AH) : Nat → V → Option PyData
  | 0, _ => none
  | n + 1, v => match v with
    | .none => some .none
    | .bool b => some (.bool b)
    | .int i => some (.int i)
    | .str s => some (.str s)
    | .tup vs => (toPyL (toPy σ n) vs).map .tuple
    | .obj i => match σ[i]? with
      | some (.list xs) => (toPyL (toPy σ n) xs).map .list
      | _ => none
/-- ==: over lists by what they hold -/
noncomputable def eqV (σ : AH) (a b : V) : Option Bool := match toPy σ 6 a, toPy σ 6 b with
  | some d, some e => if SeqAt.shaped d && SeqAt.shaped e then some (PyData.eqv d e) else none
  | _, _ => none

noncomputable def listAt (σ : AH) : V → Option (List V)
  | .obj i => match σ[i]? with
    | some (.list xs) => some xs
    | _ => none
  | _ => none
noncomputable def keyInts : List V → Option (List Int)
  | [] => some []
  | .int i :: r => (keyInts r).map (i :: ·)
  | _ :: _ => none
/-- what a dict holds under a key -/
noncomputable def dictAt (o : AObj) (k : V) : Option (Option V) := match o, k with
  | .dictI es, .int i => some (vAt es i)
  | .dictS es, .str s => some (vAt es s)
  | .dictT es, .tup ks => (keyInts ks).map (vAt es)
  | _, _ => none
noncomputable def dictPut (o : AObj) (k v : V) : Option AObj := match o, k with
  | .dictI es, .int i => if es.length < 100000 then some (.dictI (vPut es i v)) else none
  | .dictS es, .str s => if es.length < 100000 then some (.dictS (vPut es s v)) else none
  | .dictT es, .tup ks => if es.length < 100000 then (keyInts ks).map fun k => .dictT (vPut es k v) else none
  | _, _ => none
noncomputable def attrAt (σ : AH) (v : V) (a : Nat) : Option V := match v with
  | .obj i => match σ[i]? with
    | some (.inst _ d) => match σ[d]? with
      | some (.ns fs) => fs.lookup a
      | _ => none
    | _ => none
  | _ => none
noncomputable def nsPut (a : Nat) (v : V) : List (Nat × V) → List (Nat × V)
  | [] => [(a, v)]
  | (b, u) :: r => if b = a then (b, v) :: r else (b, u) :: nsPut a v r
noncomputable def attrPut (σ : AH) (v : V) (a : Nat) (u : V) : Option AH := match v with
  | .obj i => match σ[i]? with
    | some (.inst _ d) => match σ[d]? with
      | some (.ns fs) => some (σ.set d (.ns (nsPut a u fs)))
      | _ => none
    | some (.exc st) => if st = 0 ∧ a = 13 then some (σ.set i (.exc 1)) else none
    | _ => none
  | _ => none
noncomputable def idx (k : Int) (n : Nat) : Option Nat := if 0 ≤ k ∧ k < n ∧ n < 1000000 then some k.toNat else none
/-- for reading: from the end also -/
noncomputable def idxR (k : Int) (n : Nat) : Option Nat := if 0 ≤ k ∧ k < n ∧ n < 1000000 then some k.toNat else if k < 0 ∧ -(n : Int) ≤ k ∧ n < 1000000 then some (k + n).toNat else none
noncomputable def itemAt (σ : AH) (v k : V) : Option V := match v, k with
  | .tup vs, .int i => (idx i vs.length).bind fun j => vs[j]?
  | .obj o, k => match σ[o]?, k with
    | some (.list xs), .int i => (idxR i xs.length).bind fun j => xs[j]?
    | some d, k => (dictAt d k).bind id
    | none, _ => none
  | _, _ => none
noncomputable def itemPut (σ : AH) (v k u : V) : Option AH := match v with
  | .obj o => match σ[o]?, k with
    | some (.list xs), .int i => if o = 0 then none else (idx i xs.length).map fun j => σ.set o (.list (xs.set j u))
    | some d, k => (dictPut d k u).map fun d' => σ.set o d'
    | none, _ => none
  | _ => none
/-- an instance's class -/
noncomputable def instOf (σ : AH) (v : V) : Option Nat := match v with
  | .obj i => match σ[i]? with
    | some (.inst c d) => match σ[d]? with
      | some (.ns _) => some c
      | _ => none
    | _ => none
  | _ => none
noncomputable def inV (σ : AH) (k v : V) : Option Bool := match v with
  | .obj o => match σ[o]?, k with
    | some (.set xs), .int i => some (decide (i ∈ xs))
    | some d, k => (dictAt d k).map (·.isSome)
    | none, _ => none
  | _ => none
noncomputable def cmpV (σ : AH) (op : Cm) (a b : V) : Option Bool := match op with
  | .eq => eqV σ a b
  | .ne => (eqV σ a b).map (!·)
  | .isIn => inV σ a b
  | .notIn => (inV σ a b).map (!·)
  | .lt => match a, b with | .int x, .int y => some (decide (x < y)) | _, _ => none
  | .le => match a, b with | .int x, .int y => some (decide (x ≤ y)) | _, _ => none
  | .gt => match a, b with | .int x, .int y => some (decide (y < x)) | _, _ => none
  | .ge => match a, b with | .int x, .int y => some (decide (y ≤ x)) | _, _ => none
noncomputable def small (x : Int) : Bool := decide (-1000 < x) && decide (x < 1000)
noncomputable def binV (op : Bo) (a b : V) : Option V := match a, b with
  | .int x, .int y => match op with
    | .add => some (.int (x + y))
    | .sub => some (.int (x - y))
    | .mul => if small x && small y then some (.int (x * y)) else none
    | .mod => if 0 < y then some (.int (x % y)) else none
    | .fdiv => if decide (0 < y) && decide (y < 2 ^ 100) then some (.int (x / y)) else none
  | _, _ => none
/-- built-in functions: 0 len, 1 range, 2 list, 3 set, 4 abs, 5 int, 6 tuple -/
noncomputable def lenV (σ : AH) (v : V) : Option (V × AH) := match v with
  | .obj o => (match σ[o]? with
    | some (.list xs) => if xs.length < 1000000 then some (.int xs.length, σ) else none
    | some (.dictI es) => if es.length < 1000000 then some (.int es.length, σ) else none
    | _ => none)
  | _ => none
noncomputable def bltV (σ : AH) (b : Nat) (vs : List V) : Option (V × AH) := match b with
  | 0 => (match vs with
    | [v] => lenV σ v
    | _ => none)
  | 3 => (match vs with
    | [] => some (.obj σ.length, σ ++ [.set []])
    | _ => none)
  | 4 => (match vs with
    | [v] => (match v with
      | .int i => some (.int i.natAbs, σ)
      | _ => none)
    | _ => none)
  | 5 => (match vs with
    | [v] => (match v with
      | .int i => some (.int i, σ)
      | _ => none)
    | _ => none)
  | 6 => (match vs with
    | [v] => (match listAt σ v with
      | some xs => if xs.length < 1000000 then some (.tup xs, σ) else none
      | none => none)
    | _ => none)
  | _ => none
noncomputable def noneV : V → Option Bool
  | .none => some true
  | .tup _ => some false
  | _ => none
noncomputable def strV : V → Option Bool
  | .str _ => some true
  | _ => none
/-- l[i:] -/
noncomputable def dropV (σ : AH) (v k : V) : Option (List V) := match k with
  | .int i => (match listAt σ v with
    | some xs => if 0 ≤ i ∧ i ≤ xs.length ∧ xs.length < 1000000 then some (xs.drop i.toNat) else none
    | none => none)
  | _ => none
/-- del l[i:] -/
noncomputable def cutV (σ : AH) (v k : V) : Option AH := match k with
  | .int i => (match v with
    | .obj o => (match σ[o]? with
      | some (.list xs) => if o ≠ 0 ∧ 0 ≤ i ∧ i ≤ xs.length ∧ xs.length < 1000000 then some (σ.set o (.list (xs.take i.toNat))) else none
      | _ => none)
    | _ => none)
  | _ => none
/-- [xs[k] for k in ks] -/
noncomputable def pickV (xs : List V) : List V → Option (List V)
  | [] => some []
  | k :: ks => (match k with
    | .int i => (match (idx i xs.length).bind fun j => xs[j]? with
      | some u => (pickV xs ks).map (u :: ·)
      | none => none)
    | _ => none)
noncomputable def raiseV (σ : AH) (v : V) : Option AH := match v with
  | .obj i => (match σ[i]? with
    | some (.exc st) => if st = 1 then some (σ.set i (.exc 2)) else none
    | _ => none)
  | _ => none
/-- built-in methods: 0 append, 1 pop, 2 get (with a default), 3 add -/
noncomputable def mList (σ : AH) (o k : Nat) (vs : List V) (xs : List V) : Option (V × AH) := match k with
  | 0 => (match vs with
    | [u] => if o ≠ 0 ∧ xs.length < 1000000 then some (.none, σ.set o (.list (xs ++ [u]))) else none
    | _ => none)
  | 1 => (match vs with
    | [] => (match xs.getLast? with
      | some u => if o ≠ 0 ∧ xs.length < 1000000 then some (u, σ.set o (.list xs.dropLast)) else none
      | none => none)
    | _ => none)
  | _ => none
noncomputable def mSet (σ : AH) (o k : Nat) (vs : List V) (xs : List Int) : Option (V × AH) := match k with
  | 3 => (match vs with
    | [v] => (match v with
      | .int i => if xs.length < 4000 then some (.none, σ.set o (.set (if i ∈ xs then xs else xs ++ [i]))) else none
      | _ => none)
    | _ => none)
  | _ => none
noncomputable def mDict (σ : AH) (k : Nat) (vs : List V) (d : AObj) : Option (V × AH) := match k with
  | 2 => (match vs with
    | [key, dflt] => (dictAt d key).map fun r => (r.getD dflt, σ)
    | _ => none)
  | _ => none
noncomputable def mObj (σ : AH) (o k : Nat) (vs : List V) (d : AObj) : Option (V × AH) := match d with
  | .list xs => mList σ o k vs xs
  | .set xs => mSet σ o k vs xs
  | d => mDict σ k vs d
noncomputable def methV (σ : AH) (k : Nat) (v : V) (vs : List V) : Option (V × AH) := match v with
  | .obj o => (match σ[o]? with
    | some d => mObj σ o k vs d
    | none => none)
  | _ => none
theorem meth_of {σ : AH} {o k : Nat} {vs : List V} {d : AObj} (e : σ[o]? = some d) : methV σ k (.obj o) vs = mObj σ o k vs d := by
  show (match σ[o]? with | some d => mObj σ o k vs d | none => none) = _
  rw [e]

noncomputable def okObj (k : Nat) : AObj → Bool
  | .list _ => k == 0 || k == 1
  | .dictI _ => k == 2
  | .dictS _ => k == 2
  | .dictT _ => k == 2
  | .set _ => k == 3
  | _ => false
noncomputable def methOk (σ : AH) (k : Nat) (v : V) : Bool := match v with
  | .obj o => (match σ[o]? with
    | some d => okObj k d
    | none => false)
  | _ => false
theorem ok_of {σ : AH} {o k : Nat} {d : AObj} (e : σ[o]? = some d) (h : okObj k d = true) : methOk σ k (.obj o) = true := by
  show (match σ[o]? with | some d => okObj k d | none => false) = true
  rw [e]; exact h

/-- the ints of a range by s -/
noncomputable def upFrom (a : Int) (s : Int) : Nat → List V
  | 0 => []
  | n + 1 => .int a :: upFrom (a + s) s n
/-- what a for goes over; the list that must stay -/
inductive Src where
  | tup (vs : List V)
  | list (o : Nat)
  | range
noncomputable def iterV (σ : AH) (v : V) : Option (List V × Src) := match v with
  | .tup vs => some (vs, .tup vs)
  | .obj o => match σ[o]? with
    | some (.list xs) => if xs.length < 1000000 then some (xs, .list o) else none
    | _ => none
  | _ => none
/-- a range's ints: range(b) | range(a, b, -1) -/
noncomputable def rangeV (vs : List V) : Option (List V) := match vs with
  | [v] => (match v with
    | .int b => if small b = true then some (upFrom 0 1 b.toNat) else none
    | _ => none)
  | [v, w, z] => (match v with
    | .int a => (match w with
      | .int b => (match z with
        | .int c => if c = -1 ∧ (small a && small b) = true then some (upFrom a (-1) (a - b).toNat) else none
        | _ => none)
      | _ => none)
    | _ => none)
  | _ => none
theorem range_el {P : List V → List V → Prop} (h1 : ∀ b, small b = true → P [.int b] (upFrom 0 1 b.toNat)) (h3 : ∀ a b, small a = true → small b = true → P [.int a, .int b, .int (-1)] (upFrom a (-1) (a - b).toNat)) {vs items : List V} (e : rangeV vs = some items) : P vs items := by
  match vs, e with
  | [v], e =>
    cases v with
    | int b =>
      by_cases hs : small b = true
      · cases (if_pos hs).symm.trans (show (if small b = true then some (upFrom 0 1 b.toNat) else none) = some items from e)
        exact h1 b hs
      · cases (if_neg hs).symm.trans (show (if small b = true then some (upFrom 0 1 b.toNat) else none) = some items from e)
    | _ => cases e
  | [v, w, z], e =>
    cases v with
    | int a =>
      cases w with
      | int b =>
        cases z with
        | int c =>
          by_cases hs : c = -1 ∧ (small a && small b) = true
          · cases (if_pos hs).symm.trans (show (if c = -1 ∧ (small a && small b) = true then some (upFrom a (-1) (a - b).toNat) else none) = some items from e)
            obtain ⟨rfl, hs⟩ := hs
            exact h3 a b (Bool.and_eq_true_iff.mp hs).1 (Bool.and_eq_true_iff.mp hs).2
          · cases (if_neg hs).symm.trans (show (if c = -1 ∧ (small a && small b) = true then some (upFrom a (-1) (a - b).toNat) else none) = some items from e)
        | _ => cases e
      | _ => cases e
    | _ => cases e

section
variable (P : Prg) (cf : Cf)
mutual
noncomputable def wE : E → En → AH → (V → AH → Prop) → Prop
  | .loc i, ρ, σ, Q => match ρ i with
    | some v => Q v σ
    | none => False
  | .kint i, _, σ, Q => Q (.int i) σ
  | .kstr s, _, σ, Q => Q (.str s) σ
  | .kbool b, _, σ, Q => Q (.bool b) σ
  | .knone, _, σ, Q => Q .none σ
  | .glob g, _, σ, Q => match P.glob g with
    | some v => Q v σ
    | none => False
  | .tup es, ρ, σ, Q => wL es ρ σ fun vs σ' => Q (.tup vs) σ'
  | .list es, ρ, σ, Q => wL es ρ σ fun vs σ' => Q (.obj σ'.length) (σ' ++ [.list vs])
  | .dict0 k, _, σ, Q => Q (.obj σ.length) (σ ++ [match k with | 0 => .dictI [] | 1 => .dictS [] | _ => .dictT []])
  | .attr e a, ρ, σ, Q => wE e ρ σ fun v σ' => match attrAt σ' v a with
    | some u => Q u σ'
    | none => False
  | .sub e i, ρ, σ, Q => wE e ρ σ fun v σ₁ => wE i ρ σ₁ fun k σ₂ => match itemAt σ₂ v k with
    | some u => Q u σ₂
    | none => False
  | .slTo e n, ρ, σ, Q => wE e ρ σ fun v σ' => match listAt σ' v with
    | some xs => if xs.length < 1000000 then Q (.obj σ'.length) (σ' ++ [.list (xs.take n)]) else False
    | none => False
  | .cmp op a b, ρ, σ, Q => wE a ρ σ fun x σ₁ => wE b ρ σ₁ fun y σ₂ => match cmpV σ₂ op x y with
    | some c => Q (.bool c) σ₂
    | none => False
  | .boolop isAnd es, ρ, σ, Q => wB isAnd es ρ σ Q
  | .not e, ρ, σ, Q => wE e ρ σ fun v σ' => match v with
    | .bool b => Q (.bool !b) σ'
    | _ => False
  | .neg e, ρ, σ, Q => wE e ρ σ fun v σ' => match v with
    | .int i => Q (.int (-i)) σ'
    | _ => False
  | .bin op a b, ρ, σ, Q => wE a ρ σ fun x σ₁ => wE b ρ σ₁ fun y σ₂ => match binV op x y with
    | some v => Q v σ₂
    | none => False
  | .ife c a b, ρ, σ, Q => wE c ρ σ fun v σ' => match v with
    | .bool t => if t = true then wE a ρ σ' Q else wE b ρ σ' Q
    | _ => False
  | .callF f es, ρ, σ, Q => wL es ρ σ fun vs σ' => cf f vs σ' Q noX
  | .callM m e es, ρ, σ, Q => wE e ρ σ fun v σ₁ => match instOf σ₁ v with
    | some c => match P.meth c m with
      | some f => wL es ρ σ₁ fun vs σ₂ => cf f (v :: vs) σ₂ Q noX
      | none => False
    | none => False
  | .new c es, ρ, σ, Q => wL es ρ σ fun vs σ' => match P.init c with
    | some f => cf f (.obj (σ'.length + 1) :: vs) (σ' ++ [.ns []] ++ [.inst c σ'.length]) (fun v σ'' => v = .none ∧ Q (.obj (σ'.length + 1)) σ'') noX
    | none => False
  | .blt b es, ρ, σ, Q => wL es ρ σ fun vs σ' => match bltV σ' b vs with
    | some (v, σ'') => Q v σ''
    | none => False
  | .meth k e es, ρ, σ, Q => wE e ρ σ fun v σ₁ => methOk σ₁ k v = true ∧ wL es ρ σ₁ fun vs σ₂ => match methV σ₂ k v vs with
    | some (u, σ₃) => Q u σ₃
    | none => False
  | .isNone e, ρ, σ, Q => wE e ρ σ fun v σ' => match noneV v with
    | some b => Q (.bool b) σ'
    | none => False
  | .isStr e, ρ, σ, Q => wE e ρ σ fun v σ' => match strV v with
    | some b => Q (.bool b) σ'
    | none => False
  | .pow, _, σ, Q => Q (.int (10 ^ 20)) σ
  | .slFrom i j, ρ, σ, Q => match ρ i with
    | some v => match ρ j with
      | some k => match dropV σ v k with
        | some xs => Q (.obj σ.length) (σ ++ [.list xs])
        | none => False
      | none => False
    | none => False
  | .comp i j, ρ, σ, Q => match ρ i with
    | some c => match ρ j with
      | some l => match listAt σ c with
        | some xs => match listAt σ l with
          | some ks => match pickV xs ks with
            | some us => if ks.length < 1000 then Q (.obj σ.length) (σ ++ [.list us]) else False
            | none => False
          | none => False
        | none => False
      | none => False
    | none => False
  | .newX es, ρ, σ, Q => wL es ρ σ fun vs σ' => cf P.xinit (.obj σ'.length :: vs) (σ' ++ [.exc 0]) (fun v σ'' => v = .none ∧ Q (.obj σ'.length) σ'') noX
noncomputable def wL : EL → En → AH → (List V → AH → Prop) → Prop
  | .nil, _, σ, Q => Q [] σ
  | .cons e es, ρ, σ, Q => wE e ρ σ fun v σ₁ => wL es ρ σ₁ fun vs σ₂ => Q (v :: vs) σ₂
noncomputable def wB (isAnd : Bool) : EL → En → AH → (V → AH → Prop) → Prop
  | .nil, _, _, _ => False
  | .cons e es, ρ, σ, Q => match es with
    | .nil => wE e ρ σ Q
    | .cons e' es' => wE e ρ σ fun v σ₁ => match v with
      | .bool b => if b = isAnd then wB isAnd (.cons e' es') ρ σ₁ Q else Q (.bool b) σ₁
      | _ => False
end

noncomputable def putAll : List Nat → List V → En → Option En
  | [], [], ρ => some ρ
  | i :: is, v :: vs, ρ => putAll is vs (ρ.put i v)
  | _, _, _ => none
noncomputable def wT : T → V → En → AH → (En → AH → Prop) → Prop
  | .loc i, v, ρ, σ, Q => Q (ρ.put i v) σ
  | .tup is, v, ρ, σ, Q => match v with
    | .tup vs => match putAll is vs ρ with
      | some ρ' => Q ρ' σ
      | none => False
    | _ => False
  | .attr e a, v, ρ, σ, Q => wE P cf e ρ σ fun o σ' => match attrPut σ' o a v with
    | some σ'' => Q ρ σ''
    | none => False
  | .sub e i, v, ρ, σ, Q => wE P cf e ρ σ fun o σ₁ => wE P cf i ρ σ₁ fun k σ₂ => match itemPut σ₂ o k v with
    | some σ₃ => Q ρ σ₃
    | none => False

noncomputable def whileGo (c : En → AH → (V → AH → Prop) → Prop) (b : En → AH → (Fl → En → AH → Prop) → Prop) : Nat → En → AH → (Fl → En → AH → Prop) → Prop
  | 0, _, _, _ => False
  | n + 1, ρ, σ, Q => c ρ σ fun v σ' => match v with
    | .bool t => if t = true then b ρ σ' fun f ρ' σ'' => match f with
      | .ret u => Q (.ret u) ρ' σ''
      | .exc => Q .exc ρ' σ''
      | _ => whileGo c b n ρ' σ'' Q
      else Q .next ρ σ'
    | _ => False
noncomputable def stays (σ : AH) (xs : List V) : Src → Prop
  | .list o => σ[o]? = some (.list xs)
  | _ => True
noncomputable def forGo (all : List V) (src : Src) (t : V → En → AH → (En → AH → Prop) → Prop) (b : En → AH → (Fl → En → AH → Prop) → Prop) : List V → En → AH → (Fl → En → AH → Prop) → Prop
  | [], ρ, σ, Q => stays σ all src ∧ Q .next ρ σ
  | v :: r, ρ, σ, Q => stays σ all src ∧ t v ρ σ fun ρ' σ' => b ρ' σ' fun f ρ'' σ'' => match f with
    | .ret u => Q (.ret u) ρ'' σ''
    | .exc => False
    | _ => forGo all src t b r ρ'' σ'' Q
mutual
noncomputable def wS : S → En → AH → (Fl → En → AH → Prop) → Prop
  | .assign t e, ρ, σ, Q => wE P cf e ρ σ fun v σ' => wT P cf t v ρ σ' (Q .next)
  | .augLoc i op e, ρ, σ, Q => match ρ i with
    | some x => wE P cf e ρ σ fun y σ' => match binV op x y with
      | some v => Q .next (ρ.put i v) σ'
      | none => False
    | none => False
  | .augSub e i op r, ρ, σ, Q => wE P cf e ρ σ fun o σ₁ => wE P cf i ρ σ₁ fun k σ₂ => match itemAt σ₂ o k with
    | some x => wE P cf r ρ σ₂ fun y σ₃ => match binV op x y with
      | some v => match itemPut σ₃ o k v with
        | some σ₄ => Q .next ρ σ₄
        | none => False
      | none => False
    | none => False
  | .expr e, ρ, σ, Q => wE P cf e ρ σ fun _ σ' => Q .next ρ σ'
  | .ite c a b, ρ, σ, Q => wE P cf c ρ σ fun v σ' => match v with
    | .bool t => if t = true then wSL a ρ σ' Q else wSL b ρ σ' Q
    | _ => False
  | .while c b, ρ, σ, Q => ∃ n, whileGo (wE P cf c) (wSL b) n ρ σ Q
  | .for_ t e b, ρ, σ, Q => match e with
    | .blt 1 es => wL P cf es ρ σ fun vs σ' => match rangeV vs with
      | some items => forGo items .range (wT P cf t) (wSL b) items ρ σ' Q
      | none => False
    | e => wE P cf e ρ σ fun v σ' => match iterV σ' v with
      | some (items, src) => forGo items src (wT P cf t) (wSL b) items ρ σ' Q
      | none => False
  | .ret e, ρ, σ, Q => wE P cf e ρ σ fun v σ' => Q (.ret v) ρ σ'
  | .retN, ρ, σ, Q => Q (.ret .none) ρ σ
  | .cont, ρ, σ, Q => Q .cont ρ σ
  | .pass, ρ, σ, Q => Q .next ρ σ
  | .delFrom i j, ρ, σ, Q => match ρ i with
    | some v => match ρ j with
      | some k => match cutV σ v k with
        | some σ' => Q .next ρ σ'
        | none => False
      | none => False
    | none => False
  | .raise e, ρ, σ, Q => wE P cf e ρ σ fun v σ' => match raiseV σ' v with
    | some σ'' => Q .exc ρ σ''
    | none => False
  | .tryRet m e es, ρ, σ, Q => wE P cf e ρ σ fun v σ₁ => match instOf σ₁ v with
    | some c => match P.meth c m with
      | some f => wL P cf es ρ σ₁ fun vs σ₂ => cf f (v :: vs) σ₂ (fun _ σ' => Q .next ρ σ') (fun σ' => Q (.ret (.bool false)) ρ σ')
      | none => False
    | none => False
  | .stuck, _, _, _ => False
noncomputable def wSL : SL → En → AH → (Fl → En → AH → Prop) → Prop
  | .nil, ρ, σ, Q => Q .next ρ σ
  | .cons s ss, ρ, σ, Q => wS s ρ σ fun f ρ' σ' => match f with
    | .next => wSL ss ρ' σ' Q
    | f => Q f ρ' σ'
end
end

section
variable {P : Prg} {cf : Cf} {ρ : En} {σ : AH} {Q : V → AH → Prop} {QL : List V → AH → Prop} {QT : En → AH → Prop} {QS : Fl → En → AH → Prop}
theorem Zu (i : Nat) : wE P cf (.loc i) ρ σ Q = (match ρ i with | some v => Q v σ | none => False) := rfl
theorem Zl (g : Nat) : wE P cf (.glob g) ρ σ Q = (match P.glob g with | some v => Q v σ | none => False) := rfl
theorem ZB (i : Nat) (j : Nat) : wE P cf (.slFrom i j) ρ σ Q = (match ρ i with
    | some v => match ρ j with
      | some k => match dropV σ v k with
        | some xs => Q (.obj σ.length) (σ ++ [.list xs])
        | none => False
      | none => False
    | none => False) := rfl
theorem Zj (i j : Nat) : wE P cf (.comp i j) ρ σ Q = (match ρ i with
    | some c => match ρ j with
      | some l => match listAt σ c with
        | some xs => match listAt σ l with
          | some ks => match pickV xs ks with
            | some us => if ks.length < 1000 then Q (.obj σ.length) (σ ++ [.list us]) else False
            | none => False
          | none => False
        | none => False
      | none => False
    | none => False) := rfl
theorem Z3 (is : List Nat) (v : V) : wT P cf (.tup is) v ρ σ QT = (match v with
    | .tup vs => match putAll is vs ρ with
      | some ρ' => QT ρ' σ
      | none => False
    | _ => False) := rfl
theorem ZK (t : T) (e : E) : wS P cf (.assign t e) ρ σ QS = wE P cf e ρ σ fun v σ' => wT P cf t v ρ σ' (QS .next) := rfl
theorem ZL (i : Nat) (op : Bo) (e : E) : wS P cf (.augLoc i op e) ρ σ QS = (match ρ i with
    | some x => wE P cf e ρ σ fun y σ' => match binV op x y with
      | some v => QS .next (ρ.put i v) σ'
      | none => False
    | none => False) := rfl
theorem ZS (c : E) (a b : SL) : wS P cf (.ite c a b) ρ σ QS = wE P cf c ρ σ fun v σ' => match v with
    | .bool t => if t = true then wSL P cf a ρ σ' QS else wSL P cf b ρ σ' QS
    | _ => False := rfl
theorem ZZ (c : E) (b : SL) : wS P cf (.while c b) ρ σ QS = ∃ n, whileGo (wE P cf c) (wSL P cf b) n ρ σ QS := rfl
theorem ZW (e : E) : wS P cf (.ret e) ρ σ QS = wE P cf e ρ σ fun v σ' => QS (.ret v) ρ σ' := rfl
theorem ZO (i : Nat) (j : Nat) : wS P cf (.delFrom i j) ρ σ QS = (match ρ i with
    | some v => match ρ j with
      | some k => match cutV σ v k with
        | some σ' => QS .next ρ σ'
        | none => False
      | none => False
    | none => False) := rfl
theorem ZI : wSL P cf .nil ρ σ QS = QS .next ρ σ := rfl
theorem ZH (s : S) (ss : SL) : wSL P cf (.cons s ss) ρ σ QS = wS P cf s ρ σ fun f ρ' σ' => match f with
    | .next => wSL P cf ss ρ' σ' QS
    | f => QS f ρ' σ' := rfl
end

/-- the called defs, to the depth n: params are the first locals -/
noncomputable def bindE : Nat → List V → En
  | _, [] => fun _ => none
  | i, v :: vs => fun j => if j = i then some v else bindE (i + 1) vs j
structure Fn where
  arity : Nat
  body : SL
  dflt : List V := []
noncomputable def callX (P : Prg) (fns : Nat → Option Fn) : Nat → Cf
  | 0 => fun _ _ _ _ _ => False
  | n + 1 => fun f vs σ Q R => match fns f with
    | some fn => vs.length = fn.arity ∧ wSL P (callX P fns n) fn.body (bindE 0 (vs ++ fn.dflt)) σ fun fl _ σ' => match fl with
      | .ret v => Q v σ'
      | .exc => R σ'
      | _ => Q .none σ'
    | none => False
noncomputable abbrev callN (P : Prg) (fns : Nat → Option Fn) (n f : Nat) (vs : List V) (σ : AH) (Q : V → AH → Prop) : Prop := callX P fns n f vs σ Q noX

end Mine
end

/-! N3 -/
noncomputable section
set_option maxHeartbeats 200000
open PyProof.Rows PySem PySem.Calls PySem.W
namespace Mine

/-- what the law's text lays at the top, by the language's numbers -/
structure Nm where
  gname : Nat → Option PySem.Str
  fname : Nat → Option PySem.Str
  mname : Nat → Option PySem.Str
  cname : Nat → Option PySem.Str
  xname : PySem.Str
structure Glo extends Nm where
  C : Cx
  P : Prg
  mg : PySem.Str → Option Value
  mb : PySem.Str → Option Value
  faddr : Nat → Addr
noncomputable instance : Coe Glo Nm := ⟨Glo.toNm⟩

noncomputable def bltNames : List String := ["len", "range", "list", "set", "abs", "int", "tuple", "isinstance", "str"]
noncomputable def bltVal : Nat → Value
  | 0 => .builtin "len"
  | 1 => .type "range"
  | 2 => .type "list"
  | 3 => .type "set"
  | 4 => .builtin "abs"
  | 5 => .type "int"
  | 6 => .type "tuple"
  | 7 => .builtin "isinstance"
  | _ => .type "str"

/-- what is asked of the exception's class and of its __init__: def init(self, ball): self.ball = ball -/
structure ExcCls (K : Frag) (hB : Heap) (C fI : Addr) : Prop where
  cls : ∃ nm q N bs bm hdct sn sub ab col dd k0 k1 k2 k3 k5 mN, hB.get? C = some (excClassObj nm q C N bs bm hdct sn sub ab col dd k0 k1 k2 k3 k5 "Exception.__new__") ∧ hB.Ns N mN ∧ mN "__init__" = some (.ref fI) ∧
    OwnTail hB [.type "Exception", .type "BaseException", .type "object"] bm
  data : ∃ cd, clsIn K C = some cd ∧ cd.hasDict = true ∧ cd.mro.contains (.type "BaseException") = true ∧ cd.mro.contains (.type "object") = true ∧ cd.mro.contains (.ref C) = true ∧ (∀ self, refuseLoop self "__setattr__" cd.mro = pure ())
  ty : typeIn K (.ref C) = some (.type "type")
  set : findIn K (.ref C) "__setattr__" = some (some (.builtin "object.__setattr__"))
  ball : takerIn K C "ball" = some none
  fn : ∃ o, hB.get? fI = some o ∧ o.cls = .type "function"

structure GloOk (G : Glo) : Prop where
  hK : G.C.K.In G.C.hB
  g : G.C.hB.Ns mainGlobals G.mg
  b : G.C.hB.Ns builtinsNs G.mb
  lim : G.C.hB.NoLimit
  sm : G.C.hB.get? sysModules ≠ none
  bi : ∀ i n, bltNames[i]? = some n → G.mg (PySem.Str.ofString n) = none ∧ G.mb (PySem.Str.ofString n) = some (bltVal i)
  glob : ∀ g x v, G.gname g = some x → G.P.glob g = some v → ∃ w, G.mg x = some w ∧ Rel G.C.hB [] v w
  fn : ∀ f x, G.fname f = some x → G.mg x = some (.ref (G.faddr f)) ∧ keepIn G.C.K (.ref (G.faddr f)) = true
  cn : ∀ c x, G.cname c = some x → G.mg x = some (.ref (G.C.cls c)) ∧ keepIn G.C.K (.ref (G.C.cls c)) = true
  meth : ∀ c m f x, G.P.meth c m = some f → G.mname m = some x → plainGet G.C.K (G.C.cls c) x = true ∧ findIn G.C.K (.ref (G.C.cls c)) x = some (some (.ref (G.faddr f))) ∧ isFn G.C.K (.ref (G.faddr f)) = true ∧
    keepIn G.C.K (.ref (G.faddr f)) = true ∧ x ∉ attrNames
  attr : ∀ c a, c < G.C.nc → a < attrNames.length → plainGet G.C.K (G.C.cls c) (attrName a) = true ∧ hasDictIn G.C.K (G.C.cls c) = true ∧ findIn G.C.K (.ref (G.C.cls c)) (attrName a) = some none ∧
    takerIn G.C.K (G.C.cls c) (attrName a) = some none
  sets : ∀ c, c < G.C.nc → findIn G.C.K (.ref (G.C.cls c)) "__setattr__" = some (some (.builtin "object.__setattr__")) ∧ plainOver G.C.K (G.C.cls c) = true
  init : ∀ c f, G.P.init c = some f → c < G.C.nc ∧ makesIn G.C.K (G.C.cls c) = true ∧ findIn G.C.K (.ref (G.C.cls c)) "__init__" = some (some (.ref (G.faddr f))) ∧ isFn G.C.K (.ref (G.faddr f)) = true
  xn : G.mg G.xname = some (.ref G.C.exc) ∧ keepIn G.C.K (.ref G.C.exc) = true
  xc : ExcCls G.C.K G.C.hB G.C.exc (G.faddr G.P.xinit)

/-- a def's names -/
structure Ck where
  sc : Scope
  names : List PySem.Str
/-- a frame: its locals, its cells; the stack of frames from it on -/
structure Fm where
  at_ : Addr
  cl : List (PySem.Str × Addr)
  fs : List Env
noncomputable def Fm.own (L : Fm) : List Addr := L.at_ :: L.cl.map (·.2)
structure EnvOk (A : Around) (X : Ck) (L : Fm) (env : Env) : Prop where
  sc : env.scope = X.sc
  nd : X.names.Nodup
  kind : X.sc.kind = .function
  loc : env.locals = L.at_
  cells : env.cells = L.cl
  ndc : L.own.Nodup
  celled : ∀ x, X.sc.names.lookup x = some .cell → ∃ c, L.cl.lookup x = some c
  glob : env.globals = mainGlobals
  bu : env.builtins = builtinsNs
  fs : A.frames = some L.fs
  top : ∃ outer, L.fs = env :: outer
  frame : env.frame = some L.at_

/-- the frames of the stack stand -/
noncomputable def FrOk (hB : Heap) (fs : List Env) (φ : List Addr) (h : Heap) : Prop :=
  ∀ env ∈ fs, env.scope.kind ≠ .module ∧ ∃ a o es ep, env.frame = some a ∧ hB.get? a = none ∧ a ∉ φ ∧ h.get? a = some o ∧ o.data = .dict es ep
theorem FrOk.ext {hB : Heap} {fs : List Env} {φ φ' : List Addr} {h h' : Heap} (x : FrOk hB fs φ h) (e : Ext [] φ h φ' h') : FrOk hB fs φ' h' := fun env m => by
  obtain ⟨k, a, o, es, ep, f, b, n, g, d⟩ := x env m
  obtain ⟨o', g', s⟩ := e.keep a o n (fun z => nomatch z) g
  refine ⟨k, a, o', es, ep, f, b, fun z => ?_, g', s.data.trans d⟩
  obtain ⟨ψ, e1, e2⟩ := e.pre
  rw [e1] at z
  rcases List.mem_append.mp z with z | z
  · exact n z
  · rw [e2 a z] at g; cases g

/-- where a local's value lies: in the frame or in a cell -/
noncomputable def Lies (X : Ck) (L : Fm) (h : Heap) (m : PySem.Str → Option Value) (x : PySem.Str) (w : Value) : Prop := match X.sc.names.lookup x with
  | some .local => m x = some w
  | some .cell => ∃ c o, L.cl.lookup x = some c ∧ h.get? c = some o ∧ o.data = .cell (some w)
  | _ => False
/-- the frame's locals -/
structure Loc (hB : Heap) (X : Ck) (ρ : En) (φ : List Addr) (h : Heap) (L : Fm) : Prop where
  ns : ∃ m, h.Ns L.at_ m ∧ ∀ i v, ρ i = some v → ∃ x w, X.names[i]? = some x ∧ Lies X L h m x w ∧ Rel h φ v w
  cells : ∀ p ∈ L.cl, ∃ o v, h.get? p.2 = some o ∧ o.data = .cell v
  out : ∀ a ∈ L.own, a ∉ φ
  fr : FrOk hB L.fs φ h
theorem Ns.notup {h : Heap} {L : Addr} {m : PySem.Str → Option Value} (n : h.Ns L m) (ws : Array Value) : ¬ IsTup h L ws := fun t => by
  obtain ⟨o, es, ep, e, d, _⟩ := n
  obtain ⟨o', e', _, k, d'⟩ := t
  rw [e] at e'; cases e'
  rw [d] at d'; cases d'
theorem Loc.live {hB : Heap} {X : Ck} {ρ : En} {φ : List Addr} {h : Heap} {L : Fm} (l : Loc hB X ρ φ h L) {a : Addr} (m : a ∈ L.own) : h.get? a ≠ none := by
  rcases List.mem_cons.mp m with rfl | m
  · obtain ⟨m, ⟨o, es, ep, e, d, _⟩, _⟩ := l.ns
    rw [e]; exact fun h => nomatch h
  · obtain ⟨p, m, e0⟩ := List.mem_map.mp m
    subst e0
    obtain ⟨o, v, e, _⟩ := l.cells p ‹_›
    rw [e]; exact fun h => nomatch h
theorem Loc.notup {hB : Heap} {X : Ck} {ρ : En} {φ : List Addr} {h : Heap} {L : Fm} (l : Loc hB X ρ φ h L) {a : Addr} (m : a ∈ L.own) (ws : Array Value) : ¬ IsTup h a ws := by
  rcases List.mem_cons.mp m with rfl | m
  · obtain ⟨m, n, _⟩ := l.ns
    exact Ns.notup n ws
  · obtain ⟨p, m, e0⟩ := List.mem_map.mp m
    subst e0
    obtain ⟨o, v, e, d⟩ := l.cells p ‹_›
    intro t
    obtain ⟨o', e', _, k, d'⟩ := t
    rw [e] at e'; cases e'
    rw [d] at d'; cases d'
set_option tactic.hygienic true in
theorem Lies.keep {X : Ck} {L : Fm} {h h' : Heap} {m : PySem.Str → Option Value} {x : PySem.Str} {w : Value} (l : Lies X L h m x w) (k : ∀ c o, c ∈ L.own → h.get? c = some o → (∀ es ep, o.data ≠ .dict es ep) → h'.get? c = some o) : Lies X L h' m x w := by
  unfold Lies at l ⊢
  split
  · rename_i e; rw [e] at l; exact l
  · rename_i e
    rw [e] at l
    obtain ⟨c, o, e1, e2, e3⟩ := l
    have hm : (x, c) ∈ L.cl := by
      clear e e2 e3 k
      generalize L.cl = l at e1
      induction l with
      | nil => cases e1
      | cons p l ih =>
        obtain ⟨y, d⟩ := p
        rw [List.lookup_cons] at e1
        cases q : x == y with
        | true => rw [q] at e1; cases e1; rw [eq_of_beq q]; exact .head _
        | false => rw [q] at e1; exact .tail _ (ih e1)
    exact ⟨c, o, e1, k c o (List.mem_cons_of_mem _ (List.mem_map.mpr ⟨_, hm, rfl⟩)) e2 (by rw [e3]; exact fun _ _ h => nomatch h), e3⟩
  · rename_i e1 e2
    revert l
    split
    · rename_i e; exact absurd e e1
    · rename_i e; exact absurd e e2
    · exact id
theorem Loc.ext {hB : Heap} {X : Ck} {ρ : En} {φ φ' : List Addr} {h h' : Heap} {L : Fm} {C : Cx} {σ : AH} (l : Loc hB X ρ φ h L) (k : Ok C φ σ h) (x : Ext [] φ h φ' h') : Loc hB X ρ φ' h' L := by
  have t := x.tk k (fun a m => nomatch m)
  have kp : ∀ c o, c ∈ L.own → h.get? c = some o → ∃ o', h'.get? c = some o' ∧ Same o o' := fun c o m e => x.keep c o (l.out c m) (fun z => nomatch z) e
  have kc : ∀ c o, c ∈ L.own → h.get? c = some o → (∀ es ep, o.data ≠ .dict es ep) → h'.get? c = some o := fun c o m e d => by
    obtain ⟨o', e', s⟩ := kp c o m e
    rw [s.eq d] at e'; exact e'
  obtain ⟨m, n, q⟩ := l.ns
  refine ⟨⟨m, Same.ns n fun o e => kp _ o (.head _) e, fun i v z => ?_⟩, fun p m => ?_, fun a m z => ?_, l.fr.ext x⟩
  · obtain ⟨y, w, a, b, c⟩ := q i v z
    exact ⟨y, w, a, b.keep kc, c.mono x.pref t⟩
  · obtain ⟨o, v, e, d⟩ := l.cells p m
    exact ⟨o, v, kc _ o (List.mem_cons_of_mem _ (List.mem_map.mpr ⟨_, m, rfl⟩)) e (by rw [d]; exact fun _ _ h => nomatch h), d⟩
  · obtain ⟨ψ, e1, e2⟩ := x.pre
    rw [e1] at z
    rcases List.mem_append.mp z with z | z
    · exact l.out a m z
    · exact l.live m (e2 a z)

structure AOk (A : Around) (n : Nat) : Prop where
  handled : A.handled = none
  depth : A.depth + 3 * n + 10 < recursionLimit
  units : A.units + 20 * n + 200 < cLine

noncomputable def NR : Value → Shared → Prop := fun _ _ => False

/-- a part's end -/
noncomputable def Post (C : Cx) (φ : List Addr) (s : Shared) (Q : V → AH → Prop) : Value → Shared → Prop := fun w s' =>
  ∃ φ' σ' v, Ext [] φ s.heap φ' s'.heap ∧ Ok C φ' σ' s'.heap ∧ Rel s'.heap φ' v w ∧ Q v σ' ∧ s'.gens = s.gens ∧ s'.os = s.os
noncomputable def PostL (C : Cx) (φ : List Addr) (s : Shared) (Q : List V → AH → Prop) : List Value → Shared → Prop := fun ws s' =>
  ∃ φ' σ' vs, Ext [] φ s.heap φ' s'.heap ∧ Ok C φ' σ' s'.heap ∧ RelL s'.heap φ' vs ws ∧ Q vs σ' ∧ s'.gens = s.gens ∧ s'.os = s.os
noncomputable def PostT (C : Cx) (φ : List Addr) (s : Shared) (R : Bool → AH → Prop) : Bool → Shared → Prop := fun b s' =>
  ∃ φ' σ', Ext [] φ s.heap φ' s'.heap ∧ Ok C φ' σ' s'.heap ∧ R b σ' ∧ s'.gens = s.gens ∧ s'.os = s.os

theorem Post.elim {C : Cx} {φ : List Addr} {s : Shared} {Q : V → AH → Prop} {w : Value} {s' : Shared} {R : Prop} (p : Post C φ s Q w s')
    (h : ∀ φ' σ' v, Ext [] φ s.heap φ' s'.heap → Ok C φ' σ' s'.heap → Rel s'.heap φ' v w → Q v σ' → s'.gens = s.gens → s'.os = s.os → R) : R :=
  Exists.elim p fun a p => p.elim fun b p => p.elim fun c p => h a b c p.1 p.2.1 p.2.2.1 p.2.2.2.1 p.2.2.2.2.1 p.2.2.2.2.2
theorem PostL.elim {C : Cx} {φ : List Addr} {s : Shared} {Q : List V → AH → Prop} {w : List Value} {s' : Shared} {R : Prop} (p : PostL C φ s Q w s')
    (h : ∀ φ' σ' v, Ext [] φ s.heap φ' s'.heap → Ok C φ' σ' s'.heap → RelL s'.heap φ' v w → Q v σ' → s'.gens = s.gens → s'.os = s.os → R) : R :=
  Exists.elim p fun a p => p.elim fun b p => p.elim fun c p => h a b c p.1 p.2.1 p.2.2.1 p.2.2.2.1 p.2.2.2.2.1 p.2.2.2.2.2
theorem PostT.elim {C : Cx} {φ : List Addr} {s : Shared} {Q : Bool → AH → Prop} {w : Bool} {s' : Shared} {R : Prop} (p : PostT C φ s Q w s')
    (h : ∀ φ' σ', Ext [] φ s.heap φ' s'.heap → Ok C φ' σ' s'.heap → Q w σ' → s'.gens = s.gens → s'.os = s.os → R) : R :=
  Exists.elim p fun a p => p.elim fun b p => h a b p.1 p.2.1 p.2.2.1 p.2.2.2.1 p.2.2.2.2

theorem Post.trans {C : Cx} {φ φ₁ : List Addr} {s s₁ : Shared} {Q : V → AH → Prop} (x : Ext [] φ s.heap φ₁ s₁.heap) (g : s₁.gens = s.gens) (o : s₁.os = s.os) {w : Value} {s' : Shared} (p : Post C φ₁ s₁ Q w s') : Post C φ s Q w s' := by
  obtain ⟨φ', σ', v, a, b, c, d, e, f⟩ := p
  exact ⟨φ', σ', v, x.trans a, b, c, d, e.trans g, f.trans o⟩

/-- an exception that came out of a call: it is traced, and no frame holds it -/
noncomputable def Thrown (C : Cx) (φ : List Addr) (s0 : Heap) (a : Addr) (h : Heap) : Prop :=
  ∃ oe vs t T oT ts, h.get? a = some oe ∧ oe.cls = .ref C.exc ∧ oe.data = .fields vs ∧ vs[0]? = some (.ref t) ∧ vs[1]? = some (.ref T) ∧ T ≠ a ∧ T ∉ φ ∧ s0.get? T = none ∧ h.get? T = some oT ∧ oT.data = .fields ts ∧ ts[3]? = some .none
noncomputable def PostX (C : Cx) (φ : List Addr) (s : Shared) (R : AH → Prop) (e : Value) (s' : Shared) : Prop :=
  ∃ (i : Nat) (a : Addr) (φ' : List Addr) (σ' : AH), e = .ref a ∧ φ'[i]? = some a ∧ σ'[i]? = some (AObj.exc 2) ∧ C.hB.get? a = none ∧ Ext [] φ s.heap φ' s'.heap ∧ Ok C φ' σ' s'.heap ∧ Thrown C φ' s.heap a s'.heap ∧ R σ' ∧ s'.gens = s.gens ∧ s'.os = s.os

section
variable (G : Glo)
noncomputable abbrev MM (G : Glo) : Model := model G.C.prog G.C.w

/-- the called defs keep their word, to the depth n -/
noncomputable def SimCf (cf : Cf) (n : Nat) : Prop := ∀ (f : Nat) (vs : List V) (σ : AH) (Q : V → AH → Prop) (R : AH → Prop), cf f vs σ Q R → ∀ (A : Around), AOk A n → ∀ (fs : List Env), A.frames = some fs → ∀ (s : Shared) (φ : List Addr) (ws : List Value), FrOk G.C.hB fs φ s.heap → Ok G.C φ σ s.heap → RelL s.heap φ vs ws →
  codeAny (MM G) A (.call (.ref (G.faddr f)) ⟨ws, []⟩) (fun r s' => match r with | .ok (.ret w) => Post G.C φ s Q w s' | .error e => PostX G.C φ s R e s' | _ => False) s
end

/-- the check that the language's part is the text's -/
noncomputable def ckName (X : Ck) (k : NameKind) (x : PySem.Str) : Bool := X.sc.names.lookup x == some k && !(x == ("__debug__" : PySem.Str))
noncomputable def ckCm : Cm → CmpOp → Bool
  | .eq, .Eq | .ne, .NotEq | .lt, .Lt | .le, .LtE | .gt, .Gt | .ge, .GtE | .isIn, .In | .notIn, .NotIn => true
  | _, _ => false
noncomputable def ckBo : Bo → Operator → Bool
  | .add, .Add | .sub, .Sub | .mul, .Mult | .mod, .Mod => true
  | _, _ => false
noncomputable def ckAug : Bo → Operator → Bool
  | .add, .Add | .sub, .Sub | .fdiv, .FloorDiv => true
  | _, _ => false
noncomputable def methId : Nat → Option String
  | 0 => some "append"
  | 1 => some "pop"
  | 2 => some "get"
  | 3 => some "add"
  | _ => none
noncomputable def notCall (x : PySem.Expr) : Bool := x.ctorIdx != 16
noncomputable def notSlice (x : PySem.Expr) : Bool := x.ctorIdx != 26
theorem ite_tag {p : Prop} [Decidable p] {f : p → Bool} (c : (if h : p then f h else false) = true) : p :=
  Decidable.byContradiction fun n => by rw [dif_neg n] at c; cases c
noncomputable def onName (x : PySem.Expr) (f : PySem.Str → Pos → Bool) : Bool := if h : x.ctorIdx = 23 then PySem.Expr.Name.elim (motive_1 := fun _ => Bool) x h f else false
theorem onName_tag {x : PySem.Expr} {f : PySem.Str → Pos → Bool} (c : onName x f = true) : x.ctorIdx = 23 := ite_tag c
@[elab_as_elim] theorem onName_elim {x : PySem.Expr} {f : PySem.Str → Pos → Bool} (c : onName x f = true) {motive : PySem.Expr → Prop} (h : ∀ a p, f a p = true → motive (.Name a p)) : motive x :=
  PySem.Expr.Name.elim (motive_1 := fun x => onName x f = true → motive x) x (ite_tag c) h c
noncomputable def onConstant (x : PySem.Expr) (f : Const → Nat → Pos → Bool) : Bool := if h : x.ctorIdx = 19 then PySem.Expr.Constant.elim (motive_1 := fun _ => Bool) x h f else false
theorem onConstant_tag {x : PySem.Expr} {f : Const → Nat → Pos → Bool} (c : onConstant x f = true) : x.ctorIdx = 19 := ite_tag c
@[elab_as_elim] theorem onConstant_elim {x : PySem.Expr} {f : Const → Nat → Pos → Bool} (c : onConstant x f = true) {motive : PySem.Expr → Prop} (h : ∀ k d p, f k d p = true → motive (.Constant k d p)) : motive x :=
  PySem.Expr.Constant.elim (motive_1 := fun x => onConstant x f = true → motive x) x (ite_tag c) h c
noncomputable def onTuple (x : PySem.Expr) (f : List PySem.Expr → Nat → Pos → Bool) : Bool := if h : x.ctorIdx = 25 then PySem.Expr.Tuple.elim (motive_1 := fun _ => Bool) x h f else false
theorem onTuple_tag {x : PySem.Expr} {f : List PySem.Expr → Nat → Pos → Bool} (c : onTuple x f = true) : x.ctorIdx = 25 := ite_tag c
@[elab_as_elim] theorem onTuple_elim {x : PySem.Expr} {f : List PySem.Expr → Nat → Pos → Bool} (c : onTuple x f = true) {motive : PySem.Expr → Prop} (h : ∀ xs d p, f xs d p = true → motive (.Tuple xs d p)) : motive x :=
  PySem.Expr.Tuple.elim (motive_1 := fun x => onTuple x f = true → motive x) x (ite_tag c) h c
noncomputable def onList (x : PySem.Expr) (f : List PySem.Expr → Pos → Bool) : Bool := if h : x.ctorIdx = 24 then PySem.Expr.List.elim (motive_1 := fun _ => Bool) x h f else false
theorem onList_tag {x : PySem.Expr} {f : List PySem.Expr → Pos → Bool} (c : onList x f = true) : x.ctorIdx = 24 := ite_tag c
@[elab_as_elim] theorem onList_elim {x : PySem.Expr} {f : List PySem.Expr → Pos → Bool} (c : onList x f = true) {motive : PySem.Expr → Prop} (h : ∀ xs p, f xs p = true → motive (.List xs p)) : motive x :=
  PySem.Expr.List.elim (motive_1 := fun x => onList x f = true → motive x) x (ite_tag c) h c
noncomputable def onDict (x : PySem.Expr) (f : List (Option PySem.Expr) → List PySem.Expr → Pos → Bool) : Bool := if h : x.ctorIdx = 6 then PySem.Expr.Dict.elim (motive_1 := fun _ => Bool) x h f else false
theorem onDict_tag {x : PySem.Expr} {f : List (Option PySem.Expr) → List PySem.Expr → Pos → Bool} (c : onDict x f = true) : x.ctorIdx = 6 := ite_tag c
@[elab_as_elim] theorem onDict_elim {x : PySem.Expr} {f : List (Option PySem.Expr) → List PySem.Expr → Pos → Bool} (c : onDict x f = true) {motive : PySem.Expr → Prop} (h : ∀ ks vs p, f ks vs p = true → motive (.Dict ks vs p)) : motive x :=
  PySem.Expr.Dict.elim (motive_1 := fun x => onDict x f = true → motive x) x (ite_tag c) h c
noncomputable def onAttribute (x : PySem.Expr) (f : PySem.Expr → PySem.Str → Pos → Bool) : Bool := if h : x.ctorIdx = 20 then PySem.Expr.Attribute.elim (motive_1 := fun _ => Bool) x h f else false
theorem onAttribute_tag {x : PySem.Expr} {f : PySem.Expr → PySem.Str → Pos → Bool} (c : onAttribute x f = true) : x.ctorIdx = 20 := ite_tag c
@[elab_as_elim] theorem onAttribute_elim {x : PySem.Expr} {f : PySem.Expr → PySem.Str → Pos → Bool} (c : onAttribute x f = true) {motive : PySem.Expr → Prop} (h : ∀ y n p, f y n p = true → motive (.Attribute y n p)) : motive x :=
  PySem.Expr.Attribute.elim (motive_1 := fun x => onAttribute x f = true → motive x) x (ite_tag c) h c
noncomputable def onSubscript (x : PySem.Expr) (f : PySem.Expr → PySem.Expr → Pos → Bool) : Bool := if h : x.ctorIdx = 21 then PySem.Expr.Subscript.elim (motive_1 := fun _ => Bool) x h f else false
theorem onSubscript_tag {x : PySem.Expr} {f : PySem.Expr → PySem.Expr → Pos → Bool} (c : onSubscript x f = true) : x.ctorIdx = 21 := ite_tag c
@[elab_as_elim] theorem onSubscript_elim {x : PySem.Expr} {f : PySem.Expr → PySem.Expr → Pos → Bool} (c : onSubscript x f = true) {motive : PySem.Expr → Prop} (h : ∀ y z p, f y z p = true → motive (.Subscript y z p)) : motive x :=
  PySem.Expr.Subscript.elim (motive_1 := fun x => onSubscript x f = true → motive x) x (ite_tag c) h c
noncomputable def onCompare (x : PySem.Expr) (f : PySem.Expr → List CmpOp → List PySem.Expr → Pos → Bool) : Bool := if h : x.ctorIdx = 15 then PySem.Expr.Compare.elim (motive_1 := fun _ => Bool) x h f else false
theorem onCompare_tag {x : PySem.Expr} {f : PySem.Expr → List CmpOp → List PySem.Expr → Pos → Bool} (c : onCompare x f = true) : x.ctorIdx = 15 := ite_tag c
@[elab_as_elim] theorem onCompare_elim {x : PySem.Expr} {f : PySem.Expr → List CmpOp → List PySem.Expr → Pos → Bool} (c : onCompare x f = true) {motive : PySem.Expr → Prop} (h : ∀ y os ys p, f y os ys p = true → motive (.Compare y os ys p)) : motive x :=
  PySem.Expr.Compare.elim (motive_1 := fun x => onCompare x f = true → motive x) x (ite_tag c) h c
noncomputable def onBoolOp (x : PySem.Expr) (f : BoolOp → List PySem.Expr → Pos → Bool) : Bool := if h : x.ctorIdx = 0 then PySem.Expr.BoolOp.elim (motive_1 := fun _ => Bool) x h f else false
theorem onBoolOp_tag {x : PySem.Expr} {f : BoolOp → List PySem.Expr → Pos → Bool} (c : onBoolOp x f = true) : x.ctorIdx = 0 := ite_tag c
@[elab_as_elim] theorem onBoolOp_elim {x : PySem.Expr} {f : BoolOp → List PySem.Expr → Pos → Bool} (c : onBoolOp x f = true) {motive : PySem.Expr → Prop} (h : ∀ o xs p, f o xs p = true → motive (.BoolOp o xs p)) : motive x :=
  PySem.Expr.BoolOp.elim (motive_1 := fun x => onBoolOp x f = true → motive x) x (ite_tag c) h c
noncomputable def onUnaryOp (x : PySem.Expr) (f : UnaryOp → PySem.Expr → Pos → Bool) : Bool := if h : x.ctorIdx = 3 then PySem.Expr.UnaryOp.elim (motive_1 := fun _ => Bool) x h f else false
theorem onUnaryOp_tag {x : PySem.Expr} {f : UnaryOp → PySem.Expr → Pos → Bool} (c : onUnaryOp x f = true) : x.ctorIdx = 3 := ite_tag c
@[elab_as_elim] theorem onUnaryOp_elim {x : PySem.Expr} {f : UnaryOp → PySem.Expr → Pos → Bool} (c : onUnaryOp x f = true) {motive : PySem.Expr → Prop} (h : ∀ o y p, f o y p = true → motive (.UnaryOp o y p)) : motive x :=
  PySem.Expr.UnaryOp.elim (motive_1 := fun x => onUnaryOp x f = true → motive x) x (ite_tag c) h c
noncomputable def onBinOp (x : PySem.Expr) (f : PySem.Expr → Operator → PySem.Expr → Pos → Bool) : Bool := if h : x.ctorIdx = 2 then PySem.Expr.BinOp.elim (motive_1 := fun _ => Bool) x h f else false
theorem onBinOp_tag {x : PySem.Expr} {f : PySem.Expr → Operator → PySem.Expr → Pos → Bool} (c : onBinOp x f = true) : x.ctorIdx = 2 := ite_tag c
@[elab_as_elim] theorem onBinOp_elim {x : PySem.Expr} {f : PySem.Expr → Operator → PySem.Expr → Pos → Bool} (c : onBinOp x f = true) {motive : PySem.Expr → Prop} (h : ∀ y o z p, f y o z p = true → motive (.BinOp y o z p)) : motive x :=
  PySem.Expr.BinOp.elim (motive_1 := fun x => onBinOp x f = true → motive x) x (ite_tag c) h c
noncomputable def onIfExp (x : PySem.Expr) (f : PySem.Expr → PySem.Expr → PySem.Expr → Pos → Bool) : Bool := if h : x.ctorIdx = 5 then PySem.Expr.IfExp.elim (motive_1 := fun _ => Bool) x h f else false
theorem onIfExp_tag {x : PySem.Expr} {f : PySem.Expr → PySem.Expr → PySem.Expr → Pos → Bool} (c : onIfExp x f = true) : x.ctorIdx = 5 := ite_tag c
@[elab_as_elim] theorem onIfExp_elim {x : PySem.Expr} {f : PySem.Expr → PySem.Expr → PySem.Expr → Pos → Bool} (c : onIfExp x f = true) {motive : PySem.Expr → Prop} (h : ∀ y z u p, f y z u p = true → motive (.IfExp y z u p)) : motive x :=
  PySem.Expr.IfExp.elim (motive_1 := fun x => onIfExp x f = true → motive x) x (ite_tag c) h c
noncomputable def onCall (x : PySem.Expr) (f : PySem.Expr → List PySem.Expr → List Keyword → Pos → Bool) : Bool := if h : x.ctorIdx = 16 then PySem.Expr.Call.elim (motive_1 := fun _ => Bool) x h f else false
theorem onCall_tag {x : PySem.Expr} {f : PySem.Expr → List PySem.Expr → List Keyword → Pos → Bool} (c : onCall x f = true) : x.ctorIdx = 16 := ite_tag c
@[elab_as_elim] theorem onCall_elim {x : PySem.Expr} {f : PySem.Expr → List PySem.Expr → List Keyword → Pos → Bool} (c : onCall x f = true) {motive : PySem.Expr → Prop} (h : ∀ g xs kws p, f g xs kws p = true → motive (.Call g xs kws p)) : motive x :=
  PySem.Expr.Call.elim (motive_1 := fun x => onCall x f = true → motive x) x (ite_tag c) h c
noncomputable def onSlice (x : PySem.Expr) (f : Option PySem.Expr → Option PySem.Expr → Option PySem.Expr → Pos → Bool) : Bool := if h : x.ctorIdx = 26 then PySem.Expr.Slice.elim (motive_1 := fun _ => Bool) x h f else false
@[elab_as_elim] theorem onSlice_elim {x : PySem.Expr} {f : Option PySem.Expr → Option PySem.Expr → Option PySem.Expr → Pos → Bool} (c : onSlice x f = true) {motive : PySem.Expr → Prop} (h : ∀ lo up st p, f lo up st p = true → motive (.Slice lo up st p)) : motive x :=
  PySem.Expr.Slice.elim (motive_1 := fun x => onSlice x f = true → motive x) x (ite_tag c) h c
noncomputable def ckVar (X : Ck) (y : PySem.Str) : Bool := (X.sc.names.lookup y == some .local || X.sc.names.lookup y == some .cell) && !(y == ("__debug__" : PySem.Str))
noncomputable def ckLoc (X : Ck) (i : Nat) (x : PySem.Expr) : Bool := onName x fun y _ => X.names[i]? == some y && ckVar X y
noncomputable def onListComp (x : PySem.Expr) (f : PySem.Expr → List Comprehension → Scope → Pos → Bool) : Bool := if h : x.ctorIdx = 8 then PySem.Expr.ListComp.elim (motive_1 := fun _ => Bool) x h f else false
theorem onListComp_tag {x : PySem.Expr} {f : PySem.Expr → List Comprehension → Scope → Pos → Bool} (c : onListComp x f = true) : x.ctorIdx = 8 := ite_tag c
@[elab_as_elim] theorem onListComp_elim {x : PySem.Expr} {f : PySem.Expr → List Comprehension → Scope → Pos → Bool} (c : onListComp x f = true) {motive : PySem.Expr → Prop} (h : ∀ e gs sc p, f e gs sc p = true → motive (.ListComp e gs sc p)) : motive x :=
  PySem.Expr.ListComp.elim (motive_1 := fun x => onListComp x f = true → motive x) x (ite_tag c) h c
/-- [c[p] for p in j]: c lies in a cell -/
noncomputable def allT : List Bool → Bool
  | [] => true
  | b :: l => b && allT l
theorem all_at : ∀ {l : List Bool} {k : Nat} {b : Bool}, allT l = true → l[k]? = some b → b = true
  | a :: l, 0, b, c, e => Option.some.inj e ▸ (Bool.and_eq_true_iff.mp c).1
  | a :: l, k + 1, b, c, e => all_at (l := l) (k := k) (Bool.and_eq_true_iff.mp c).2 e
noncomputable def compG (X : Ck) (j : Nat) (pn : PySem.Str) : List Comprehension → Bool
  | [g] => onName g.target (fun pn' _ => decide (pn' = pn)) && onName g.iter (fun jn _ => X.names[j]? == some jn && ckVar X jn) && g.ifs.isEmpty && decide (g.is_async = 0)
  | _ => false
noncomputable def compL (X : Ck) (i j : Nat) (gs : List Comprehension) (sc : Scope) (cn pn : PySem.Str) : List Bool := [compG X j pn gs, X.names[i]? == some cn, ckVar X cn, X.sc.names.lookup cn == some .cell, !(pn == ("__debug__" : PySem.Str)), decide (sc.names = [(PySem.Str.ofString ".0", .local), (pn, .local), (cn, .free)]), decide (sc.kind = .function), !(pn == cn), !(cn == PySem.Str.ofString ".0"), !(pn == PySem.Str.ofString ".0")]
noncomputable def ckComp (X : Ck) (i j : Nat) (x : PySem.Expr) : Bool := onListComp x fun e gs sc _ => onSubscript e fun y z _ => onName y fun cn _ => onName z fun pn _ => allT (compL X i j gs sc cn pn)
mutual
noncomputable def ckE (G : Nm) (X : Ck) : E → PySem.Expr → Bool
  | .loc i, x => ckLoc X i x
  | .kint i, x => onConstant x fun k _ _ => (match k with | .int j => decide (i = j) | _ => false)
  | .kstr s, x => onConstant x fun k _ _ => (match k with | .str j => decide (s = j) | _ => false)
  | .kbool b, x => onConstant x fun k _ _ => (match k with | .bool j => b == j | _ => false)
  | .knone, x => onConstant x fun k _ _ => (match k with | .none => true | _ => false)
  | .glob g, x => onName x fun y _ => G.gname g == some y && ckName X .globalImplicit y
  | .tup es, x => onTuple x fun xs _ _ => ckL G X es xs && decide (xs.length ≤ 100)
  | .list es, x => onList x fun xs _ => ckL G X es xs && decide (xs.length ≤ 100)
  | .dict0 _, x => onDict x fun ks vs _ => ks.isEmpty && vs.isEmpty
  | .attr e a, x => onAttribute x fun y n _ => ckE G X e y && attrNames[a]? == some n && notCall y
  | .sub e i, x => onSubscript x fun y z _ => ckE G X e y && ckE G X i z && notSlice z
  | .slTo e n, x => onSubscript x fun y z _ => ckE G X e y && onName y (fun _ _ => true) && onSlice z fun lo up st _ => lo.isNone && st.isNone && (match up with
    | some u => onConstant u fun k _ _ => (match k with | .int m => decide ((n : Int) = m) && decide (n < 1000) | _ => false)
    | none => false)
  | .cmp op a b, x => onCompare x fun y os ys _ => (match os with
    | [o] => (match ys with
      | [z] => ckCm op o && ckE G X a y && ckE G X b z && !behindInMarks o z
      | _ => false)
    | _ => false)
  | .boolop isAnd es, x => onBoolOp x fun o xs _ => (isAnd == (o == .And)) && ckL G X es xs
  | .not e, x => onUnaryOp x fun o y _ => (match o with | .Not => ckE G X e y | _ => false)
  | .neg e, x => onUnaryOp x fun o y _ => (match o with | .USub => ckE G X e y | _ => false)
  | .bin op a b, x => onBinOp x fun y o z _ => ckBo op o && ckE G X a y && ckE G X b z
  | .ife c a b, x => onIfExp x fun y z u _ => ckE G X c y && ckE G X a z && ckE G X b u
  | .callF f es, x => onCall x fun g xs kws _ => kws.isEmpty && onName g fun y _ => G.fname f == some y && ckName X .globalImplicit y && ckL G X es xs && decide (xs.length ≤ 20)
  | .callM m e es, x => onCall x fun g xs kws q => kws.isEmpty && onAttribute g fun y n p => ckE G X e y && G.mname m == some n && ckL G X es xs && decide (xs.length ≤ 20) && notCall y && (p.endLine == q.line)
  | .new c es, x => onCall x fun g xs kws _ => kws.isEmpty && onName g fun y _ => G.cname c == some y && ckName X .globalImplicit y && ckL G X es xs && decide (xs.length ≤ 20)
  | .blt b es, x => onCall x fun g xs kws _ => kws.isEmpty && onName g fun y _ => (bltNames.map PySem.Str.ofString)[b]? == some y && ckName X .globalImplicit y && ckL G X es xs && decide (xs.length ≤ 20)
  | .isNone e, x => onCompare x fun y os ys _ => (match os with
    | [.Is] => (match ys with
      | [z] => ckE G X e y && onConstant z fun k _ _ => (match k with | .none => true | _ => false)
      | _ => false)
    | _ => false)
  | .isStr e, x => onCall x fun g xs kws _ => kws.isEmpty && onName g fun y _ => (y == PySem.Str.ofString "isinstance") && ckName X .globalImplicit y && (match xs with
    | [x1, x2] => ckE G X e x1 && onName x2 fun z _ => (z == PySem.Str.ofString "str") && ckName X .globalImplicit z
    | _ => false)
  | .pow, x => onBinOp x fun y o z _ => (match o with | .Pow => true | _ => false) && onConstant y (fun k _ _ => (match k with | .int i => decide (i = 10) | _ => false)) && onConstant z (fun k _ _ => (match k with | .int i => decide (i = 20) | _ => false))
  | .slFrom i j, x => onSubscript x fun y z _ => ckLoc X i y && onSlice z fun lo up st _ => up.isNone && st.isNone && (match lo with
    | some u => ckLoc X j u
    | none => false)
  | .comp i j, x => ckComp X i j x
  | .newX es, x => onCall x fun g xs kws _ => kws.isEmpty && onName g fun y _ => (y == G.xname) && ckName X .globalImplicit y && ckL G X es xs && decide (xs.length ≤ 20)
  | .meth k e es, x => onCall x fun g xs kws q => kws.isEmpty && onAttribute g fun y n p => ckE G X e y && (methId k).map PySem.Str.ofString == some n && ckL G X es xs && decide (xs.length ≤ 20) && notCall y && (p.endLine == q.line)
noncomputable def ckL (G : Nm) (X : Ck) : EL → List PySem.Expr → Bool
  | .nil, xs => xs.isEmpty
  | .cons e es, xs => (match xs with
    | x :: xs => ckE G X e x && ckL G X es xs
    | [] => false)
end

/-- a part of the text is told by its part of the language -/
noncomputable def SimE (G : Glo) (cf : Cf) (n : Nat) (e : E) : Prop := ∀ (X : Ck) (x : PySem.Expr), ckE G X e x = true → ∀ (L : Fm) (env : Env) (A : Around), EnvOk A X L env → AOk A (n + 1) → ∀ (s : Shared) (φ : List Addr) (σ : AH) (ρ : En), Ok G.C φ σ s.heap → Loc G.C.hB X ρ φ s.heap L →
  (∀ Q, wE G.P cf e ρ σ Q → wpAny (MM G) A (eval x env) (Post G.C φ s Q) NR s) ∧
  (∀ R : Bool → AH → Prop, wE G.P cf e ρ σ (fun v σ' => match v with | .bool b => R b σ' | _ => False) → wpAny (MM G) A (isTrue x env (eval x env)) (PostT G.C φ s R) NR s)
noncomputable def SimL (G : Glo) (cf : Cf) (n : Nat) (es : EL) : Prop := ∀ (X : Ck) (xs : List PySem.Expr), ckL G X es xs = true → ∀ (L : Fm) (env : Env) (A : Around), EnvOk A X L env → AOk A (n + 1) → ∀ (s : Shared) (φ : List Addr) (σ : AH) (ρ : En), Ok G.C φ σ s.heap → Loc G.C.hB X ρ φ s.heap L →
  (∀ (pos : Pos) Q, wL G.P cf es ρ σ Q → wpAny (MM G) A (spliced (backTo pos (starEach xs env))) (PostL G.C φ s (fun vs σ' => vs.length = xs.length ∧ Q vs σ')) NR s) ∧
  (∀ (pos : Pos) (op : BoolOp) Q, wB G.P cf (op == .And) es ρ σ Q → wpAny (MM G) A (boolOp pos op (evalEach xs env)) (Post G.C φ s Q) NR s) ∧
  (∀ (op : BoolOp) (R : Bool → AH → Prop), wB G.P cf (op == .And) es ρ σ (fun v σ' => match v with | .bool b => R b σ' | _ => False) → wpAny (MM G) A (allTrue op xs env) (PostT G.C φ s R) NR s)

/-- where no truth is asked in another way, the value's truth is the test -/
theorem truth_of {G : Glo} {A : Around} {x : PySem.Expr} {env : Env} {φ : List Addr} {s : Shared} {R : Bool → AH → Prop} {e : PySem.Expr} (he : isTrue x env (eval x env) = (do let v ← eval x env; standAt e.pos; holding [v] (truthy v)))
    (h : wpAny (MM G) A (eval x env) (Post G.C φ s (fun v σ' => match v with | .bool b => R b σ' | _ => False)) NR s) : wpAny (MM G) A (isTrue x env (eval x env)) (PostT G.C φ s R) NR s := by
  rw [he]
  refine wpAny_bind (wpAny_mono h (fun w s' p => ?_) fun _ _ z => z)
  obtain ⟨φ', σ', v, x1, x2, x3, x4, x5, x6⟩ := p
  cases v with
  | bool b =>
    cases x3
    exact wpAny_bind (wpAny_standAt (wpAny_holding (wpAny_truthy_bool ⟨φ', σ', x1, x2, x4, x5, x6⟩)))
  | _ => exact x4.elim

theorem post_now {C : Cx} {φ : List Addr} {σ : AH} {s : Shared} {Q : V → AH → Prop} {v : V} {w : Value} {tk : Nat} (k : Ok C φ σ s.heap) (r : Rel s.heap φ v w) (q : Q v σ) : Post C φ s Q w { s with toks := tk } :=
  ⟨φ, σ, v, .refl _ _ _, k, r, q, rfl, rfl⟩
theorem post_now' {C : Cx} {φ : List Addr} {σ : AH} {s : Shared} {Q : V → AH → Prop} {v : V} {w : Value} (k : Ok C φ σ s.heap) (r : Rel s.heap φ v w) (q : Q v σ) : Post C φ s Q w s :=
  ⟨φ, σ, v, .refl _ _ _, k, r, q, rfl, rfl⟩

theorem ckName_of {A : Around} {X : Ck} {L : Fm} {env : Env} (he : EnvOk A X L env) {k : NameKind} {x : PySem.Str} (c : ckName X k x = true) : env.kindOf x = some k ∧ (x == ("__debug__" : PySem.Str)) = false := by
  unfold ckName at c
  have b := and_r c
  have a := and_l c
  refine ⟨?_, by simpa using b⟩
  unfold Env.kindOf
  rw [he.sc]
  exact beq_iff_eq.mp a

section
variable {G : Glo} (hG : GloOk G) {cf : Cf} {n : Nat} {X : Ck} {L : Fm} {env : Env} {A : Around} {s : Shared} {φ : List Addr} {σ : AH} {ρ : En}

set_option tactic.hygienic true in
theorem load_loc {x : PySem.Str} {i : Nat} {v : V} (he : EnvOk A X L env) (l : Loc G.C.hB X ρ φ s.heap L) (k : Ok G.C φ σ s.heap) (c1 : X.names[i]? = some x) (c2 : ckVar X x = true) (e : ρ i = some v) {Q : Value → Shared → Prop} {E : Value → Shared → Prop} (q : ∀ w, Rel s.heap φ v w → Q w s) :
    wpAny (MM G) A (loadName env x) Q E s := by
  obtain ⟨⟨m, hn, hm⟩, _⟩ := l
  obtain ⟨y, w, y1, y2, y3⟩ := hm i v e
  obtain rfl : y = x := Option.some.inj (y1.symm.trans c1)
  have hk : env.kindOf y = X.sc.names.lookup y := by unfold Env.kindOf; rw [he.sc]
  unfold Lies at y2
  split at y2
  · rename_i e1
    exact wpAny_loadName_local (by rw [he.sc]; exact he.kind) (hk.trans e1) (by rw [he.loc]; exact hn) y2 (q w y3)
  · rename_i e1
    obtain ⟨c, o, h1, h2, h3⟩ := y2
    exact wpAny_loadName_cell (by rw [he.sc]; exact he.kind) (hk.trans e1) (by rw [he.cells]; exact h1) ⟨o, h2, h3⟩ (q w y3)
  · exact y2.elim
theorem name_loc {x : PySem.Str} {pos : Pos} {i : Nat} {v : V} (he : EnvOk A X L env) (l : Loc G.C.hB X ρ φ s.heap L) (k : Ok G.C φ σ s.heap) (c1 : X.names[i]? = some x) (c2 : ckVar X x = true) (e : ρ i = some v) {Q : Value → Shared → Prop} {E : Value → Shared → Prop} (q : ∀ w, Rel s.heap φ v w → Q w s) :
    wpAny (MM G) A (eval (.Name x pos) env) Q E s :=
  wpAny_Name (load_loc he l k c1 c2 e q) (by simpa using (Bool.and_eq_true_iff.mp c2).2)
include hG in
theorem name_glob {x : PySem.Str} {pos : Pos} {w : Value} {Q : Value → Shared → Prop} {E : Value → Shared → Prop} (hB : G.C.hB.StaysIn s.heap) (he : EnvOk A X L env) (c : ckName X .globalImplicit x = true) (e : G.mg x = some w) (q : Q w s) :
    wpAny (MM G) A (eval (.Name x pos) env) Q E s := by
  obtain ⟨c3, c4⟩ := ckName_of he c
  exact Calls.Name_function_global (by rw [he.sc]; exact he.kind) c3 (Calls.loadGlobal_global (by rw [he.glob]; exact hG.g.keeps hB) e q) c4
include hG in
theorem name_blt {x : PySem.Str} {pos : Pos} {w : Value} {Q : Value → Shared → Prop} {E : Value → Shared → Prop} (hB : G.C.hB.StaysIn s.heap) (he : EnvOk A X L env) (c : ckName X .globalImplicit x = true) (e : G.mg x = none) (e' : G.mb x = some w) (q : Q w s) :
    wpAny (MM G) A (eval (.Name x pos) env) Q E s := by
  obtain ⟨c3, c4⟩ := ckName_of he c
  exact Calls.Name_function_global (by rw [he.sc]; exact he.kind) c3 (Calls.loadGlobal_builtin (by rw [he.glob]; exact hG.g.keeps hB) e (by rw [he.bu]; exact hG.b.keeps hB) e' q) c4
end

theorem readsL_ih {σ : AH} {h : Heap} {φ : List Addr} {f : V → Option PyData} (ih : ∀ (v : V) (w : Value) (d : PyData), Rel h φ v w → f v = some d → ∃ as, Reads h w d as) : ∀ {vs : List V} {ws : List Value} {ds : List PyData}, RelL h φ vs ws → toPyL f vs = some ds → ∃ as, ReadsAll h ws ds as
  | [], _, _, r, e => by cases r; cases e; exact ⟨_, .nil⟩
  | v :: vs, _, ds, ⟨w, ws, ew, a, b⟩, e => by
    subst ew
    have e : (match f v, toPyL f vs with | some d, some ds => some (d :: ds) | _, _ => none) = some ds := e
    cases e1 : f v with
    | none => rw [e1] at e; cases e
    | some d =>
      rw [e1] at e
      cases e2 : toPyL f vs with
      | none => rw [e2] at e; cases e
      | some ds' =>
        rw [e2] at e
        cases e
        obtain ⟨as, ra⟩ := ih v w d a e1
        obtain ⟨bs, rb⟩ := readsL_ih (σ := σ) ih b e2
        exact ⟨_, .cons ra rb⟩
theorem reads_of {C : Cx} {φ : List Addr} {σ : AH} {h : Heap} (k : Ok C φ σ h) : ∀ (n : Nat) {v : V} {w : Value} {d : PyData}, Rel h φ v w → toPy σ n v = some d → ∃ as, Reads h w d as := by
  intro n
  induction n with
  | zero => intro v w d r e; cases e
  | succ n ih =>
    intro v w d r e
    cases v with
    | none => cases r; cases e; exact ⟨_, .none⟩
    | bool b => cases r; cases e; exact ⟨_, .bool _⟩
    | int i => obtain ⟨t, rfl⟩ := r; cases e; exact ⟨_, .int _ _⟩
    | str s => obtain ⟨t, rfl⟩ := r; cases e; exact ⟨_, .str _ _⟩
    | tup vs =>
      obtain ⟨a, ws, rfl, ⟨o, ho, hc, m, hd⟩, rl⟩ := r
      obtain ⟨ds, e2, rfl⟩ := Option.map_eq_some_iff.mp (show (toPyL (toPy σ n) vs).map PyData.tuple = some d from e)
      obtain ⟨as, ra⟩ := readsL_ih (σ := σ) (fun _ _ _ => ih) rl e2
      exact ⟨_, .tuple ho hc hd ra⟩
    | obj i =>
      obtain ⟨a, ea, rfl⟩ := r
      obtain ⟨o, hx, b⟩ := k.at_ ea
      have e : (match σ[i]? with | some (.list xs) => (toPyL (toPy σ n) xs).map PyData.list | _ => none) = some d := e
      rw [hx] at e
      cases o with
      | list xs =>
        obtain ⟨ds, e2, rfl⟩ := Option.map_eq_some_iff.mp (show (toPyL (toPy σ n) xs).map PyData.list = some d from e)
        obtain ⟨ws, m, g, rl⟩ := b
        obtain ⟨as, ra⟩ := readsL_ih (σ := σ) (fun _ _ _ => ih) rl e2
        exact ⟨_, .list g rfl rfl ra⟩
      | _ => cases e

end Mine
end

/-! N4 -/
noncomputable section
set_option maxHeartbeats 200000
open PyProof.Rows PySem PySem.Calls PySem.W
namespace Mine

section
variable {G : Glo} (hG : GloOk G) {A : Around} {s : Shared} {φ : List Addr} {σ : AH} {v : V} {w : Value}

/-- an end without a value -/
noncomputable def PostU (C : Cx) (φ : List Addr) (s : Shared) (σ' : AH) : Shared → Prop := fun s' =>
  Ext [] φ s.heap φ s'.heap ∧ Ok C φ σ' s'.heap ∧ s'.gens = s.gens ∧ s'.os = s.os

theorem rel_obj {h : Heap} {i : Nat} {w : Value} (k : Ok G.C φ σ h) (r : Rel h φ (.obj i) w) {o : AObj} (e : σ[i]? = some o) : ∃ a, w = .ref a ∧ φ[i]? = some a ∧ ObjRel G.C h φ a o := by
  obtain ⟨a, ea, rfl⟩ := r
  obtain ⟨b, eb, z⟩ := k.obj i o e
  rw [ea] at eb; cases eb
  exact ⟨a, rfl, ea, z⟩

theorem lookIn_ns {h : Heap} {d : Addr} {m : PySem.Str → Option Value} (n : h.Ns d m) : ∃ od, h.get? d = some od ∧ ∀ x, lookIn x od = some (m x) := by
  obtain ⟨o, es, ep, ho, hd, hk, hf⟩ := n
  refine ⟨o, ho, fun x => ?_⟩
  unfold lookIn
  rw [hd]
  dsimp only
  have q : ∀ e ∈ es.toList, e.refKey = false := fun e he => by
    obtain ⟨y, t, hy⟩ := hk e (Array.mem_toList_iff.mp he)
    unfold DictEntry.refKey
    rw [hy]
  have hx := hf x
  unfold nsFind findBy at hx
  rw [← Array.find?_toList] at hx
  rw [← hx]
  cases z : es.toList.find? (fun e => e.key.isStr x) with
  | some e => rfl
  | none =>
    have : es.toList.any (·.refKey) = false := List.any_eq_false.mpr fun e he => by rw [q e he]; decide
    rw [this]; rfl

theorem inst_at {h : Heap} {a c d : Nat} (k : Ok G.C φ σ h) {fs : List (Nat × V)} (z : ObjRel G.C h φ a (.inst c d)) (e : σ[d]? = some (.ns fs)) :
    c < G.C.nc ∧ ∃ da od m, φ[d]? = some da ∧ InstAt h a (instObj (G.C.cls c) da) (G.C.cls c) (some od) ∧ h.Ns1 da m ∧ (∀ x, lookIn x od = some (m x)) ∧
      (∀ i v, fs.lookup i = some v → ∃ w, m (attrName i) = some w ∧ Rel h φ v w) ∧ (∀ x w, m x = some w → ∃ i v, fs.lookup i = some v ∧ x = attrName i) ∧ ∀ i v, fs.lookup i = some v → i < attrNames.length := by
  obtain ⟨hc, da, ed, hi⟩ := z
  obtain ⟨b, eb, ⟨⟨m, hn, h1, h2⟩, lt⟩⟩ := k.obj d _ e
  rw [ed] at eb; cases eb
  obtain ⟨od, ho, hl⟩ := lookIn_ns hn.ns
  exact ⟨hc, da, od, m, ed, ⟨hi, rfl, rfl, ho⟩, hn, hl, h1, h2, lt⟩

theorem rel_handed {h : Heap} : ∀ {v : V} {w : Value}, Rel h φ v w → handedIn w = true
  | .none, _, r => by cases r; rfl
  | .bool _, _, r => by cases r; rfl
  | .int _, _, r => by obtain ⟨t, rfl⟩ := r; rfl
  | .str _, _, r => by obtain ⟨t, rfl⟩ := r; rfl
  | .obj _, _, r => by obtain ⟨a, _, rfl⟩ := r; rfl
  | .tup _, _, r => by obtain ⟨a, _, rfl, _⟩ := r; rfl

set_option tactic.hygienic true in
include hG in
theorem op_attr {expr : Bool} {a : Nat} {u : V} {Q : V → AH → Prop} (k : Ok G.C φ σ s.heap) (r : Rel s.heap φ v w) (e : attrAt σ v a = some u) (q : Q u σ) :
    wpAny (MM G) A (getAttr w (attrName a) expr) (Post G.C φ s Q) NR s := by
  cases v with
  | obj i =>
    simp only [attrAt] at e
    split at e
    · rename_i c d e1
      split at e
      · rename_i fs e2
        obtain ⟨x, rfl, ex, z⟩ := rel_obj k r e1
        obtain ⟨hc, da, od, m, ed, I, hn, hl, h1, h2, lt⟩ := inst_at k z e2
        obtain ⟨wu, hw, ru⟩ := h1 a u e
        obtain ⟨g1, g2, g3, g4⟩ := hG.attr c a hc (lt a u e)
        exact get_value (hG.hK.keeps k.base) I (plainGet_of g1).1 (findObj_own g2 g3 rfl ((hl (attrName a)).trans (by rw [hw]))) (rel_handed ru) (post_now k ru q)
      · cases e
    · cases e
  | _ => cases e

theorem nsPut_lookup (a : Nat) (u : V) : ∀ (fs : List (Nat × V)) (b : Nat), (nsPut a u fs).lookup b = if b = a then some u else fs.lookup b
  | [], b => by
    simp only [nsPut, List.lookup_cons, List.lookup_nil]
    by_cases z : b = a
    · subst z; simp
    · simp [z, beq_eq_false_iff_ne.mpr z]
  | (c, x) :: r, b => by
    simp only [nsPut]
    by_cases q : c = a
    · subst q
      rw [if_pos rfl]
      simp only [List.lookup_cons]
      by_cases z : b = c
      · subst z; simp
      · simp [z, beq_eq_false_iff_ne.mpr z]
    · rw [if_neg q]
      simp only [List.lookup_cons, nsPut_lookup a u r b]
      by_cases z : b = c
      · subst z; simp [q]
      · simp [beq_eq_false_iff_ne.mpr z]

theorem attrNames_nodup : attrNames.Nodup := by decide +kernel
theorem attrName_inj {a b : Nat} (ha : a < attrNames.length) (hb : b < attrNames.length) (e : attrName a = attrName b) : a = b := by
  unfold attrName at e
  rw [List.getD_eq_getElem?_getD, List.getD_eq_getElem?_getD, List.getElem?_eq_getElem ha, List.getElem?_eq_getElem hb] at e
  exact (List.getElem?_inj ha attrNames_nodup).mp (by rw [List.getElem?_eq_getElem ha, List.getElem?_eq_getElem hb]; exact congrArg some e)

/-- an attribute is stored into an instance's own dict -/
theorem set_raw {K : Frag} {x C dx : Addr} {od : Obj} {m : PySem.Str → Option Value} {name : PySem.Str} {wv : Value} {prog : Program} {w' : World} {E : Value → Shared → Prop} {Q : Unit → Shared → Prop} (X : K.In s.heap) (I : InstAt s.heap x (instObj C dx) C (some od)) (hn : s.heap.Ns1 dx m) (hw : Within (fun y => if y = name then some wv else m y) attrNames)
    (hs : findIn K (.ref C) "__setattr__" = some (some (.builtin "object.__setattr__"))) (hp : plainOver K C = true) (ht : takerIn K C name = some none) (hh : hasDictIn K C = true)
    (h : ∀ h', h'.Ns1 dx (fun y => if y = name then some wv else m y) → Heap.SameBut dx s.heap h' → Q () { s with heap := h', toks := s.toks + 2 }) :
    wpAny (model prog w') A (setAttr (.ref x) name wv) Q E s := by
  refine set_plain X I hs (osa_open (s := { s with toks := s.toks + 1 }) X I hp ht fun b => ?_)
  obtain ⟨cd, hc, hd'⟩ := any_some hh
  obtain ⟨hx, _, _, _⟩ := I
  refine wpAny_bind (wpAny_pure (wpAny_bind (wpAny_bind (wpAny_loadPart (s := { s with toks := s.toks + 1 }) hx (wpAny_bind (looks_clsIn X hc _ _ _ _ (fun _ _ e => e) ?_))))))
  rw [hd']
  refine wpAny_pure (a := some dx) ?_
  show wpAny _ _ (Builtin.ObjectAttr.storeInDict dx (.str name s.toks) name wv) _ _ _
  unfold Builtin.ObjectAttr.storeInDict Builtin.ObjectAttr.newKeyGuard
  refine wpAny_bind (wpAny_pure (wpAny_bind (wpAny_nsSet1 (s := { s with toks := s.toks + 1 }) hn fun h' hn' hs' => ?_)))
  obtain ⟨oD, esD, epD, hoD, hdD, hcD⟩ := hn'.count hw
  have h14 : attrNames.length = 14 := rfl
  refine wpAny_bind (wpAny_lookBehind hoD (by rw [hdD]; exact pastItsLine_dict (by rw [sizeLine_eq]; exact Om2 hcD h14)) (wpAny_pure ?_))
  exact h h' hn' hs'

set_option tactic.hygienic true in
include hG in
theorem op_set {a : Nat} {u : V} {wu : Value} {σ' : AH} {Q : Unit → Shared → Prop} (k : Ok G.C φ σ s.heap) (r : Rel s.heap φ v w) (ru : Rel s.heap φ u wu) (ha : a < attrNames.length) (e : attrPut σ v a u = some σ')
    (q : ∀ s', PostU G.C φ s σ' s' → Q () s') : wpAny (MM G) A (setAttr w (attrName a) wu) Q NR s := by
  cases v with
  | obj i =>
    simp only [attrPut] at e
    split at e
    · rename_i c d e1
      split at e
      · rename_i fs e2
        cases e
        obtain ⟨x, rfl, ex, z⟩ := rel_obj k r e1
        obtain ⟨hc, da, od, m, ed, I, hn, hl, h1, h2, lt⟩ := inst_at k z e2
        obtain ⟨g1, g2, g3, g4⟩ := hG.attr c a hc ha
        obtain ⟨g5, g6⟩ := hG.sets c hc
        refine set_raw (hG.hK.keeps k.base) I hn (fun y hy => ?_) g5 g6 g4 g2 fun h' hn' hs' => q _ ?_
        · by_cases q : y = attrName a
          · rw [q]; unfold attrName; rw [List.getD_eq_getElem?_getD, List.getElem?_eq_getElem ha]; exact List.getElem_mem ha
          · have hy : m y ≠ none := by simpa only [if_neg q] using hy
            obtain ⟨wy, hwy⟩ := Option.ne_none_iff_exists'.mp hy
            obtain ⟨i, v, b1, b2⟩ := h2 y wy hwy
            have hi := lt i v b1
            rw [b2]; unfold attrName; rw [List.getD_eq_getElem?_getD, List.getElem?_eq_getElem hi]; exact List.getElem_mem hi
        have hlive : h'.get? da ≠ none := by obtain ⟨o, _, _, ho, _⟩ := hn'; rw [ho]; simp
        refine ⟨Ext.sameBut hs' (.inl (List.mem_of_getElem? ed)) hlive, k.upd (k.nz e2 fun _ h => nomatch h) ed hs' fun t => ?_, rfl, rfl⟩
        refine ⟨⟨_, hn', fun i v hv => ?_, fun y w hy => ?_⟩, fun i v hv => ?_⟩
        · rw [nsPut_lookup] at hv
          by_cases q : i = a
          · subst q
            rw [if_pos rfl] at hv ⊢
            cases hv
            exact ⟨wu, rfl, ru.mono (List.prefix_refl _) t⟩
          · rw [if_neg q] at hv
            obtain ⟨w, b1, b2⟩ := h1 i v hv
            rw [if_neg fun z => q (attrName_inj (lt i v hv) ha z)]
            exact ⟨w, b1, b2.mono (List.prefix_refl _) t⟩
        · by_cases q : y = attrName a
          · exact ⟨a, u, by rw [nsPut_lookup, if_pos rfl], q⟩
          · rw [if_neg q] at hy
            obtain ⟨i, v, b1, b2⟩ := h2 y w hy
            refine ⟨i, v, ?_, b2⟩
            rw [nsPut_lookup, if_neg fun z => q (by rw [b2, z])]; exact b1
        · rw [nsPut_lookup] at hv
          by_cases q : i = a
          · subst q; exact ha
          · rw [if_neg q] at hv; exact lt i v hv
      · cases e
    · rename_i st e1
      split at e
      · rename_i hs
        cases e
        obtain ⟨rfl, rfl⟩ := hs
        obtain ⟨x, rfl, ex, ob, t, vs, g1, g2, g3, g4, g5, g6⟩ := rel_obj k r e1
        have X := hG.hK.keeps k.base
        obtain ⟨cd, c1, c2, c3, c4, c5, c6⟩ := hG.xc.data
        have hd := g6 rfl
        have I : InstAt s.heap x ob G.C.exc none := ⟨g1, g2, by unfold notCls; rw [g3], by rw [hd]; trivial⟩
        refine set_plain X I hG.xc.set (exc_osa (s := { s with toks := s.toks + 1 }) X I c1 c2 c4 (c6 _) hG.xc.ball hd g3 fun h' k1 k2 => q _ ?_)
        refine ⟨⟨⟨[], by simp, fun _ m => nomatch m⟩, fun b o m _ e => ⟨o, k1 b o (fun z => m (z ▸ List.mem_of_getElem? ex)) e, .refl o⟩, fun b m e => ?_⟩, k.turn (k.nz e1 fun _ h => nomatch h) ex k1 fun _ => ⟨_, t, vs, k2, g2, g3, g4, fun _ => g5 (by decide), fun z => nomatch z⟩, rfl, rfl⟩
        by_cases z : b = x
        · rw [z, k2]; exact fun h => nomatch h
        · obtain ⟨o, e⟩ := Option.ne_none_iff_exists'.mp e
          rw [k1 b o z e]; exact fun h => nomatch h
      · cases e
    · cases e
  | _ => cases e
end

end Mine
end

/-! N5 -/
noncomputable section
set_option maxHeartbeats 200000
open PyProof.Rows PySem PySem.Calls PySem.W
namespace Mine

theorem RelL.get' {h : Heap} {φ : List Addr} {vs : List V} {ws : Array Value} {i : Nat} {v : V} (r : RelL h φ vs ws.toList) (q : vs[i]? = some v) : ∃ w, ws[i]? = some w ∧ Rel h φ v w := by
  obtain ⟨w, e, z⟩ := r.get q
  exact ⟨w, by rw [← Array.getElem?_toList]; exact e, z⟩

theorem items_of {prog : Program} {wd : World} {h : Heap} {φ : List Addr} : ∀ {vs : List V} {ks : List Int} {ws : List Value}, keyInts vs = some ks → RelL h φ vs ws → ItemsAre (intKind prog wd) ks ws
  | [], _, _, e, r => by cases e; cases r; exact .nil
  | .int i :: vs, ks, _, e, ⟨w, ws', ew, ⟨t, et⟩, r⟩ => by
    simp only [keyInts, Option.map_eq_some_iff] at e
    obtain ⟨ks', e', rfl⟩ := e
    subst ew et
    exact .cons (by simp [intKind, Value.isInt]) (items_of e' r)
  | .none :: _, _, _, e, _ => by cases e
  | .bool _ :: _, _, _, e, _ => by cases e
  | .str _ :: _, _, _, e, _ => by cases e
  | .tup _ :: _, _, _, e, _ => by cases e
  | .obj _ :: _, _, _, e, _ => by cases e

section
variable {G : Glo} (hG : GloOk G) {A : Around} {s : Shared} {φ : List Addr} {σ : AH} {v k u : V} {w wk wu : Value}

theorem key_of {h : Heap} {vs : List V} {ks : List Int} {w : Value} (e : keyInts vs = some ks) (r : Rel h φ (.tup vs) w) : ∃ a, w = .ref a ∧ IsTupleKey (intKind G.C.prog G.C.w) h ks a := by
  obtain ⟨a, ws, rfl, ⟨o, ho, hc, n, hd⟩, rl⟩ := r
  exact ⟨a, rfl, o, ws, n, ho, hc, hd, items_of e rl⟩

include hG in
theorem not_sys {a : Addr} {h : Heap} {i : Nat} (ok : Ok G.C φ σ h) (hz : i ≠ 0) (m : φ[i]? = some a) : (a == sysModules) = false := by
  rw [beq_eq_false_iff_ne]
  exact fun e => hG.sm (e ▸ ok.new i a hz m)

set_option tactic.hygienic true in
theorem idx_some {i : Int} {n j : Nat} (e : idx i n = some j) : 0 ≤ i ∧ i < n ∧ n < 1000000 ∧ j = i.toNat := by
  unfold idx at e
  split at e
  · rename_i z; cases e; exact ⟨z.1, z.2.1, z.2.2, rfl⟩
  · cases e

set_option tactic.hygienic true in
theorem idxR_some {i : Int} {n j : Nat} (e : idxR i n = some j) : (0 ≤ i ∧ i < n ∧ n < 1000000 ∧ j = i.toNat) ∨ (i < 0 ∧ -(n : Int) ≤ i ∧ n < 1000000 ∧ j = (i + n).toNat) := by
  unfold idxR at e
  split at e
  · rename_i z; cases e; exact .inl ⟨z.1, z.2.1, z.2.2, rfl⟩
  · split at e
    · rename_i z; cases e; exact .inr ⟨z.1, z.2.1, z.2.2, rfl⟩
    · cases e

/-- what a dict holds -/
inductive DictHas (C : Cx) (h : Heap) (φ : List Addr) (a : Addr) (w : Value) : Option V → Prop where
  | pl {K : Type} [DecidableEq K] {knd : PySem.KeyKind C.prog C.w K} {x : K} {kvs : List (K × Value)} {r : Option V} : knd.is x w = true → h.DictOf knd a kvs → (match r with | some v => ∃ u, valueAt kvs x = some u ∧ Rel h φ v u | none => valueAt kvs x = none) → DictHas C h φ a w r
  | tp {x : List Int} {b : Addr} {xs : List (List Int × Addr × Value)} {r : Option V} : w = .ref b → IsTupleKey (intKind C.prog C.w) h x b → h.DictOfH (tupleKind (intKind C.prog C.w)) a xs → (match r with | some v => ∃ p, atKey xs x = some p ∧ Rel h φ v p.2 | none => atKey xs x = none) → DictHas C h φ a w r

theorem dict_has {a : Addr} {d : AObj} {r : Option V} {h : Heap} (z : ObjRel G.C h φ a d) (rk : Rel h φ k wk) (e : dictAt d k = some r) : DictHas G.C h φ a wk r := by
  cases d with
  | dictI es =>
    cases k with
    | int i =>
      obtain ⟨t, rfl⟩ := rk
      obtain ⟨kvs, hd, rr⟩ := z
      simp only [dictAt, Option.some.injEq] at e
      subst e
      exact .pl (knd := intKind G.C.prog G.C.w) (x := i) (by simp [intKind, Value.isInt]) hd (rr.at_ i)
    | _ => cases e
  | dictS es =>
    cases k with
    | str x =>
      obtain ⟨t, rfl⟩ := rk
      obtain ⟨kvs, hd, rr⟩ := z
      simp only [dictAt, Option.some.injEq] at e
      subst e
      exact .pl (knd := PySem.strKind G.C.prog G.C.w) (x := x) (by simp [PySem.strKind, Value.isStrOf]) hd (rr.at_ x)
    | _ => cases e
  | dictT es =>
    cases k with
    | tup ks =>
      simp only [dictAt, Option.map_eq_some_iff] at e
      obtain ⟨x, e1, rfl⟩ := e
      obtain ⟨b, rfl, hk⟩ := key_of e1 rk
      obtain ⟨xs, hd, rr⟩ := z
      refine .tp rfl hk hd ?_
      have q := rr.at_ x
      have q2 : valueAt (xs.map fun x => (x.1, x.2.2)) x = (atKey xs x).map (·.2) := valueAt_kvsOf xs x
      rw [q2] at q
      revert q
      cases vAt es x with
      | none => exact fun q => Option.map_eq_none_iff.mp q
      | some v => exact fun ⟨w, q, r⟩ => let ⟨p, q1, q2⟩ := Option.map_eq_some_iff.mp q; ⟨p, q1, q2 ▸ r⟩
    | _ => cases e
  | _ => cases k <;> cases e

theorem dict_type {C : Cx} {a : Addr} {r : Option V} (z : DictHas C s.heap φ a wk r) : s.TypeIs (.ref a) "dict" := by
  cases z with
  | pl _ hd _ => exact hd.mapOf.typeIs
  | tp _ _ hd _ => exact hd.typeIs

set_option tactic.hygienic true in
theorem item_get {n : Nat} (hA : AOk A n) (ok : Ok G.C φ σ s.heap) (rv : Rel s.heap φ v w) (rk : Rel s.heap φ k wk) (e : itemAt σ v k = some u) {Q : V → AH → Prop} (q : Q u σ) :
    wpAny (MM G) A (getItem w wk) (Post G.C φ s Q) NR s := by
  have hu : A.units + 200 < cLine := by have := hA.units; exact Om3 this
  cases v with
  | tup vs =>
    cases k with
    | int i =>
      obtain ⟨t, rfl⟩ := rk
      simp only [itemAt, Option.bind_eq_some_iff] at e
      obtain ⟨j, e1, e2⟩ := e
      obtain ⟨h0, h1, h2, rfl⟩ := idx_some e1
      obtain ⟨a, ws, rfl, ht, rl⟩ := rv
      obtain ⟨wu, e3, ru⟩ := rl.get' e2
      have hl : ws.size = vs.length := by have := rl.length; simpa using this
      exact PyProof.Rows.getItem_tuple ht (by omega) (by omega) (by rw [hl]; exact seqIndex_of h0 h1) e3 (post_now' ok ru q)
    | _ => cases e
  | obj o =>
    simp only [itemAt] at e
    split at e
    · rename_i xs i e1
      obtain ⟨t, rfl⟩ := rk
      obtain ⟨j, e2, e3⟩ := Option.bind_eq_some_iff.mp e
      obtain ⟨a, rfl, ea, ws, m, hl, rl⟩ := rel_obj ok rv e1
      obtain ⟨wu, e4, ru⟩ := rl.get' e3
      have hsz : ws.size = xs.length := by have := rl.length; simpa using this
      have hL : s.heap.IsList a ws := PySem.IsL.isList (n := m) hl
      rcases idxR_some e2 with ⟨h0, h1, h2, rfl⟩ | ⟨h0, h1, h2, rfl⟩
      · exact wpAny_getItem_list hL h0 (by omega) e4 (post_now' ok ru q)
      · exact wpAny_getItem_list_neg hL h0 (by exact Om4 hsz h1) (by omega) (by rw [hsz]; exact e4) (post_now' ok ru q)
    · rename_i _ d e1 hneg
      obtain ⟨a, rfl, ea, z⟩ := rel_obj ok rv e1
      obtain ⟨r, e2, e3⟩ := Option.bind_eq_some_iff.mp e
      cases e3
      have hd := dict_has z rk e2
      cases hd with
      | pl hk hd e => obtain ⟨wu, e4, ru⟩ := e; exact wpAny_getItem_of hk hd.mapOf e4 (post_now ok ru q)
      | tp e5 hk hd e => subst e5; obtain ⟨p, e4, ru⟩ := e; exact wpAny_getItem_heap (tupleKind_room_in1 (by exact Om5 hu)) hk hd e4 (post_now ok ru q)
    · cases e
  | _ => cases k <;> cases e
end

end Mine
end

/-! N6 -/
noncomputable section
set_option maxHeartbeats 200000
open PyProof.Rows PySem PySem.Calls PySem.W
namespace Mine

section
variable {G : Glo} (hG : GloOk G) {A : Around} {s : Shared} {φ : List Addr} {σ σ' : AH} {v k u : V} {w wk wu : Value} {n : Nat}

theorem dictPut_list {xs : List V} {k u : V} : dictPut (.list xs) k u = none := by cases k <;> rfl
theorem dictAt_list {xs : List V} {k : V} : dictAt (.list xs) k = none := by cases k <;> rfl
/-- one object is turned -/
theorem turn {i : Nat} {a : Addr} {o' : AObj} {h' : Heap} {tk : Nat} (ok : Ok G.C φ σ s.heap) (hz : i ≠ 0) (ea : φ[i]? = some a) (hs : Heap.SameBut a s.heap h') (r : TK s.heap h' → ObjRel G.C h' φ a o') :
    PostU G.C φ s (σ.set i o') { s with heap := h', toks := tk } := by
  have k' := ok.upd hz ea hs r
  have m := List.mem_of_getElem? ea
  obtain ⟨ob, e, _⟩ := k'.live m
  exact ⟨Ext.sameBut hs (.inl m) (by rw [e]; simp), k', rfl, rfl⟩
theorem turn_list {i : Nat} {a : Addr} {ws : Array Value} {m : Nat} {xs' : List V} {tk : Nat} (ok : Ok G.C φ σ s.heap) (hz : i ≠ 0) (ea : φ[i]? = some a) (hl : s.heap.get? a = some (listOf ws m)) (f : Array Value → Array Value)
    (r : RelL s.heap φ xs' (f ws).toList) : PostU G.C φ s (σ.set i (.list xs')) { s with heap := s.heap.update a (Obj.mapSeq f), toks := tk } :=
  turn ok hz ea (Heap.SameBut.update ..) fun t => ⟨f ws, _, PySem.IsL.update (n := m) hl f, r.mono (List.prefix_refl _) t⟩

theorem PostU.post {Q : V → AH → Prop} {s' : Shared} (p : PostU G.C φ s σ' s') (r : ∀ h, Rel h φ u w) (q : Q u σ') : Post G.C φ s Q w s' := by
  obtain ⟨a, b, c, d⟩ := p
  exact ⟨φ, σ', u, a, b, r _, q, c, d⟩
theorem PostU.post' {Q : V → AH → Prop} {s' : Shared} (ok : Ok G.C φ σ s.heap) (p : PostU G.C φ s σ' s') (r : Rel s.heap φ u w) (q : Q u σ') : Post G.C φ s Q w s' := by
  obtain ⟨a, b, c, d⟩ := p
  exact ⟨φ, σ', u, a, b, r.mono (List.prefix_refl _) (a.tk ok (fun _ m => nomatch m)), q, c, d⟩

set_option tactic.hygienic true in
theorem dict_put {n : Nat} (hA : AOk A n) (ok : Ok G.C φ σ s.heap) {i : Nat} {a : Addr} {d d' : AObj} (hz : i ≠ 0) (ea : φ[i]? = some a) (z : ObjRel G.C s.heap φ a d) (rk : Rel s.heap φ k wk) (ru : Rel s.heap φ u wu) (e : dictPut d k u = some d')
    {Q : Unit → Shared → Prop} (q : ∀ s', PostU G.C φ s (σ.set i d') s' → Q () s') : wpAny (MM G) A (setItem (.ref a) wk wu) Q NR s := by
  have hu : A.units + 200 < cLine := by have := hA.units; exact Om3 this
  cases d with
  | dictI es =>
    cases k with
    | int j =>
      obtain ⟨t, rfl⟩ := rk
      obtain ⟨kvs, hd, rr⟩ := z
      simp only [dictPut] at e
      split at e
      · rename_i hl
        cases e
        refine wpAny_setItem_pairs (knd := intKind G.C.prog G.C.w) (k := j) (by simp [intKind, Value.isInt]) hd (fun h' hd' hs => q _ (turn ok hz ea hs fun t => ⟨_, hd', (rr.mono (List.prefix_refl _) t).put j (ru.mono (List.prefix_refl _) t)⟩)) (by have := rr.length; rw [this, sizeLine_eq]; exact Om6 hl this)
      · cases e
    | _ => cases e
  | dictS es =>
    cases k with
    | str j =>
      obtain ⟨t, rfl⟩ := rk
      obtain ⟨kvs, hd, rr⟩ := z
      simp only [dictPut] at e
      split at e
      · rename_i hl
        cases e
        refine wpAny_setItem_pairs (knd := PySem.strKind G.C.prog G.C.w) (k := j) (by simp [PySem.strKind, Value.isStrOf]) hd (fun h' hd' hs => q _ (turn ok hz ea hs fun t => ⟨_, hd', (rr.mono (List.prefix_refl _) t).put j (ru.mono (List.prefix_refl _) t)⟩)) (by have := rr.length; rw [this, sizeLine_eq]; exact Om6 hl this)
      · cases e
    | _ => cases e
  | dictT es =>
    cases k with
    | tup ks =>
      simp only [dictPut] at e
      split at e
      · rename_i hl
        obtain ⟨x, e1, rfl⟩ := Option.map_eq_some_iff.mp e
        obtain ⟨b, rfl, hk⟩ := key_of e1 rk
        obtain ⟨xs, hd, rr⟩ := z
        refine wpAny_setItem_heap (tupleKind_room_in1 (by exact Om5 hu)) hk hd (fun h' hd' hs => q _ (turn ok hz ea hs fun t => ⟨_, hd', ?_⟩)) (by have := rr.length; rw [List.length_map] at this; rw [this, sizeLine_eq]; exact Om6 hl this)
        have := kvsOf_storedH xs x b wu
        unfold kvsOf at this
        rw [this]
        exact (rr.mono (List.prefix_refl _) t).put x (ru.mono (List.prefix_refl _) t)
      · cases e
    | _ => cases e
  | _ => cases k <;> cases e

set_option tactic.hygienic true in
theorem item_put {n : Nat} (hA : AOk A n) (ok : Ok G.C φ σ s.heap) (rv : Rel s.heap φ v w) (rk : Rel s.heap φ k wk) (ru : Rel s.heap φ u wu) (e : itemPut σ v k u = some σ')
    {Q : Unit → Shared → Prop} (q : ∀ s', PostU G.C φ s σ' s' → Q () s') : wpAny (MM G) A (setItem w wk wu) Q NR s := by
  cases v with
  | obj o =>
    simp only [itemPut] at e
    split at e
    · rename_i xs i e1
      obtain ⟨t, rfl⟩ := rk
      by_cases hz : o = 0
      · rw [if_pos hz] at e; cases e
      rw [if_neg hz] at e
      obtain ⟨j, e2, rfl⟩ := Option.map_eq_some_iff.mp e
      obtain ⟨a, rfl, ea, ws, m, hl, rl⟩ := rel_obj ok rv e1
      obtain ⟨h0, h1, h2, rfl⟩ := idx_some e2
      have hsz : ws.size = xs.length := by have := rl.length; simpa using this
      refine ki_setAt hl h0 (by omega) (by rw [hsz]; exact h1) (q _ (turn_list ok hz ea hl _ ?_))
      rw [Array.toList_setIfInBounds]
      exact rl.set ru
    · rename_i _ d e1 hneg
      obtain ⟨a, rfl, ea, z⟩ := rel_obj ok rv e1
      obtain ⟨d', e2, rfl⟩ := Option.map_eq_some_iff.mp e
      exact dict_put hA ok (ok.nz e1 (by rintro xs rfl; rw [dictPut_list] at e2; cases e2)) ea z rk ru e2 q
    · cases e
  | _ => cases e

set_option tactic.hygienic true in
include hG in
theorem in_op {n : Nat} {c : Bool} {o : CmpOp} {neg : Bool} (hA : AOk A n) (ok : Ok G.C φ σ s.heap) (rk : Rel s.heap φ k wk) (rv : Rel s.heap φ v w) (e : inV σ k v = some c) (ho : o = if neg then .NotIn else .In) {Q : V → AH → Prop} (q : Q (.bool (xor neg c)) σ) :
    wpAny (MM G) A (compareOp o wk w) (Post G.C φ s Q) NR s := by
  have hu : A.units + 200 < cLine := by have := hA.units; exact Om3 this
  cases v with
  | obj i =>
    simp only [inV] at e
    split at e
    · rename_i xs i e1
      obtain ⟨t, rfl⟩ := rk
      obtain ⟨a, rfl, ea, S, hS, he⟩ := rel_obj ok rv e1
      cases e
      have hb : S i = decide (i ∈ xs) := by rw [Bool.eq_iff_iff, he i, decide_eq_true_iff]
      cases neg
      · subst ho
        refine wpAny_inSet_of (knd := intKind G.C.prog G.C.w) (k := i) (by simp [intKind, Value.isInt]) rfl hS (post_now ok (v := .bool (S i)) rfl ?_)
        rw [hb]; simpa using q
      · subst ho
        refine wpAny_notInSet_of (knd := intKind G.C.prog G.C.w) (k := i) (by simp [intKind, Value.isInt]) rfl hS (post_now ok (v := .bool (!S i)) rfl ?_)
        rw [hb]; simpa using q
    · rename_i _ d e1 hneg
      obtain ⟨a, rfl, ea, z⟩ := rel_obj ok rv e1
      obtain ⟨r, e2, rfl⟩ := Option.map_eq_some_iff.mp e
      have hd := dict_has z rk e2
      have hy := not_sys hG ok (ok.nz e1 (by rintro xs rfl; rw [dictAt_list] at e2; cases e2)) ea
      cases hd with
      | @pl K _ knd x kvs _ hk hd e =>
        have e9 : (valueAt kvs x).isSome = r.isSome := by cases r with | none => rw [e]; rfl | some v => obtain ⟨_, e, _⟩ := e; rw [e]; rfl
        cases neg
        · subst ho
          refine wpAny_in_of hk hy hd.mapOf (post_now ok (v := .bool (valueAt kvs x).isSome) rfl ?_)
          rw [e9]; simpa using q
        · subst ho
          refine wpAny_notIn_of hk hy hd.mapOf (post_now ok (v := .bool (!(valueAt kvs x).isSome)) rfl ?_)
          rw [e9]; simpa using q
      | @tp x b xs _ e5 hk hd e =>
        subst e5
        have e9 : (atKey xs x).isSome = r.isSome := by cases r with | none => rw [e]; rfl | some v => obtain ⟨_, e, _⟩ := e; rw [e]; rfl
        cases neg
        · subst ho
          refine wpAny_in_heap (tupleKind_room_in1 (by exact Om5 hu)) hk hy hd (post_now ok (v := .bool (atKey xs x).isSome) rfl ?_)
          rw [e9]; simpa using q
        · subst ho
          refine wpAny_notIn_heap (tupleKind_room_in1 (by exact Om5 hu)) hk hy hd (post_now ok (v := .bool (!(atKey xs x).isSome)) rfl ?_)
          rw [e9]; simpa using q
    · cases e
  | _ => cases e

theorem two_ints {a b : V} {wa wb : Value} {P : Int → Int → Bool} {c : Bool} {h : Heap} (e : (match a, b with | .int x, .int y => some (P x y) | _, _ => none) = some c) (ra : Rel h φ a wa) (rb : Rel h φ b wb) :
    ∃ x y t t', wa = .int x t ∧ wb = .int y t' ∧ P x y = c := by
  split at e
  · cases e
    obtain ⟨t, rfl⟩ := ra
    obtain ⟨t', rfl⟩ := rb
    exact ⟨_, _, _, _, rfl, rfl, rfl⟩
  · cases e
set_option tactic.hygienic true in
include hG in
theorem cmp_op {n : Nat} {op : Cm} {o : CmpOp} {a b : V} {wa wb : Value} {c : Bool} (hA : AOk A n) (ok : Ok G.C φ σ s.heap) (ho : ckCm op o = true) (ra : Rel s.heap φ a wa) (rb : Rel s.heap φ b wb) (e : cmpV σ op a b = some c)
    {Q : V → AH → Prop} (q : Q (.bool c) σ) : wpAny (MM G) A (compareOp o wa wb) (Post G.C φ s Q) NR s := by
  have hu : A.units + 64 < cLine := by have := hA.units; exact Om7 this
  have heq : ∀ {c}, eqV σ a b = some c → ∃ da db as bs, Reads s.heap wa da as ∧ Reads s.heap wb db bs ∧ SeqAt.shaped da = true ∧ SeqAt.shaped db = true ∧ PyData.eqv da db = c := by
    intro c e
    unfold eqV at e
    split at e
    · rename_i da db e1 e2
      split at e
      · rename_i hs
        cases e
        obtain ⟨as, x1⟩ := reads_of ok _ ra e1
        obtain ⟨bs, x2⟩ := reads_of ok _ rb e2
        have y2 := and_r hs
        have y1 := and_l hs
        exact ⟨da, db, as, bs, x1, x2, y1, y2, rfl⟩
      · cases e
    · cases e
  cases op <;> cases o <;> first | (exact absurd ho (by decide)) | skip
  · obtain ⟨da, db, as, bs, x1, x2, y1, y2, z⟩ := heq e
    exact eq_dataH x1 x2 y1 y2 hu (post_now' ok (v := .bool c) (by rw [z]; rfl) q)
  · obtain ⟨c', e8, rfl⟩ := Option.map_eq_some_iff.mp (show (eqV σ a b).map (!·) = some c from e)
    obtain ⟨da, db, as, bs, x1, x2, y1, y2, z⟩ := heq e8
    exact ne_dataH x1 x2 y1 y2 hu (post_now' ok (v := .bool (!c')) (by rw [z]; rfl) q)
  · obtain ⟨x, y, t, t', rfl, rfl, z⟩ := two_ints (P := fun x y => decide (x < y)) e ra rb
    exact PyProof.Rows.lt_int (post_now' ok (v := .bool c) (by rw [← z]; rfl) q)
  · obtain ⟨x, y, t, t', rfl, rfl, z⟩ := two_ints (P := fun x y => decide (x ≤ y)) e ra rb
    exact PySem.P.le_int (post_now' ok (v := .bool c) (by rw [← z]; rfl) q)
  · obtain ⟨x, y, t, t', rfl, rfl, z⟩ := two_ints (P := fun x y => decide (y < x)) e ra rb
    exact PyProof.Rows.gt_int (post_now' ok (v := .bool c) (by rw [← z]; rfl) q)
  · obtain ⟨x, y, t, t', rfl, rfl, z⟩ := two_ints (P := fun x y => decide (y ≤ x)) e ra rb
    exact PySem.P.ge_int (post_now' ok (v := .bool c) (by rw [← z]; rfl) q)
  · exact in_op hG hA ok ra rb e (neg := false) rfl (by simpa using q)
  · obtain ⟨c', e8, rfl⟩ := Option.map_eq_some_iff.mp (show (inV σ a b).map (!·) = some c from e)
    exact in_op hG hA ok ra rb e8 (neg := true) rfl (by simpa using q)

set_option tactic.hygienic true in
theorem bin_op {op : Bo} {o : Operator} {a b : V} {wa wb : Value} {c : V} (ok : Ok G.C φ σ s.heap) (ho : ckBo op o = true) (ra : Rel s.heap φ a wa) (rb : Rel s.heap φ b wb) (e : binV op a b = some c)
    {Q : V → AH → Prop} (q : Q c σ) : wpAny (MM G) A (binaryOp o wa wb) (Post G.C φ s Q) NR s := by
  unfold binV at e
  split at e
  · rename_i x y
    obtain ⟨t, rfl⟩ := ra
    obtain ⟨t', rfl⟩ := rb
    cases op <;> cases o <;> first | (exact absurd ho (by decide)) | skip
    · cases e; exact PySem.P.add_int (post_now ok (v := .int (x + y)) ⟨_, rfl⟩ q)
    · cases e; exact PySem.P.sub_int (post_now ok (v := .int (x - y)) ⟨_, rfl⟩ q)
    · dsimp only at e
      split at e
      · rename_i hs
        cases e
        have h2 := and_r hs
        have h1 := and_l hs
        have h4 := and_r h1
        have h3 := and_l h1
        have h3 := of_decide_eq_true h3
        have h4 := of_decide_eq_true h4
        exact PySem.P.mul_int (post_now ok (v := .int (x * y)) ⟨_, rfl⟩ q) (IntMulOk.of_left (intBits_le_64 (by omega) (by omega)))
      · cases e
    · dsimp only at e
      split at e
      · rename_i hs
        cases e
        have h1 := hs
        refine PyProof.Rows.mod_int (by exact Om8 hs) (post_now ok (v := .int (x % y)) ⟨s.toks, ?_⟩ q)
        rw [Int.fmod_eq_emod_of_nonneg _ (by exact Om9 hs)]
      · cases e
  · cases e
set_option tactic.hygienic true in
theorem aug_op {op : Bo} {o : Operator} {a b : V} {wa wb : Value} {c : V} (ok : Ok G.C φ σ s.heap) (ho : ckAug op o = true) (ra : Rel s.heap φ a wa) (rb : Rel s.heap φ b wb) (e : binV op a b = some c)
    {Q : V → AH → Prop} (q : Q c σ) : wpAny (MM G) A (inplaceOp o wa wb) (Post G.C φ s Q) NR s := by
  unfold binV at e
  split at e
  · rename_i x y
    obtain ⟨t, rfl⟩ := ra
    obtain ⟨t', rfl⟩ := rb
    cases op <;> cases o <;> first | (exact absurd ho (by decide)) | skip
    · cases e; exact PySem.P.iadd_int (post_now ok (v := .int (x + y)) ⟨_, rfl⟩ q)
    · cases e; exact PySem.P.isub_int (post_now ok (v := .int (x - y)) ⟨_, rfl⟩ q)
    · dsimp only at e
      split at e
      · rename_i hs
        cases e
        have h2 := and_r hs
        have h1 := and_l hs
        have h1 := of_decide_eq_true h1
        have h2 := of_decide_eq_true h2
        have hl : y.natAbs.log2 < 9000 := by
          by_cases h0 : y.natAbs = 0
          · rw [h0]; decide
          · exact Nat.lt_trans ((Nat.log2_lt h0).mpr (show y.natAbs < 2 ^ 100 by omega)) (by decide)
        refine PySem.AutoIntOps.ifloordiv_1 (by simp; exact Om10 h1 h2) (by rw [PyProof.noPylong_of_log2 hl]; decide) ?_
        show Post G.C φ s Q (.int (x.fdiv y) s.toks) { s with toks := s.toks + 1 }
        refine post_now ok (v := .int (x / y)) ⟨s.toks, ?_⟩ q
        rw [Int.fdiv_eq_ediv_of_nonneg _ (by exact Om11 h1 h2)]
      · cases e
  · cases e
end

end Mine
end

/-! N7 -/
noncomputable section
set_option maxHeartbeats 200000
open PyProof.Rows PySem PySem.Calls PySem.W
namespace Mine

section
variable {G : Glo} (hG : GloOk G) {A : Around} {s : Shared} {φ : List Addr} {σ σ' : AH} {v k u : V} {w wk wu : Value} {n : Nat}

/-- an object is made; all that was stays -/
theorem alloc_gen {C : Cx} {h h' : Heap} {a : Addr} {o : AObj} (ok : Ok C φ σ h) (hk : ∀ b ob, h.get? b = some ob → h'.get? b = some ob) (fr : h.get? a = none) (r : ObjRel C h' (φ ++ [a]) a o) :
    Ext [] φ h (φ ++ [a]) h' ∧ Ok C (φ ++ [a]) (σ ++ [o]) h' := by
  have t : TK h h' := fun b ws ⟨ob, e, c⟩ => ⟨ob, hk b ob e, c⟩
  have k' : Ok C φ σ h' := ok.ext (fun b x e => hk b x (ok.base b x e)) t fun b m => by
    obtain ⟨ob, e, _⟩ := ok.live m
    rw [e]; exact hk b ob e
  have nm : a ∉ φ := fun m => by
    obtain ⟨x, e, _⟩ := ok.live m
    rw [fr] at e; cases e
  refine ⟨⟨⟨[a], rfl, fun b m => by simp at m; subst m; exact fr⟩, fun b ob _ _ e => ⟨ob, hk b ob e, .refl _⟩, fun b _ e => by
    obtain ⟨ob, q⟩ := Option.ne_none_iff_exists'.mp e
    rw [hk b ob q]; simp⟩, ?_⟩
  refine ⟨by simp [k'.len], by
      rw [List.nodup_append]
      exact ⟨k'.nd, by simp, fun x ha b hb => by simp at hb; subst hb; exact fun q => nm (q ▸ ha)⟩, fun i b hi m => ?_, (by obtain ⟨xs, z⟩ := k'.zero; exact ⟨xs, prefix_get' ⟨_, rfl⟩ z⟩), k'.base, fun i o' e => ?_⟩
  · rcases append_get m with m | m
    · exact k'.new i b hi m
    · subst m
      cases q : C.hB.get? b with
      | none => rfl
      | some x => have := ok.base _ _ q; rw [fr] at this; cases this
  · by_cases q : i < σ.length
    · rw [List.getElem?_append_left q] at e
      obtain ⟨b, eb, rb⟩ := k'.obj i o' e
      exact ⟨b, prefix_get ⟨_, rfl⟩ eb, rb.mono ⟨_, rfl⟩ (TK.refl _) rfl⟩
    · rw [List.getElem?_append_right (by exact Om1 q)] at e
      have : i - σ.length = 0 := by
        have := (List.getElem?_eq_some_iff.mp e).1
        simp at this; exact Om12 this
      rw [this] at e
      cases e
      refine ⟨a, ?_, r⟩
      have hi : i = φ.length := by rw [k'.len]; exact Om13 q this
      rw [List.getElem?_append_right (by exact Om14 hi), hi]; simp

theorem post_alloc {Q : V → AH → Prop} {h' : Heap} {a : Addr} {o : AObj} {tk : Nat} (ok : Ok G.C φ σ s.heap) (hk : ∀ b ob, s.heap.get? b = some ob → h'.get? b = some ob) (fr : s.heap.get? a = none) (r : ObjRel G.C h' (φ ++ [a]) a o) (q : Q (.obj σ.length) (σ ++ [o])) :
    Post G.C φ s Q (.ref a) { s with heap := h', toks := tk } := by
  obtain ⟨x, y⟩ := alloc_gen ok hk fr r
  exact ⟨φ ++ [a], σ ++ [o], .obj σ.length, x, y, ⟨a, by rw [← ok.len, List.getElem?_append_right (Nat.le_refl _)]; simp, rfl⟩, q, rfl, rfl⟩
theorem post_push {Q : V → AH → Prop} {ob : Obj} {o : AObj} {tk : Nat} (ok : Ok G.C φ σ s.heap) (hk : ObjRel G.C (s.heap.push ob) (φ ++ [s.heap.objs.size]) s.heap.objs.size o) (q : Q (.obj σ.length) (σ ++ [o])) :
    Post G.C φ s Q (.ref s.heap.objs.size) { s with heap := s.heap.push ob, toks := tk } :=
  post_alloc ok (fun b x e => Heap.get?_push_of_some ob e) (fresh_size _) hk q

theorem rel_keep {h h' : Heap} (hk : ∀ b ob, h.get? b = some ob → h'.get? b = some ob) {vs : List V} {ws : List Value} (r : RelL h φ vs ws) {a : Addr} : RelL h' (φ ++ [a]) vs ws :=
  r.mono ⟨_, rfl⟩ fun b ws ⟨ob, e, c⟩ => ⟨ob, hk b ob e, c⟩

set_option tactic.hygienic true in
theorem listAt_some {xs : List V} {h : Heap} (ok : Ok G.C φ σ h) (rv : Rel h φ v w) (e : listAt σ v = some xs) : ∃ o a ws m, v = .obj o ∧ σ[o]? = some (.list xs) ∧ w = .ref a ∧ φ[o]? = some a ∧ h.get? a = some (listOf ws m) ∧ RelL h φ xs ws.toList ∧ ws.size = xs.length := by
  cases v with
  | obj o =>
    simp only [listAt] at e
    split at e
    · rename_i ys e1
      cases e
      obtain ⟨a, rfl, ea, ws, m, hl, rl⟩ := rel_obj ok rv e1
      exact ⟨o, a, ws, m, rfl, e1, rfl, ea, hl, rl, by have := rl.length; simpa using this⟩
    · cases e
  | _ => cases e

theorem new_list {Q : V → AH → Prop} {vs : List V} {ws : List Value} (ok : Ok G.C φ σ s.heap) (r : RelL s.heap φ vs ws) (q : Q (.obj σ.length) (σ ++ [.list vs])) :
    Post G.C φ s Q (.ref s.heap.objs.size) { s with heap := s.heap.push { cls := .type "list", data := .seq ws.toArray } } :=
  post_push (o := .list vs) ok ⟨ws.toArray, 0, Heap.get?_push_size _ rfl, rel_keep (fun b x e => Heap.get?_push_of_some _ e) (by simpa using r)⟩ q

theorem new_tup {Q : V → AH → Prop} {vs : List V} {ws : List Value} (ok : Ok G.C φ σ s.heap) (r : RelL s.heap φ vs ws) (q : Q (.tup vs) σ) :
    Post G.C φ s Q (.ref s.heap.objs.size) { s with heap := s.heap.push { cls := .type "tuple", data := .seq ws.toArray } } := by
  refine ⟨φ, σ, .tup vs, Ext.push _, ok.push _, ⟨s.heap.objs.size, ws.toArray, rfl, ⟨_, Heap.get?_push_size _ rfl, rfl, _, rfl⟩, ?_⟩, q, rfl, rfl⟩
  have t : TK s.heap (s.heap.push { cls := .type "tuple", data := .seq ws.toArray }) := fun b ws' ⟨ob, e, c⟩ => ⟨ob, Heap.get?_push_of_some _ e, c⟩
  simpa using r.mono (List.prefix_refl _) t

theorem new_dict {Q : V → AH → Prop} {kd : Nat} (ok : Ok G.C φ σ s.heap) (q : Q (.obj σ.length) (σ ++ [match kd with | 0 => .dictI [] | 1 => .dictS [] | _ => .dictT []])) :
    Post G.C φ s Q (.ref s.heap.objs.size) { s with heap := s.heap.push { cls := .type "dict", data := .dict #[] } } := by
  refine post_push ok ?_ q
  have hg : (s.heap.push { cls := .type "dict", data := .dict #[] }).get? s.heap.objs.size = some { cls := .type "dict", data := .dict #[] } := Heap.get?_push_size _ rfl
  split
  · exact ⟨[], ⟨_, #[], 0, hg, ⟨rfl, rfl, rfl⟩, rfl, fun e m => by simp at m, .nil, List.nodup_nil⟩, rfl⟩
  · exact ⟨[], ⟨_, #[], 0, hg, ⟨rfl, rfl, rfl⟩, rfl, fun e m => by simp at m, .nil, List.nodup_nil⟩, rfl⟩
  · exact ⟨[], Heap.DictOfH.new _, rfl⟩

omit A in
theorem len_el {σ : AH} {P : V → V → AH → Prop} (h1 : ∀ o xs, σ[o]? = some (.list xs) → xs.length < 1000000 → P (.obj o) (.int xs.length) σ) (h2 : ∀ o es, σ[o]? = some (.dictI es) → es.length < 1000000 → P (.obj o) (.int es.length) σ) {v u : V} {σ' : AH} (e : lenV σ v = some (u, σ')) : P v u σ' := by
  cases v with
  | obj o =>
    have e : (match σ[o]? with | some (.list xs) => if xs.length < 1000000 then some (V.int xs.length, σ) else none | some (.dictI es) => if es.length < 1000000 then some (V.int es.length, σ) else none | _ => none) = some (u, σ') := e
    cases e1 : σ[o]? with
    | none => rw [e1] at e; cases e
    | some d =>
      rw [e1] at e
      cases d with
      | list xs =>
        by_cases hl : xs.length < 1000000
        · cases (if_pos hl).symm.trans e; exact h1 o xs e1 hl
        · cases (if_neg hl).symm.trans e
      | dictI es =>
        by_cases hl : es.length < 1000000
        · cases (if_pos hl).symm.trans e; exact h2 o es e1 hl
        · cases (if_neg hl).symm.trans e
      | _ => cases e
  | _ => cases e
include hG in
theorem len_op {A : Around} {v : V} {w : Value} (ok : Ok G.C φ σ s.heap) (rv : Rel s.heap φ v w) {Q : V → AH → Prop} (e : lenV σ v = some (u, σ')) (q : Q u σ') :
    wpAny (MM G) A (call (.builtin "len") [w]) (Post G.C φ s Q) NR s :=
  len_el (P := fun v u σ' => Rel s.heap φ v w → Q u σ' → wpAny (MM G) A (call (.builtin "len") [w]) (Post G.C φ s Q) NR s) (fun o xs e1 hl rv q => by
    obtain ⟨a, rfl, ea, wa, m, hg, rl⟩ := rel_obj ok rv e1
    have hs : wa.size = xs.length := by rw [← Array.length_toList]; exact rl.length
    exact call_len_list (PySem.IsL.isList (n := m) hg) (by rw [hs]; omega) (post_now ok (v := .int xs.length) ⟨_, by rw [hs]⟩ q)) (fun o es e1 hl rv q => by
    obtain ⟨a, rfl, ea, kvs, hd, rr⟩ := rel_obj ok rv e1
    have hs := rr.length
    exact call_len_dict (not_sys hG ok (ok.nz e1 fun _ h => nomatch h) ea) hd (by rw [hs]; omega) (post_now ok (v := .int es.length) ⟨_, by rw [hs]⟩ q)) e rv q
theorem tuple_op {A : Around} {v : V} {w : Value} {xs : List V} (ok : Ok G.C φ σ s.heap) (rv : Rel s.heap φ v w) {Q : V → AH → Prop} (e : listAt σ v = some xs) (hl : xs.length < 1000000) (q : Q (.tup xs) σ) :
    wpAny (MM G) A (call (.type "tuple") [w]) (Post G.C φ s Q) NR s := by
  obtain ⟨o, a, wa, m, rfl, e2, rfl, ea, hg, rl, hs⟩ := listAt_some ok rv e
  refine call_tuple_list (PySem.IsL.isList (n := m) hg) (fun h' hk => ?_) (by rw [hs, sizeLine_eq]; exact Om15 hl hs)
  have t : TK s.heap h' := fun b ws' ⟨ob, e, c⟩ => ⟨ob, hk _ _ e, c⟩
  have ok' : Ok G.C φ σ h' := ok.ext (fun b o e => hk b o (ok.base b o e)) t fun b m => by obtain ⟨ob, e, _⟩ := ok.live m; rw [e]; exact hk b ob e
  have z := new_tup (s := { s with heap := h' }) (Q := Q) ok' (rl.mono (List.prefix_refl _) t) q
  rw [show wa.toList.toArray = wa by simp] at z
  exact Post.trans (s := s) (s₁ := { s with heap := h' }) (.of_keep hk) rfl rfl z
theorem one_rel {h : Heap} {v : V} {ws : List Value} (r : RelL h φ [v] ws) : ∃ w, ws = [w] ∧ Rel h φ v w := by
  obtain ⟨w, ws', rfl, rv, rn⟩ := r
  cases rn
  exact ⟨w, rfl, rv⟩
omit A in
theorem blt_el {σ : AH} {P : Nat → List V → V → AH → Prop} (h0 : ∀ v u σ', lenV σ v = some (u, σ') → P 0 [v] u σ') (h3 : P 3 [] (.obj σ.length) (σ ++ [.set []])) (h4 : ∀ i, P 4 [.int i] (.int i.natAbs) σ) (h5 : ∀ i, P 5 [.int i] (.int i) σ)
    (h6 : ∀ v xs, listAt σ v = some xs → xs.length < 1000000 → P 6 [v] (.tup xs) σ) {b : Nat} {vs : List V} {u : V} {σ' : AH} (e : bltV σ b vs = some (u, σ')) : P b vs u σ' := by
  match b, vs, e with
  | 0, [v], e => exact h0 v u σ' e
  | 3, [], e => cases e; exact h3
  | 4, [v], e =>
    cases v with
    | int i => cases e; exact h4 i
    | _ => cases e
  | 5, [v], e =>
    cases v with
    | int i => cases e; exact h5 i
    | _ => cases e
  | 6, [v], e =>
    have e : (match listAt σ v with | some xs => if xs.length < 1000000 then some (V.tup xs, σ) else none | none => none) = some (u, σ') := e
    cases e1 : listAt σ v with
    | none => rw [e1] at e; cases e
    | some xs =>
      rw [e1] at e
      by_cases hl : xs.length < 1000000
      · cases (if_pos hl).symm.trans e; exact h6 v xs e1 hl
      · cases (if_neg hl).symm.trans e
include hG in
theorem blt_op {b : Nat} {vs : List V} {ws : List Value} {f : Value} (hf : f = bltVal b) (ok : Ok G.C φ σ s.heap) (r : RelL s.heap φ vs ws) {Q : V → AH → Prop} (e : bltV σ b vs = some (u, σ')) (q : Q u σ') :
    wpAny (MM G) A (call f ws) (Post G.C φ s Q) NR s := by
  subst hf
  refine blt_el (P := fun b vs u σ' => RelL s.heap φ vs ws → Q u σ' → wpAny (MM G) A (call (bltVal b) ws) (Post G.C φ s Q) NR s) (fun v u σ' e r q => ?_) (fun r q => ?_) (fun i r q => ?_) (fun i r q => ?_) (fun v xs e hl r q => ?_) e r q
  · obtain ⟨w, rfl, rv⟩ := one_rel r
    exact len_op hG ok rv e q
  · cases r
    refine call_set_0 fun led => post_push (o := .set []) ok ⟨fun _ => false, ⟨_, #[], 0, _, Heap.get?_push_size _ rfl, ⟨rfl, rfl, rfl⟩, rfl, ?_, ?_, ?_, ?_, rfl⟩, ?_⟩ q
    · exact fun e m => by simp at m
    · simp
    · decide
    · cases led <;> rfl
    · simp
  · obtain ⟨w, rfl, ⟨t, rfl⟩⟩ := one_rel r
    exact call_abs_int fun u tk => post_now ok (v := .int i.natAbs) ⟨u, by congr 1; split <;> omega⟩ q
  · obtain ⟨w, rfl, ⟨t, rfl⟩⟩ := one_rel r
    exact call_int_int (post_now' ok (v := .int i) ⟨t, rfl⟩ q)
  · obtain ⟨w, rfl, rv⟩ := one_rel r
    exact tuple_op ok rv e hl q

noncomputable def methBid : Nat → String
  | 0 => "list.append"
  | 1 => "list.pop"
  | 2 => "dict.get"
  | _ => "set.add"

theorem dict_noDict {C : Cx} {a : Addr} {d : AObj} {h : Heap} (z : ObjRel C h φ a d) (hd : (∃ es, d = .dictI es) ∨ (∃ es, d = .dictS es) ∨ ∃ es, d = .dictT es) : ∃ o, h.get? a = some o ∧ o.cls = .type "dict" ∧ o.dict = none := by
  rcases hd with ⟨es, rfl⟩ | ⟨es, rfl⟩ | ⟨es, rfl⟩
  · obtain ⟨kvs, ⟨o, _, _, e, x, _⟩, _⟩ := z; exact ⟨o, e, x.1, x.2.1⟩
  · obtain ⟨kvs, ⟨o, _, _, e, x, _⟩, _⟩ := z; exact ⟨o, e, x.1, x.2.1⟩
  · obtain ⟨kvs, ⟨o, _, _, e, x, _⟩, _⟩ := z; exact ⟨o, e, x.1, x.2.1⟩

theorem getm_op {k : Nat} {x : PySem.Str} {pl : Sem Bool} {Q : Value × List Value → Shared → Prop} {E : Value → Shared → Prop} (ok : Ok G.C φ σ s.heap) (rv : Rel s.heap φ v w) (e : methOk σ k v = true) (hx : (methId k).map PySem.Str.ofString = some x) (q : Q (.builtin (methBid k), [w]) s) :
    wpAny (MM G) A (getMethod w x pl) Q E s := by
  cases v with
  | obj o =>
    have dk : ∀ d, k = 2 → σ[o]? = some d → ((∃ es, d = .dictI es) ∨ (∃ es, d = .dictS es) ∨ ∃ es, d = .dictT es) → wpAny (MM G) A (getMethod w x pl) Q E s := by
      intro d hk e1 hd
      subst hk
      cases hx
      obtain ⟨a, rfl, ea, z⟩ := rel_obj ok rv e1
      obtain ⟨ob, h1, h2, h3⟩ := dict_noDict z hd
      exact getMethod_builtin ⟨_, h1, h2⟩ PySem.F.plainAttrs_dict PySem.F.slot_dict_get PySem.F.type_dict_get (fun b e => by cases e; exact ⟨_, h1, h3⟩) q
    have e : (match σ[o]? with | some d => okObj k d | none => false) = true := e
    cases e1 : σ[o]? with
    | none => rw [e1] at e; cases e
    | some d =>
      rw [e1] at e
      have e : okObj k d = true := e
      cases d with
      | list xs =>
        rcases (Bool.or_eq_true_iff.mp (show (k == 0 || k == 1) = true from e)) with h | h
        · obtain rfl := beq_iff_eq.mp h
          cases hx
          obtain ⟨a, rfl, ea, ws, m, hg, rl⟩ := rel_obj ok rv e1
          exact getMethod_builtin ⟨_, hg, rfl⟩ PySem.F.plainAttrs_list PySem.F.slot_list_append PySem.F.type_list_append (fun b e => by cases e; exact ⟨_, hg, rfl⟩) q
        · obtain rfl := beq_iff_eq.mp h
          cases hx
          obtain ⟨a, rfl, ea, ws, m, hg, rl⟩ := rel_obj ok rv e1
          exact getMethod_builtin ⟨_, hg, rfl⟩ PySem.F.plainAttrs_list PySem.F.slot_list_pop PySem.F.type_list_pop (fun b e => by cases e; exact ⟨_, hg, rfl⟩) q
      | dictI es => exact dk _ (beq_iff_eq.mp (show (k == 2) = true from e)) e1 (.inl ⟨_, rfl⟩)
      | dictS es => exact dk _ (beq_iff_eq.mp (show (k == 2) = true from e)) e1 (.inr (.inl ⟨_, rfl⟩))
      | dictT es => exact dk _ (beq_iff_eq.mp (show (k == 2) = true from e)) e1 (.inr (.inr ⟨_, rfl⟩))
      | set xs =>
        obtain rfl := beq_iff_eq.mp (show (k == 3) = true from e)
        cases hx
        obtain ⟨a, rfl, ea, S, hS, he⟩ := rel_obj ok rv e1
        exact getMethod_builtin hS.typeIs PySem.F.plainAttrs_set PySem.F.slot_set_add PySem.F.type_set_add hS.noDict q
      | inst c d => cases e
      | ns fs => cases e
      | exc f => cases e
  | _ => cases e

theorem dropLast_toList {ws : Array Value} : (ws.eraseIdxIfInBounds (ws.size - 1)).toList = ws.toList.dropLast := by
  rw [Array.toList_eraseIdxIfInBounds, List.dropLast_eq_take, List.eraseIdx_eq_take_drop_succ, Array.length_toList]
  by_cases h : ws.size = 0
  · have : ws.toList = [] := List.eq_nil_of_length_eq_zero (by rw [Array.length_toList]; exact h)
    rw [this]; simp
  · rw [List.drop_eq_nil_of_le (by rw [Array.length_toList]; exact Om16), List.append_nil]
theorem RelL.dropLast {h : Heap} : ∀ {vs : List V} {ws : List Value}, RelL h φ vs ws → RelL h φ vs.dropLast ws.dropLast
  | [], _, e => by cases e; rfl
  | [_], _, ⟨_, _, e, _, r⟩ => by subst e; cases r; rfl
  | _ :: b :: vs, _, ⟨_, _, e, a, w, ws, e', c, r⟩ => by
    subst e; subst e'
    exact ⟨_, _, rfl, a, RelL.dropLast (vs := b :: vs) ⟨w, ws, rfl, c, r⟩⟩

omit A in
theorem meth_el {σ : AH} {P : Nat → V → List V → V → AH → Prop} (h0 : ∀ o xs x, σ[o]? = some (.list xs) → o ≠ 0 → xs.length < 1000000 → P 0 (.obj o) [x] .none (σ.set o (.list (xs ++ [x]))))
    (h1 : ∀ o xs y, σ[o]? = some (.list xs) → o ≠ 0 → xs.length < 1000000 → xs.getLast? = some y → P 1 (.obj o) [] y (σ.set o (.list xs.dropLast)))
    (h2 : ∀ o d key dflt r, σ[o]? = some d → (∀ xs, d ≠ .list xs) → dictAt d key = some r → P 2 (.obj o) [key, dflt] (r.getD dflt) σ)
    (h3 : ∀ o xs i, σ[o]? = some (.set xs) → xs.length < 4000 → P 3 (.obj o) [.int i] .none (σ.set o (.set (if i ∈ xs then xs else xs ++ [i])))) {k : Nat} {v : V} {vs : List V} {u : V} {σ' : AH} (e : methV σ k v vs = some (u, σ')) : P k v vs u σ' := by
  cases v with
  | obj o =>
    cases e1 : σ[o]? with
    | none => rw [show methV σ k (.obj o) vs = (match σ[o]? with | some d => mObj σ o k vs d | none => none) from rfl, e1] at e; cases e
    | some d =>
      rw [meth_of e1] at e
      have getc : (∀ xs, d ≠ .list xs) → mDict σ k vs d = some (u, σ') → P k (.obj o) vs u σ' := fun hnl e => by
        match k, vs, e with
        | 2, [key, dflt], e =>
          obtain ⟨r, e2, e3⟩ := Option.map_eq_some_iff.mp (show (dictAt d key).map (fun r => (r.getD dflt, σ)) = some (u, σ') from e)
          cases e3
          exact h2 o d key dflt r e1 hnl e2
      cases d with
      | list xs =>
        match k, vs, e with
        | 0, [x], e =>
          by_cases hl : o ≠ 0 ∧ xs.length < 1000000
          · cases (if_pos hl).symm.trans (show (if o ≠ 0 ∧ xs.length < 1000000 then some (V.none, σ.set o (.list (xs ++ [x]))) else none) = some (u, σ') from e)
            exact h0 o xs x e1 hl.1 hl.2
          · cases (if_neg hl).symm.trans (show (if o ≠ 0 ∧ xs.length < 1000000 then some (V.none, σ.set o (.list (xs ++ [x]))) else none) = some (u, σ') from e)
        | 1, [], e =>
          have e : (match xs.getLast? with | some u => if o ≠ 0 ∧ xs.length < 1000000 then some (u, σ.set o (.list xs.dropLast)) else none | none => none) = some (u, σ') := e
          cases hy : xs.getLast? with
          | none => rw [hy] at e; cases e
          | some y =>
            rw [hy] at e
            by_cases hl : o ≠ 0 ∧ xs.length < 1000000
            · cases (if_pos hl).symm.trans e
              exact h1 o xs _ e1 hl.1 hl.2 hy
            · cases (if_neg hl).symm.trans e
      | set xs =>
        match k, vs, e with
        | 3, [x], e =>
          cases x with
          | int i =>
            by_cases hl : xs.length < 4000
            · cases (if_pos hl).symm.trans (show (if xs.length < 4000 then some (V.none, σ.set o (.set (if i ∈ xs then xs else xs ++ [i]))) else none) = some (u, σ') from e)
              exact h3 o xs i e1 hl
            · cases (if_neg hl).symm.trans (show (if xs.length < 4000 then some (V.none, σ.set o (.set (if i ∈ xs then xs else xs ++ [i]))) else none) = some (u, σ') from e)
          | _ => cases e
      | dictI es => exact getc (fun _ h => nomatch h) e
      | dictS es => exact getc (fun _ h => nomatch h) e
      | dictT es => exact getc (fun _ h => nomatch h) e
      | inst c d => exact getc (fun _ h => nomatch h) e
      | ns fs => exact getc (fun _ h => nomatch h) e
      | exc f => exact getc (fun _ h => nomatch h) e
  | _ => cases e
theorem meth_append {o : Nat} {xs : List V} {x : V} {ws : List Value} (ok : Ok G.C φ σ s.heap) (rv : Rel s.heap φ (.obj o) w) (r : RelL s.heap φ [x] ws) (e1 : σ[o]? = some (.list xs)) (ho : o ≠ 0) (hl : xs.length < 1000000) {Q : V → AH → Prop} (q : Q .none (σ.set o (.list (xs ++ [x])))) :
    wpAny (MM G) A (call (.builtin (methBid 0)) (w :: ws)) (Post G.C φ s Q) NR s := by
  obtain ⟨wu, _, rfl, ru, rn⟩ := r
  cases rn
  obtain ⟨a, rfl, ea, wa, m, hg, rl⟩ := rel_obj ok rv e1
  have hs : wa.size = xs.length := by rw [← Array.length_toList]; exact rl.length
  refine wpAny_list_append_plain ⟨m, hg⟩ (fun h' ⟨m', hl'⟩ hs' => ?_) (by rw [hs, sizeLine_eq]; exact Om15 hl hs)
  refine PostU.post (u := .none) (turn (tk := s.toks) (o' := .list (xs ++ [x])) ok ho ea hs' fun t => ⟨_, m', hl', ?_⟩) (fun _ => rfl) q
  rw [Array.toList_push]
  exact (rl.append (RelL.cons ru RelL.nil)).mono (List.prefix_refl _) t
theorem meth_pop {o : Nat} {xs : List V} {y : V} (ok : Ok G.C φ σ s.heap) (rv : Rel s.heap φ (.obj o) w) (e1 : σ[o]? = some (.list xs)) (ho : o ≠ 0) (hl : xs.length < 1000000) (hy : xs.getLast? = some y) {Q : V → AH → Prop} (q : Q y (σ.set o (.list xs.dropLast))) :
    wpAny (MM G) A (call (.builtin (methBid 1)) [w]) (Post G.C φ s Q) NR s := by
  obtain ⟨a, rfl, ea, wa, m, hg, rl⟩ := rel_obj ok rv e1
  have hs : wa.size = xs.length := by rw [← Array.length_toList]; exact rl.length
  rw [List.getLast?_eq_getElem?] at hy
  obtain ⟨wy, e2, ry⟩ := rl.get' hy
  rw [← hs] at e2
  refine call_meets PySem.F.slot_list_pop ⟨_, hg, rfl⟩ PySem.F.entry_list_pop (PySem.F.args_list_pop_1 _) (PySem.MeetsSeq.list_pop_last a _ m wy e2 (by rw [hs, sizeLine_eq]; exact Om15 hl hs)) ⟨hg, ?_⟩
  refine PostU.post' ok (turn_list (tk := s.toks) ok ho ea hg _ ?_) ry q
  rw [dropLast_toList]
  exact rl.dropLast
include hG in
theorem meth_get {o : Nat} {d : AObj} {key dflt : V} {res : Option V} {ws : List Value} {n : Nat} (hA : AOk A n) (ok : Ok G.C φ σ s.heap) (rv : Rel s.heap φ (.obj o) w) (r : RelL s.heap φ [key, dflt] ws) (e1 : σ[o]? = some d) (hnl : ∀ xs, d ≠ .list xs) (e2 : dictAt d key = some res) {Q : V → AH → Prop} (q : Q (res.getD dflt) σ) :
    wpAny (MM G) A (call (.builtin (methBid 2)) (w :: ws)) (Post G.C φ s Q) NR s := by
  obtain ⟨wk, _, rfl, rk, wd, _, rfl, rd, rn⟩ := r
  cases rn
  obtain ⟨a, rfl, ea, z⟩ := rel_obj ok rv e1
  have hd := dict_has z rk e2
  have hy := not_sys hG ok (ok.nz e1 hnl) ea
  have hT := dict_type hd
  cases hd with
  | @pl K _ knd x kvs _ hk hd e =>
    refine call_meetsIn PySem.F.slot_dict_get hT PySem.F.entry_dict_get (PySem.F.args_dict_get_3 _ _ _) (meets_dict_get_default knd a hk hy wd) ⟨_, hd.mapOf, ?_⟩
    refine post_now ok (v := res.getD dflt) ?_ q
    cases res with
    | none => rw [e]; exact rd
    | some v => obtain ⟨u, e, ru⟩ := e; rw [e]; exact ru
  | @tp x b xs _ e5 hk hd e =>
    subst e5
    have hu : A.units + 200 < cLine := by have := hA.units; exact Om3 this
    refine call_meetsIn PySem.F.slot_dict_get hT PySem.F.entry_dict_get (PySem.F.args_dict_get_3 _ _ _) (meetsH_dict_get_default (tupleKind (intKind G.C.prog G.C.w)) a b hy wd) ⟨tupleKind_room_in1 (by exact Om5 hu), x, xs, hk, hd, ?_⟩
    refine post_now ok (v := res.getD dflt) ?_ q
    cases res with
    | none => rw [e]; exact rd
    | some v => obtain ⟨u, e, ru⟩ := e; rw [e]; exact ru
theorem meth_add {o : Nat} {xs : List Int} {i : Int} {ws : List Value} (ok : Ok G.C φ σ s.heap) (rv : Rel s.heap φ (.obj o) w) (r : RelL s.heap φ [.int i] ws) (e1 : σ[o]? = some (.set xs)) (hl : xs.length < 4000) {Q : V → AH → Prop} (q : Q .none (σ.set o (.set (if i ∈ xs then xs else xs ++ [i])))) :
    wpAny (MM G) A (call (.builtin (methBid 3)) (w :: ws)) (Post G.C φ s Q) NR s := by
  obtain ⟨wu, _, rfl, ⟨t, rfl⟩, rn⟩ := r
  cases rn
  obtain ⟨a, rfl, ea, S, hS, he⟩ := rel_obj ok rv e1
  refine call_set_add (knd := intKind G.C.prog G.C.w) (k := i) (by simp [intKind, Value.isInt]) rfl hS (by show _ < 4096; exact Om17 hl) fun h' hs' hS' => ?_
  have hb : S i = true ↔ i ∈ xs := he i
  refine PostU.post (u := .none) (turn (o' := .set (if i ∈ xs then xs else xs ++ [i])) ok (ok.nz e1 fun _ h => nomatch h) ea hs' fun t => ⟨fun k' => S k' || decide (k' = i), ?_, ?_⟩) (fun _ => rfl) q
  · by_cases m : i ∈ xs
    · rw [if_pos m]; rw [if_pos (hb.mpr m)] at hS'; exact hS'
    · rw [if_neg m]; rw [if_neg (fun z => m (hb.mp z))] at hS'; rw [List.length_append]; exact hS'
  · intro j
    rw [Bool.or_eq_true, he j, decide_eq_true_iff]
    by_cases m : i ∈ xs
    · rw [if_pos m]
      exact ⟨fun z => z.elim id fun z => z ▸ m, .inl⟩
    · rw [if_neg m]; simp
include hG in
theorem meth_op {k : Nat} {vs : List V} {ws : List Value} {n : Nat} (hA : AOk A n) (ok : Ok G.C φ σ s.heap) (rv : Rel s.heap φ v w) (r : RelL s.heap φ vs ws) {Q : V → AH → Prop} (e : methV σ k v vs = some (u, σ')) (q : Q u σ') :
    wpAny (MM G) A (call (.builtin (methBid k)) (w :: ws)) (Post G.C φ s Q) NR s :=
  meth_el (P := fun k v vs u σ' => Rel s.heap φ v w → RelL s.heap φ vs ws → Q u σ' → wpAny (MM G) A (call (.builtin (methBid k)) (w :: ws)) (Post G.C φ s Q) NR s)
    (fun _ _ _ e1 ho hl rv r q => meth_append ok rv r e1 ho hl q) (fun _ _ _ e1 ho hl hy rv r q => by cases r; exact meth_pop ok rv e1 ho hl hy q)
    (fun _ _ _ _ _ e1 hnl e2 rv r q => meth_get hG hA ok rv r e1 hnl e2 q) (fun _ _ _ e1 hl rv r q => meth_add ok rv r e1 hl q) e rv r q
end

end Mine
end

/-! N8 -/
noncomputable section
set_option maxHeartbeats 200000
open PyProof.Rows PySem PySem.Calls PySem.W
namespace Mine

theorem tc_weight (C : Addr) (vals : List Value) (kw : List (PySem.Str × Value)) : (Code.builtin "type.__call__" ⟨.ref C :: vals, kw⟩).weight = 1 := by first | rfl | kernel_rfl
theorem tc_units (C : Addr) (vals : List Value) (kw : List (PySem.Str × Value)) : (Code.builtin "type.__call__" ⟨.ref C :: vals, kw⟩).cUnits = 1 := by first | rfl | kernel_rfl
theorem AOk.under {A : Around} {n : Nat} (x : AOk A (n + 1)) (C : Addr) (vals : List Value) (kw : List (PySem.Str × Value)) : AOk (A.under (.builtin "type.__call__" ⟨.ref C :: vals, kw⟩)) n := by
  refine ⟨x.handled, ?_, ?_⟩
  · have := x.depth
    show A.depth + (Code.builtin "type.__call__" ⟨.ref C :: vals, kw⟩).weight + 3 * n + 10 < _
    rw [tc_weight]; exact Om18 this
  · have := x.units
    show A.units + (Code.builtin "type.__call__" ⟨.ref C :: vals, kw⟩).cUnits + 20 * n + 200 < _
    rw [tc_units]; exact Om19 this
theorem AOk.less {A : Around} {n : Nat} (x : AOk A (n + 1)) : AOk A n := ⟨x.handled, by have := x.depth; exact Om20 this, by have := x.units; exact Om21 this⟩
theorem AOk.deeper {A : Around} {n : Nat} (x : AOk A (n + 1)) (env : Env) : AOk (A.deeper env) n :=
  ⟨x.handled, by have := x.depth; show A.depth + 1 + _ + _ < _; exact Om18 this, by have := x.units; show A.units + 3 + _ + _ < _; exact Om22 this⟩

/-! shells -/
section
variable {prog : Program} {w : World} {A : Around} {E : Value → Shared → Prop} {s : Shared} {env : Env}

theorem attrBase {o : PySem.Expr} (h : notCall o = true) (n : PySem.Str) (whole : Sem Value) : attributeBase o n env whole = whole := by
  cases o <;> first | rfl | exact Bool.noConfusion (show false = true from h)

theorem Call_at {o : PySem.Expr} {name : PySem.Str} {apos pos : Pos} {args : List PySem.Expr} {Q : Value → Shared → Prop} (hb : notCall o = true)
    (hf : (backTo pos (starEach args env)).all (fun x => !x.1) = true) (hl : args.length ≤ 20) (hline : (apos.endLine == pos.line) = true)
    (h : wpAny (model prog w) A (eval o env) (fun ov s₁ => ∀ pl, wpAny (model prog w) A (getMethod ov name pl) (fun fm s₂ => wpAny (model prog w) A (callWith pos fm.1 fm.2 (backTo pos (starEach args env)) []) Q E s₂) E s₁) E s) :
    wpAny (model prog w) A (eval (.Call (.Attribute o name apos) args [] pos) env) Q E s := by
  have hfew : ((backTo pos (starEach args env)).all (fun x => !x.1) && (backToKw pos (keywordEach [] env)).all (fun x => x.1.isSome)
      && decide (args.length + ([] : List Keyword).length + (if ([] : List Keyword).isEmpty then 0 else 1) < 30)) = true := by
    rw [hf]
    show (true && true && decide (args.length + 0 + 0 < 30)) = true
    rw [decide_eq_true (by exact Om23 hl)]; rfl
  rw [arm_eval_Call, attrBase hb]
  refine wpAny_bind (wpAny_mono h (fun ov s₁ h₁ => ?_) fun _ _ e => e)
  refine wpAny_bind (wpAny_standAt ?_)
  have hform : methodCallForm (args.length + ([] : List Keyword).length) (backTo pos (starEach args env)) (backToKw pos (keywordEach [] env)) = true := hfew
  have hpos : methodCallPos true o env apos pos = pure pos := by unfold methodCallPos; simp [hline]
  unfold methodCall
  rw [hform]
  refine wpAny_bind (wpAny_holding (wpAny_mono (h₁ _) (fun fm s₂ h₂ => ?_) fun _ _ x => x))
  exact wpAny_bind (wpAny_of_eq hpos h₂)

theorem evalArgs_sp {f : Value} {args : List (Bool × Sem Value)} {Q : Args → Shared → Prop} (hf : args.all (fun x => !x.1) = true) (h : wpAny (model prog w) A (spliced args) (fun vs s' => Q ⟨vs, []⟩ s') E s) :
    wpAny (model prog w) A (evalArgs f true args []) Q E s := by
  cases args with
  | nil =>
    unfold evalArgs
    show wpAny _ A (spliced [] >>= _) Q E s
    refine wpAny_bind (wpAny_mono h (fun vs s' q => ?_) fun _ _ x => x)
    refine wpAny_bind (wpAny_pure ?_)
    refine wpAny_holding ?_
    exact wpAny_bind (wpAny_pure (wpAny_bind (wpAny_pure (wpAny_pure q))))
  | cons x rest =>
    obtain ⟨b, t⟩ := x
    cases b with
    | false => exact evalArgs_plain h
    | true => simp at hf

theorem callW {pos : Pos} {f : Value} {first : List Value} {args : List (Bool × Sem Value)} {Q : Value → Shared → Prop} {P : Heap → Prop} (hf : args.all (fun x => !x.1) = true)
    (hk : ∀ h, P h → ∃ k, (k = Keeper.frame ∨ k = Keeper.machine ∨ k = Keeper.boundFrame) ∧ Looks (model prog w) h (keeperOf f) k)
    (h : wpAny (model prog w) A (spliced args) (fun vs s₁ => P s₁.heap ∧ wpAny (model prog w) A (call f (first ++ vs)) Q E s₁) E s) :
    wpAny (model prog w) A (callWith pos f first args []) Q E s := by
  refine callWith_of ?_ hk (evalArgs_sp hf h)
  rw [List.any_nil, Bool.or_false, ← Bool.not_eq_true, List.any_eq_true]
  rintro ⟨x, m, q⟩
  have := List.all_eq_true.mp hf x m
  rw [q] at this; cases this
theorem machine_keeps {f : Value} (hf : ∀ a, f ≠ .ref a) (h : Heap) (_ : True) : ∃ k, (k = Keeper.frame ∨ k = Keeper.machine ∨ k = Keeper.boundFrame) ∧ Looks (model prog w) h (keeperOf f) k :=
  ⟨.machine, .inr (.inl rfl), Looks.of_pure (by cases f <;> first | rfl | exact absurd rfl (hf _))⟩
end

noncomputable def okIx (k : Nat) : Bool := (k != 22) && (k != 7)
theorem ckE_ix {G : Nm} {X : Ck} {e : E} {x : PySem.Expr} (c : ckE G X e x = true) : okIx x.ctorIdx = true := by
  have go : ∀ {k : Nat}, x.ctorIdx = k → okIx k = true → okIx x.ctorIdx = true := fun a b => a ▸ b
  cases e with
  | loc | glob => exact go (onName_tag c) rfl
  | kint | kstr | kbool | knone => exact go (onConstant_tag c) rfl
  | tup => exact go (onTuple_tag c) rfl
  | list => exact go (onList_tag c) rfl
  | dict0 => exact go (onDict_tag c) rfl
  | attr => exact go (onAttribute_tag c) rfl
  | sub | slTo | slFrom => exact go (onSubscript_tag c) rfl
  | isNone => exact go (onCompare_tag c) rfl
  | pow => exact go (onBinOp_tag c) rfl
  | isStr | newX => exact go (onCall_tag c) rfl
  | comp => exact go (onListComp_tag c) rfl
  | cmp => exact go (onCompare_tag c) rfl
  | boolop => exact go (onBoolOp_tag c) rfl
  | not | neg => exact go (onUnaryOp_tag c) rfl
  | bin => exact go (onBinOp_tag c) rfl
  | ife => exact go (onIfExp_tag c) rfl
  | callF | callM | new | blt | meth => exact go (onCall_tag c) rfl
theorem star_one {x : PySem.Expr} (h : okIx x.ctorIdx = true) (xs : List PySem.Expr) (env : Env) : starEach (x :: xs) env = (false, eval x env) :: starEach xs env := by
  cases x <;> first | rfl | cases h
theorem starEach_of {G : Glo} {X : Ck} (env : Env) : ∀ {es : EL} {xs : List PySem.Expr}, ckL G X es xs = true → starEach xs env = xs.map fun e => (false, eval e env)
  | .nil, [], _ => rfl
  | .cons e es, x :: xs, c => by
    have c : (ckE G X e x && ckL G X es xs) = true := c
    rw [star_one (ckE_ix (Bool.and_eq_true_iff.mp c).1), starEach_of env (Bool.and_eq_true_iff.mp c).2]; rfl
  | .nil, _ :: _, c => Bool.noConfusion (show false = true from c)
  | .cons _ _, [], c => Bool.noConfusion (show false = true from c)
theorem back_of {G : Glo} {X : Ck} (env : Env) (pos : Pos) {es : EL} {xs : List PySem.Expr} (c : ckL G X es xs = true) : backTo pos (starEach xs env) = xs.map fun e => (false, eval e env) := by
  rw [starEach_of env c]
  unfold backTo
  rw [List.map_map]
  rfl
theorem back_all {G : Glo} {X : Ck} (env : Env) (pos : Pos) {es : EL} {xs : List PySem.Expr} (c : ckL G X es xs = true) : (backTo pos (starEach xs env)).all (fun x => !x.1) = true := by
  rw [back_of env pos c]
  simp

noncomputable def plainIx (k : Nat) : Bool := !(k == 0 || k == 3 || k == 5 || k == 15)
noncomputable def plainT (x : PySem.Expr) : Bool := plainIx x.ctorIdx || onUnaryOp x fun o _ _ => (match o with | .Not => false | _ => true)
theorem plainT_eq {x : PySem.Expr} {env : Env} (h : plainT x = true) : isTrue x env (eval x env) = (do let v ← eval x env; standAt x.pos; holding [v] (truthy v)) := by
  cases x with
  | UnaryOp o _ _ => cases o <;> first | rfl | exact Bool.noConfusion (show false = true from h)
  | BoolOp => exact Bool.noConfusion (show false = true from h)
  | IfExp => exact Bool.noConfusion (show false = true from h)
  | Compare => exact Bool.noConfusion (show false = true from h)
  | _ => rfl

theorem plain_tag {x : PySem.Expr} {k : Nat} (e : x.ctorIdx = k) (h : plainIx k = true) : plainT x = true := by
  rw [plainT, e, h]; rfl
noncomputable def SimV (G : Glo) (cf : Cf) (n : Nat) (e : E) : Prop := ∀ (X : Ck) (x : PySem.Expr), ckE G X e x = true → ∀ (L : Fm) (env : Env) (A : Around), EnvOk A X L env → AOk A (n + 1) → ∀ (s : Shared) (φ : List Addr) (σ : AH) (ρ : En), Ok G.C φ σ s.heap → Loc G.C.hB X ρ φ s.heap L →
  ∀ Q, wE G.P cf e ρ σ Q → wpAny (MM G) A (eval x env) (Post G.C φ s Q) NR s
theorem sim_of {G : Glo} {cf : Cf} {n : Nat} {e : E} (p : ∀ X x, ckE G X e x = true → plainT x = true) (h : SimV G cf n e) : SimE G cf n e :=
  fun X x c L env A he hA s φ σ ρ ok lo => ⟨fun Q q => h X x c L env A he hA s φ σ ρ ok lo Q q, fun R q => truth_of (e := x) (plainT_eq (p X x c)) (h X x c L env A he hA s φ σ ρ ok lo _ q)⟩

theorem Post.back {G : Glo} {A : Around} {φ φ₁ : List Addr} {s s₁ : Shared} {Q : V → AH → Prop} {m : Sem Value} (x : Ext [] φ s.heap φ₁ s₁.heap) (g : s₁.gens = s.gens) (o : s₁.os = s.os) (h : wpAny (MM G) A m (Post G.C φ₁ s₁ Q) NR s₁) : wpAny (MM G) A m (Post G.C φ s Q) NR s₁ :=
  wpAny_mono h (fun _ _ p => p.trans x g o) fun _ _ z => z

end Mine
end

/-! N9 -/
noncomputable section
set_option maxHeartbeats 200000
open PyProof.Rows PySem PySem.Calls PySem.W
namespace Mine



section
variable {G : Glo} (hG : GloOk G) {cf : Cf} {n : Nat}

set_option tactic.hygienic true in
theorem sim_loc (i : Nat) : SimE G cf n (.loc i) := by
  refine sim_of (fun X x c => plain_tag (onName_tag c) rfl) fun X x c L env A he hA s φ σ ρ ok lo Q q => ?_
  refine onName_elim c fun y pos c => ?_
  simp only [Zu] at q
  split at q
  · rename_i v e
    have c2 := and_r c
    have c1 := and_l c
    exact name_loc he lo ok (beq_iff_eq.mp c1) c2 e fun w r => post_now' ok r q
  · exact q.elim
theorem sim_kint (i : Int) : SimE G cf n (.kint i) := by
  refine sim_of (fun X x c => plain_tag (onConstant_tag c) rfl) fun X x c L env A he hA s φ σ ρ ok lo Q q => ?_
  refine onConstant_elim c fun k kd pos c => ?_
  cases k with
  | int j =>
    have : i = j := of_decide_eq_true c
    subst this
    exact wpAny_Constant_int (post_now ok (v := .int i) ⟨_, rfl⟩ q)
  | _ => exact Bool.noConfusion (show false = true from c)
theorem sim_kstr (i : PySem.Str) : SimE G cf n (.kstr i) := by
  refine sim_of (fun X x c => plain_tag (onConstant_tag c) rfl) fun X x c L env A he hA s φ σ ρ ok lo Q q => ?_
  refine onConstant_elim c fun k kd pos c => ?_
  cases k with
  | str j =>
    have : i = j := of_decide_eq_true c
    subst this
    exact wpAny_Constant_str (post_now ok (v := .str i) ⟨_, rfl⟩ q)
  | _ => exact Bool.noConfusion (show false = true from c)
theorem sim_kbool (i : Bool) : SimE G cf n (.kbool i) := by
  refine sim_of (fun X x c => plain_tag (onConstant_tag c) rfl) fun X x c L env A he hA s φ σ ρ ok lo Q q => ?_
  refine onConstant_elim c fun k kd pos c => ?_
  cases k with
  | bool j =>
    have : i = j := beq_iff_eq.mp c
    subst this
    exact wpAny_Constant_bool (post_now' ok (v := .bool i) rfl q)
  | _ => exact Bool.noConfusion (show false = true from c)
theorem sim_knone : SimE G cf n .knone := by
  refine sim_of (fun X x c => plain_tag (onConstant_tag c) rfl) fun X x c L env A he hA s φ σ ρ ok lo Q q => ?_
  refine onConstant_elim c fun k kd pos c => ?_
  cases k with
  | none => exact wpAny_Constant_none (post_now' ok (v := .none) rfl q)
  | _ => exact Bool.noConfusion (show false = true from c)
set_option tactic.hygienic true in
include hG in
theorem sim_glob (g : Nat) : SimE G cf n (.glob g) := by
  refine sim_of (fun X x c => plain_tag (onName_tag c) rfl) fun X x c L env A he hA s φ σ ρ ok lo Q q => ?_
  refine onName_elim c fun y pos c => ?_
  simp only [Zl] at q
  split at q
  · rename_i v e
    have c : (G.gname g == some y && ckName X .globalImplicit y) = true := c
    have c2 := and_r c
    have c1 := and_l c
    obtain ⟨w, e1, r⟩ := hG.glob g y v (beq_iff_eq.mp c1) e
    exact name_glob hG ok.base he c2 e1 (post_now' ok (r.mono ⟨φ, rfl⟩ fun a ws ⟨o, h, z⟩ => ⟨o, ok.base a o h, z⟩) q)
  · exact q.elim

theorem sim_tup {es : EL} (ih : SimL G cf n es) : SimE G cf n (.tup es) := by
  refine sim_of (fun X x c => plain_tag (onTuple_tag c) rfl) fun X x c L env A he hA s φ σ ρ ok lo Q q => ?_
  refine onTuple_elim c fun xs k pos c => ?_
  have c : (ckL G X es xs && decide (xs.length ≤ 100)) = true := c
  have c2 := and_r c
  have c1 := and_l c
  have c2 := of_decide_eq_true c2
  have q : wL G.P cf es ρ σ fun vs σ' => Q (.tup vs) σ' := q
  refine Tuple_ (wpAny_mono ((ih X xs c1 L env A he hA s φ σ ρ ok lo).1 pos _ q) (fun ws s' p => ?_) fun _ _ z => z)
  refine p.elim fun φ' σ' vs x1 x2 x3 xq x5 x6 => ?_
  obtain ⟨x7, x4⟩ := xq
  exact wpAny_newTuple ((new_tup x2 x3 x4).trans x1 x5 x6) (by rw [x3.length, x7, sizeLine_eq]; exact Om24 c2 x7)
theorem sim_list {es : EL} (ih : SimL G cf n es) : SimE G cf n (.list es) := by
  refine sim_of (fun X x c => plain_tag (onList_tag c) rfl) fun X x c L env A he hA s φ σ ρ ok lo Q q => ?_
  refine onList_elim c fun xs pos c => ?_
  have c : (ckL G X es xs && decide (xs.length ≤ 100)) = true := c
  have c2 := and_r c
  have c1 := and_l c
  have c2 := of_decide_eq_true c2
  have q : wL G.P cf es ρ σ fun vs σ' => Q (.obj σ'.length) (σ' ++ [.list vs]) := q
  refine List_ (wpAny_mono ((ih X xs c1 L env A he hA s φ σ ρ ok lo).1 pos _ q) (fun ws s' p => ?_) fun _ _ z => z)
  refine p.elim fun φ' σ' vs x1 x2 x3 xq x5 x6 => ?_
  obtain ⟨x7, x4⟩ := xq
  exact wpAny_newList ((new_list x2 x3 x4).trans x1 x5 x6) (by rw [x3.length, x7, sizeLine_eq]; exact Om24 c2 x7)
theorem sim_dict0 (k : Nat) : SimE G cf n (.dict0 k) := by
  refine sim_of (fun X x c => plain_tag (onDict_tag c) rfl) fun X x c L env A he hA s φ σ ρ ok lo Q q => ?_
  refine onDict_elim c fun ks vs pos c => ?_
  cases ks with
  | cons => exact Bool.noConfusion (show false = true from c)
  | nil =>
    cases vs with
    | cons => exact Bool.noConfusion (show false = true from c)
    | nil => exact wpAny_Dict_empty (new_dict (kd := k) ok q)

set_option tactic.hygienic true in
include hG in
theorem sim_attr {e : E} {a : Nat} (ih : SimE G cf n e) : SimE G cf n (.attr e a) := by
  refine sim_of (fun X x c => plain_tag (onAttribute_tag c) rfl) fun X x c L env A he hA s φ σ ρ ok lo Q q => ?_
  refine onAttribute_elim c fun x y pos c => ?_
  have c : (ckE G X e x && attrNames[a]? == some y && notCall x) = true := c
  have c3 := and_r c
  have c := and_l c
  have c2 := and_r c
  have c1 := and_l c
  have c2 : y = attrName a := by
    have := beq_iff_eq.mp c2
    unfold attrName
    rw [List.getD_eq_getElem?_getD, this]; rfl
  subst c2
  have q : wE G.P cf e ρ σ fun v σ' => match attrAt σ' v a with | some u => Q u σ' | none => False := q
  refine Attribute_any_ (wpAny_mono ((ih X x c1 L env A he hA s φ σ ρ ok lo).1 _ q) (fun w s' p => ?_) fun _ _ z => z) (by rw [arm_eval_Attribute, attrBase c3])
  refine p.elim fun φ' σ' v x1 x2 x3 x4 x5 x6 => ?_
  split at x4
  · rename_i u e1
    exact Post.back x1 x5 x6 (op_attr hG x2 x3 e1 x4)
  · exact x4.elim

set_option tactic.hygienic true in
theorem item_type {s : Shared} {φ : List Addr} {σ : AH} {v k u : V} {w : Value} (ok : Ok G.C φ σ s.heap) (rv : Rel s.heap φ v w) {wk : Value} (rk : Rel s.heap φ k wk) (e : itemAt σ v k = some u) : ∃ T id, s.TypeIs w T ∧ typeLookup (.type T) "__getitem__" = pure (some (.builtin id)) := by
  cases v with
  | tup vs =>
    obtain ⟨a, ws, rfl, ht, _⟩ := rv
    exact ⟨_, _, ht.typeIs, PySem.F.slot_tuple_getitem.lookup⟩
  | obj o =>
    simp only [itemAt] at e
    split at e
    · rename_i xs i e1
      obtain ⟨a, rfl, ea, ws, m, hl, rl⟩ := rel_obj ok rv e1
      exact ⟨"list", _, ⟨_, hl, rfl⟩, PySem.F.slot_list_getitem.lookup⟩
    · rename_i _ d e1 hneg
      obtain ⟨a, rfl, ea, z⟩ := rel_obj ok rv e1
      obtain ⟨r, e2, e3⟩ := Option.bind_eq_some_iff.mp e
      exact ⟨"dict", _, dict_type (dict_has z rk e2), PySem.F.slot_dict_getitem.lookup⟩
    · cases e
  | _ => cases k <;> cases e

theorem sub_eq {y : PySem.Expr} {o i : Value} (h : notSlice y = true) : subscripted y false o i = operate [o, i] (getItem o i) := by
  cases y <;> first | rfl | exact Bool.noConfusion (show false = true from h)

set_option tactic.hygienic true in
theorem sim_sub {e i : E} (ih : SimE G cf n e) (ih2 : SimE G cf n i) : SimE G cf n (.sub e i) := by
  refine sim_of (fun X x c => plain_tag (onSubscript_tag c) rfl) fun X x c L env A he hA s φ σ ρ ok lo Q q => ?_
  refine onSubscript_elim c fun x y pos c => ?_
  have c : (ckE G X e x && ckE G X i y && notSlice y) = true := c
  have c3 := and_r c
  have c := and_l c
  have c2 := and_r c
  have c1 := and_l c
  have q : wE G.P cf e ρ σ fun v σ₁ => wE G.P cf i ρ σ₁ fun k σ₂ => match itemAt σ₂ v k with | some u => Q u σ₂ | none => False := q
  refine Subscript_ (wpAny_mono ((ih X x c1 L env A he hA s φ σ ρ ok lo).1 _ q) (fun w s' p => ?_) fun _ _ z => z)
  refine p.elim fun φ' σ' v x1 x2 x3 x4 x5 x6 => ?_
  refine wpAny_mono ((ih2 X y c2 L env A he hA s' φ' σ' ρ x2 (lo.ext ok x1)).1 _ x4) (fun w2 s'' p => ?_) fun _ _ z => z
  refine p.elim fun φ'' σ'' k y1 y2 y3 y4 y5 y6 => ?_
  split at y4
  · rename_i u e1
    have x3' := x3.mono y1.pref (y1.tk x2 fun _ m => nomatch m)
    obtain ⟨T, id, hT, hl⟩ := item_type y2 x3' y3 e1
    exact tail_any hT hl (Post.back (x1.trans y1) (y5.trans x5) (y6.trans x6) (item_get hA y2 x3' y3 e1 y4)) (sub_eq c3)
  · exact y4.elim

set_option tactic.hygienic true in
theorem sim_slTo {e : E} {k : Nat} (ih : SimE G cf n e) : SimE G cf n (.slTo e k) := by
  refine sim_of (fun X x c => plain_tag (onSubscript_tag c) rfl) fun X x c L env A he hA s φ σ ρ ok lo Q q => ?_
  refine onSubscript_elim c fun x y pos c => ?_
  have d2 := and_r c
  have d1 := and_l c
  have d3 := and_r d1
  have c1 := and_l d1
  revert c1
  refine onName_elim d3 fun nm np _ c1 => ?_
  refine onSlice_elim d2 fun lo' up st p2 d4 => ?_
  have d6 := and_r d4
  have d5 := and_l d4
  have d8 := and_r d5
  have d7 := and_l d5
  cases Option.isNone_iff_eq_none.mp d7
  cases Option.isNone_iff_eq_none.mp d8
  cases up with
  | none => exact Bool.noConfusion (show false = true from d6)
  | some u =>
  refine onConstant_elim d6 fun kk a1 a2 d9 => ?_
  cases kk with
  | int m => ?_
  | _ => exact Bool.noConfusion (show false = true from d9)
  have c3 := and_r d9
  have c2 := and_l d9
  have c2 := of_decide_eq_true c2
  subst c2
  have q : wE G.P cf e ρ σ fun v σ' => match listAt σ' v with | some xs => if xs.length < 1000000 then Q (.obj σ'.length) (σ' ++ [.list (xs.take k)]) else False | none => False := q
  refine wpAny_Subscript_list_slice (wpAny_mono ((ih X _ c1 L env A he hA s φ σ ρ ok lo).1 _ q) (fun w s' p => ?_) fun _ _ z => z)
  refine p.elim fun φ' σ' v x1 x2 x3 x4 x5 x6 => ?_
  rw [evalPart_none]
  refine wpAny_pure ?_
  rw [evalPart_some]
  refine wpAny_Constant_int ?_
  split at x4
  · rename_i xs e1
    split at x4
    · rename_i hl
      obtain ⟨o, a, ws, m, rfl, e2, rfl, ea, hg, rl, hs⟩ := listAt_some x2 x3 e1
      refine ⟨a, ws, none, some k, rfl, PySem.IsL.isList (n := m) hg, by rw [hs, sizeLine_eq]; exact Om15 hl hs, .none, .int _ _, ?_⟩
      rw [slicePick_upto']
      have hsz : s'.heap.objs.size + 1 = (s'.heap.push { cls := .type "slice", data := .fields #[.none, .int k s'.toks, .none] }).objs.size := (Heap.size_push ..).symm
      show Post G.C φ s Q (.ref (s'.heap.objs.size + 1)) _
      rw [hsz]
      have x2' := x2.push { cls := .type "slice", data := .fields #[.none, .int k s'.toks, .none] }
      have t1 : TK s'.heap (s'.heap.push { cls := .type "slice", data := .fields #[.none, .int k s'.toks, .none] }) := fun b ws' ⟨ob, e, c⟩ => ⟨ob, Heap.get?_push_of_some _ e, c⟩
      exact Post.trans (φ₁ := φ') (s₁ := { s' with heap := s'.heap.push { cls := .type "slice", data := .fields #[.none, .int k s'.toks, .none] }, toks := s'.toks + 1 }) (x1.trans (Ext.push _)) x5 x6 (new_list x2' ((rl.take k).mono (List.prefix_refl _) t1) x4)
    · exact x4.elim
  · exact x4.elim
end

end Mine
end

/-! N10 -/
noncomputable section
set_option maxHeartbeats 200000
open PyProof.Rows PySem PySem.Calls PySem.W
namespace Mine

section
variable {G : Glo} (hG : GloOk G) {cf : Cf} {n : Nat}

set_option tactic.hygienic true in
include hG in
theorem sim_cmp {op : Cm} {a b : E} (ih : SimE G cf n a) (ih2 : SimE G cf n b) : SimE G cf n (.cmp op a b) := by
  intro X x c L env A he hA s φ σ ρ ok lo
  refine onCompare_elim c fun x ops ys pos c => ?_
  ·
    cases ops with
    | nil => exact Bool.noConfusion (show false = true from c)
    | cons o ops =>
    cases ops with
    | cons => exact Bool.noConfusion (show false = true from c)
    | nil =>
    cases ys with
    | nil => exact Bool.noConfusion (show false = true from c)
    | cons y ys =>
    cases ys with
    | cons => exact Bool.noConfusion (show false = true from c)
    | nil =>
      have c : (ckCm op o && ckE G X a x && ckE G X b y && !behindInMarks o y) = true := c
      have c4 := and_r c
      have c := and_l c
      have c3 := and_r c
      have c := and_l c
      have c2 := and_r c
      have c1 := and_l c
      have c4 : behindInMarks o y = false := by simpa using c4
      have key : ∀ Q, wE G.P cf (.cmp op a b) ρ σ Q → wpAny (MM G) A (eval x env) (fun wa s₁ => wpAny (MM G) A (eval y env) (fun wb s₂ => wpAny (MM G) A (compareOp o wa wb) (Post G.C φ s Q) NR s₂) NR s₁) NR s := by
        intro Q q
        have q : wE G.P cf a ρ σ fun x σ₁ => wE G.P cf b ρ σ₁ fun y σ₂ => match cmpV σ₂ op x y with | some c => Q (.bool c) σ₂ | none => False := q
        refine wpAny_mono ((ih X x c2 L env A he hA s φ σ ρ ok lo).1 _ q) (fun w s' p => ?_) fun _ _ z => z
        refine p.elim fun φ' σ' v x1 x2 x3 x4 x5 x6 => ?_
        refine wpAny_mono ((ih2 X y c3 L env A he hA s' φ' σ' ρ x2 (lo.ext ok x1)).1 _ x4) (fun w2 s'' p => ?_) fun _ _ z => z
        refine p.elim fun φ'' σ'' k y1 y2 y3 y4 y5 y6 => ?_
        split at y4
        · rename_i r e1
          have x3' := x3.mono y1.pref (y1.tk x2 fun _ m => nomatch m)
          exact Post.back (x1.trans y1) (y5.trans x5) (y6.trans x6) (cmp_op hG hA y2 c1 x3' y3 e1 y4)
        · exact y4.elim
      refine ⟨fun Q q => wpAny_Compare1 (key Q q) c4, fun R q => ?_⟩
      rw [isTrue_Compare1]
      have hm : markedBehindIn o y (eval y env) = eval y env := by unfold markedBehindIn; rw [c4]
      rw [hm]
      refine wpAny_bind (wpAny_mono (key _ q) (fun wa s₁ h₁ => wpAny_bind (wpAny_holding (wpAny_mono h₁ (fun wb s₂ h₂ => wpAny_bind (wpAny_standAt (wpAny_bind (wpAny_operating (wpAny_mono h₂ (fun r s₃ p => ?_) fun _ _ z => z))))) fun _ _ z => z))) fun _ _ z => z)
      refine p.elim fun φ' σ' v x1 x2 x3 x4 x5 x6 => ?_
      cases v with
      | bool b =>
        cases x3
        exact wpAny_holding (wpAny_truthy_bool ⟨φ', σ', x1, x2, x4, x5, x6⟩)
      | _ => exact x4.elim

theorem sim_boolop {isAnd : Bool} {es : EL} (ih : SimL G cf n es) : SimE G cf n (.boolop isAnd es) := by
  intro X x c L env A he hA s φ σ ρ ok lo
  refine onBoolOp_elim c fun o xs pos c => ?_
  ·
    have c : ((isAnd == (o == .And)) && ckL G X es xs) = true := c
    have c2 := and_r c
    have c1 := and_l c
    have c1 := beq_iff_eq.mp c1
    subst c1
    have h := ih X xs c2 L env A he hA s φ σ ρ ok lo
    exact ⟨fun Q q => h.2.1 pos o Q q, fun R q => h.2.2 o R q⟩

theorem sim_not {e : E} (ih : SimE G cf n e) : SimE G cf n (.not e) := by
  intro X x c L env A he hA s φ σ ρ ok lo
  refine onUnaryOp_elim c fun o x pos c => ?_
  ·
    cases o with
    | Not =>
      have c : ckE G X e x = true := c
      have h := ih X x c L env A he hA s φ σ ρ ok lo
      refine ⟨fun Q q => ?_, fun R q => ?_⟩
      · have q : wE G.P cf e ρ σ fun v σ' => match v with | .bool b => Q (.bool !b) σ' | _ => False := q
        refine wpAny_UnaryOp (wpAny_mono (h.1 _ q) (fun w s' p => ?_) fun _ _ z => z)
        refine p.elim fun φ' σ' v x1 x2 x3 x4 x5 x6 => ?_
        cases v with
        | bool b =>
          cases x3
          exact PyProof.Rows.not_of (wpAny_truthy_bool ⟨φ', σ', .bool !b, x1, x2, rfl, x4, x5, x6⟩)
        | _ => exact x4.elim
      · have q : wE G.P cf e ρ σ fun v σ' => match v with | .bool b => R (!b) σ' | _ => False := q
        have hi : isTrue (.UnaryOp .Not x pos) env (eval (.UnaryOp .Not x pos) env) = (do return !(← isTrue x env (eval x env))) := rfl
        rw [hi]
        refine wpAny_bind (wpAny_mono (h.2 (fun b σ' => R (!b) σ') q) (fun b s' p => ?_) fun _ _ z => z)
        refine p.elim fun φ' σ' x1 x2 x4 x5 x6 => ?_
        exact wpAny_pure ⟨φ', σ', x1, x2, x4, x5, x6⟩
    | _ => exact Bool.noConfusion (show false = true from c)

theorem sim_neg {e : E} (ih : SimE G cf n e) : SimE G cf n (.neg e) := by
  refine sim_of (fun X x c => ?_) fun X x c L env A he hA s φ σ ρ ok lo Q q => ?_
  · refine onUnaryOp_elim c fun o x pos c => ?_
    ·
      cases o with
      | USub => rfl
      | _ => exact Bool.noConfusion (show false = true from c)
  · refine onUnaryOp_elim c fun o x pos c => ?_
    ·
      cases o with
      | USub =>
        have c : ckE G X e x = true := c
        have q : wE G.P cf e ρ σ fun v σ' => match v with | .int i => Q (.int (-i)) σ' | _ => False := q
        refine wpAny_UnaryOp (wpAny_mono ((ih X x c L env A he hA s φ σ ρ ok lo).1 _ q) (fun w s' p => ?_) fun _ _ z => z)
        refine p.elim fun φ' σ' v x1 x2 x3 x4 x5 x6 => ?_
        cases v with
        | int i =>
          obtain ⟨t, rfl⟩ := x3
          exact PySem.P.neg_int (Post.trans x1 x5 x6 (post_now x2 (v := .int (-i)) ⟨_, rfl⟩ x4))
        | _ => exact x4.elim
      | _ => exact Bool.noConfusion (show false = true from c)

set_option tactic.hygienic true in
theorem sim_bin {op : Bo} {a b : E} (ih : SimE G cf n a) (ih2 : SimE G cf n b) : SimE G cf n (.bin op a b) := by
  refine sim_of (fun X x c => plain_tag (onBinOp_tag c) rfl) fun X x c L env A he hA s φ σ ρ ok lo Q q => ?_
  refine onBinOp_elim c fun x o y pos c => ?_
  have c : (ckBo op o && ckE G X a x && ckE G X b y) = true := c
  have c3 := and_r c
  have c := and_l c
  have c2 := and_r c
  have c1 := and_l c
  have q : wE G.P cf a ρ σ fun x σ₁ => wE G.P cf b ρ σ₁ fun y σ₂ => match binV op x y with | some v => Q v σ₂ | none => False := q
  refine wpAny_BinOp (wpAny_mono ((ih X x c2 L env A he hA s φ σ ρ ok lo).1 _ q) (fun w s' p => ?_) fun _ _ z => z)
  refine p.elim fun φ' σ' v x1 x2 x3 x4 x5 x6 => ?_
  refine wpAny_mono ((ih2 X y c3 L env A he hA s' φ' σ' ρ x2 (lo.ext ok x1)).1 _ x4) (fun w2 s'' p => ?_) fun _ _ z => z
  refine p.elim fun φ'' σ'' k y1 y2 y3 y4 y5 y6 => ?_
  split at y4
  · rename_i r e1
    have x3' := x3.mono y1.pref (y1.tk x2 fun _ m => nomatch m)
    exact Post.back (x1.trans y1) (y5.trans x5) (y6.trans x6) (bin_op y2 c1 x3' y3 e1 y4)
  · exact y4.elim

set_option tactic.hygienic true in
theorem sim_ife {c a b : E} (ih : SimE G cf n c) (ih2 : SimE G cf n a) (ih3 : SimE G cf n b) : SimE G cf n (.ife c a b) := by
  intro X x ck L env A he hA s φ σ ρ ok lo
  refine onIfExp_elim ck fun x y z pos ck => ?_
  ·
    have ck : (ckE G X c x && ckE G X a y && ckE G X b z) = true := ck
    have c3 := and_r ck
    have ck := and_l ck
    have c2 := and_r ck
    have c1 := and_l ck
    have h := ih X x c1 L env A he hA s φ σ ρ ok lo
    refine ⟨fun Q q => ?_, fun R q => ?_⟩
    · have q : wE G.P cf c ρ σ fun v σ' => match v with | .bool t => (if t = true then wE G.P cf a ρ σ' Q else wE G.P cf b ρ σ' Q) | _ => False := q
      refine wpAny_IfExp (wpAny_mono (h.2 (fun t σ' => if t = true then wE G.P cf a ρ σ' Q else wE G.P cf b ρ σ' Q) q) (fun t s' p => ?_) fun _ _ z => z)
      refine p.elim fun φ' σ' x1 x2 x4 x5 x6 => ?_
      split
      · rename_i ht
        rw [if_pos ht] at x4
        exact Post.back x1 x5 x6 ((ih2 X y c2 L env A he hA s' φ' σ' ρ x2 (lo.ext ok x1)).1 _ x4)
      · rename_i ht
        rw [if_neg ht] at x4
        exact Post.back x1 x5 x6 ((ih3 X z c3 L env A he hA s' φ' σ' ρ x2 (lo.ext ok x1)).1 _ x4)
    · have q : wE G.P cf c ρ σ fun v σ' => match v with | .bool t => (if t = true then wE G.P cf a ρ σ' (fun v σ' => match v with | .bool b => R b σ' | _ => False) else wE G.P cf b ρ σ' (fun v σ' => match v with | .bool b => R b σ' | _ => False)) | _ => False := q
      have hi : isTrue (.IfExp x y z pos) env (eval (.IfExp x y z pos) env) = (do if ← isTrue x env (eval x env) then isTrue y env (eval y env) else isTrue z env (eval z env)) := rfl
      rw [hi]
      refine wpAny_bind (wpAny_mono (h.2 (fun t σ' => if t = true then wE G.P cf a ρ σ' (fun v σ' => match v with | .bool b => R b σ' | _ => False) else wE G.P cf b ρ σ' (fun v σ' => match v with | .bool b => R b σ' | _ => False)) q) (fun t s' p => ?_) fun _ _ z => z)
      refine p.elim fun φ' σ' x1 x2 x4 x5 x6 => ?_
      have bk : ∀ {m : Sem Bool}, wpAny (MM G) A m (PostT G.C φ' s' R) NR s' → wpAny (MM G) A m (PostT G.C φ s R) NR s' := fun h => wpAny_mono h (fun _ _ ⟨φ'', σ'', y1, y2, y4, y5, y6⟩ => ⟨φ'', σ'', x1.trans y1, y2, y4, y5.trans x5, y6.trans x6⟩) fun _ _ z => z
      by_cases ht : t = true
      · rw [if_pos ht] at x4 ⊢
        exact bk ((ih2 X y c2 L env A he hA s' φ' σ' ρ x2 (lo.ext ok x1)).2 _ x4)
      · rw [if_neg ht] at x4 ⊢
        exact bk ((ih3 X z c3 L env A he hA s' φ' σ' ρ x2 (lo.ext ok x1)).2 _ x4)
end

end Mine
end

/-! N10c -/
noncomputable section
set_option maxHeartbeats 200000
open PyProof.Rows PySem PySem.Calls PySem.W
namespace Mine

section
variable {G : Glo} (hG : GloOk G) {cf : Cf} {n : Nat}
set_option tactic.hygienic true in
theorem pick_paired {h : Heap} {φ : List Addr} {xs : List V} {ws : List Value} (rl : RelL h φ xs ws) : ∀ {ks us : List V} {wk ys : List Value}, RelL h φ ks wk → pickV xs ks = some us → Paired (fun v y => ∃ (i : Int) (t : Tok), v = .int i t ∧ 0 ≤ i ∧ ws[i.toNat]? = some y) wk ys → RelL h φ us ys := by
  intro ks
  induction ks with
  | nil =>
    intro us wk ys r e p
    cases r; cases e; cases p
    rfl
  | cons k ks ih =>
    intro us wk ys r e p
    obtain ⟨w, wk, rfl, rk, r⟩ := r
    cases p with
    | cons hp p =>
      cases k with
      | int i =>
        have e : (match (idx i xs.length).bind fun j => xs[j]? with | some u => (pickV xs ks).map (u :: ·) | none => none) = some us := e
        split at e
        · rename_i u e1
          obtain ⟨us', e2, rfl⟩ := Option.map_eq_some_iff.mp e
          obtain ⟨j, e3, e4⟩ := Option.bind_eq_some_iff.mp e1
          unfold idx at e3
          split at e3
          · cases e3
            obtain ⟨i', t, h1, h2, h3⟩ := hp
            obtain ⟨t', rfl⟩ := rk
            cases h1
            obtain ⟨w', g1, g2⟩ := rl.get e4
            rw [h3] at g1; cases g1
            exact RelL.cons g2 (ih r e2 p)
          · cases e3
        · cases e
      | _ => cases e
set_option tactic.hygienic true in
theorem pick_in {xs : List V} : ∀ {ks us : List V}, pickV xs ks = some us → ∀ k ∈ ks, ∃ i : Int, k = .int i ∧ 0 ≤ i ∧ i < xs.length ∧ xs.length < 1000000 := by
  intro ks
  induction ks with
  | nil => intro us e k m; cases m
  | cons k ks ih =>
    intro us e
    cases k with
    | int i =>
      have e : (match (idx i xs.length).bind fun j => xs[j]? with | some u => (pickV xs ks).map (u :: ·) | none => none) = some us := e
      split at e
      · rename_i u e1
        obtain ⟨us', e2, rfl⟩ := Option.map_eq_some_iff.mp e
        obtain ⟨j, e3, e4⟩ := Option.bind_eq_some_iff.mp e1
        unfold idx at e3
        split at e3
        · rename_i hi
          intro k m
          rcases List.mem_cons.mp m with rfl | m
          · exact ⟨i, rfl, hi.1, hi.2.1, hi.2.2⟩
          · exact ih e2 k m
        · cases e3
      · cases e
    | _ => cases e

theorem comp_go {X : Ck} {L : Fm} {env : Env} {A : Around} {s : Shared} {φ : List Addr} {σ : AH} {Q : V → AH → Prop} {sc : Scope} {pn y : PySem.Str} {p1 p2 p3 : Pos} {c0 aL aK : Addr} {oc : Obj} {wL wK : Array Value} {mL mK : Nat} {xs ks us : List V} (hh : A.handled = none) (he : EnvOk A X L env) (ok : Ok G.C φ σ s.heap)
    (hkind : sc.kind = .function) (hnames : sc.names = [(PySem.Str.ofString ".0", .local), (pn, .local), (y, .free)]) (n1 : (pn == y) = false) (n2 : (y == PySem.Str.ofString ".0") = false) (n3 : (pn == PySem.Str.ofString ".0") = false) (n4 : (y == pn) = false)
    (hk : env.kindOf y = some .cell) (d1 : (pn == ("__debug__" : PySem.Str)) = false) (c2 : ckVar X y = true) (g1 : L.cl.lookup y = some c0) (g2 : s.heap.get? c0 = some oc) (g3 : oc.data = .cell (some (.ref aL))) (f3 : s.heap.get? aL = some (listOf wL mL)) (hs : wL.size = xs.length) (rl : RelL s.heap φ xs wL.toList)
    (k3 : s.heap.get? aK = some (listOf wK mK)) (hsk : wK.size = ks.length) (rk : RelL s.heap φ ks wK.toList) (e5 : pickV xs ks = some us) (hl : ks.length < 1000) (q : Q (.obj σ.length) (σ ++ [.list us])) :
    ∃ I fp wr n P St, Value.ref s.heap.objs.size = .ref I ∧ Walks G.C.prog G.C.w A I fp wr n P St ∧ n ≤ sizeLine ∧ St 0 (s.heap.push { cls := .type "list_iterator", data := .fields #[.ref aK, .int 0 0] }) ∧ (∀ b ∈ fp, b < (s.heap.push { cls := .type "list_iterator", data := .fields #[.ref aK, .int 0 0] }).objs.size) ∧
      QuietOnC G.C.prog G.C.w A env sc [(y, c0)] pn [] ((PySem.Expr.Name y p2).Subscript (.Name pn p3) p1) wr P (fun _ => true) (fun v u => ∃ (i : Int) (t : Tok), v = .int i t ∧ 0 ≤ i ∧ wL.toList[i.toNat]? = some u) { s with heap := s.heap.push { cls := .type "list_iterator", data := .fields #[.ref aK, .int 0 0] } } ∧
      (∀ D h' tk ys (vs : List Value), (s.heap.push { cls := .type "list_iterator", data := .fields #[.ref aK, .int 0 0] }).get? D = none → h'.IsList D ys → h'.PlainList D ys → vs.length = n → (∀ j v, vs[j]? = some v → P j v) → Paired (fun v u => ∃ (i : Int) (t : Tok), v = .int i t ∧ 0 ≤ i ∧ wL.toList[i.toNat]? = some u) (vs.filter fun _ => true) ys.toList →
        (∀ b o, b ∉ wr → (s.heap.push { cls := .type "list_iterator", data := .fields #[.ref aK, .int 0 0] }).get? b = some o → h'.get? b = some o) → Post G.C φ s Q (.ref D) { s with heap := h', toks := tk }) := by
  have hI := fresh_size s.heap
  have gI := Heap.get?_push_size s.heap (o := { cls := .type "list_iterator", data := .fields #[.ref aK, .int 0 0] }) rfl
  have k2 : ∀ b o, s.heap.get? b = some o → (s.heap.push { cls := .type "list_iterator", data := .fields #[.ref aK, .int 0 0] }).get? b = some o := fun b o e => Heap.get?_push_of_some _ e
  generalize (s.heap.push { cls := .type "list_iterator", data := .fields #[.ref aK, .int 0 0] }) = h2 at gI k2 ⊢
  have ne : ∀ {b o}, s.heap.get? b = some o → b ∉ [s.heap.objs.size] := fun e m => by
    rw [List.mem_singleton.mp m, hI] at e; cases e
  have hrel : sc.kind = .function ∧ (relabel sc env).kind = .function ∧ (relabel sc env).names = [(PySem.Str.ofString ".0", .local), (pn, .local), (y, .cell)] := by
    refine ⟨hkind, hkind, ?_⟩
    show List.map _ sc.names = _
    rw [hnames]
    have : (env.scope.kind == ScopeKind.function) = true := by rw [he.sc, he.kind]; rfl
    simp [this, hk]
  obtain ⟨-, r1, r2⟩ := hrel
  refine ⟨_, _, _, _, _, _, rfl, Walks.list hh s.heap.objs.size aK (fun z => by rw [z, hI] at k3; cases k3) wK, by rw [hsk, sizeLine_eq]; exact Om25 hsk hl, ⟨⟨_, gI, rfl, rfl⟩, PySem.IsL.isList (n := mK) (k2 _ _ k3)⟩, fun b m => ?_, ⟨fun C i v s₃ m₃ E' h1 h2 h3 h4 h5 h6 => ?_, fun C i v s₃ m₃ E' h1 hp hq h3 h4 h5 h6 => ?_⟩, fun D h' tk ys vs hD _ hpl hlen hP hF hkp => ?_⟩
  · simp only [List.mem_cons, List.not_mem_nil, or_false] at m
    rcases m with rfl | rfl
    · exact Heap.lt_size gI
    · exact Heap.lt_size (k2 _ _ k3)
  · exact wpAny_pure ⟨rfl, s₃.heap, s₃.toks, rfl, fun _ _ e => e⟩
  · have kc : ∀ {b o}, s.heap.get? b = some o → s₃.heap.get? b = some o := fun e => h5 _ _ (ne e) (k2 _ _ e)
    have d2 : (y == ("__debug__" : PySem.Str)) = false := by simpa using (Bool.and_eq_true_iff.mp c2).2
    refine Subscript_ (wpAny_Name (wpAny_loadName_cell (c := c0) (v := .ref aL) r1 (by show (relabel sc env).names.lookup y = _; rw [r2]; simp [List.lookup_cons, n2, n4]) (by show [(y, c0)].lookup y = _; simp) ⟨oc, kc g2, g3⟩ ?_) d2)
    refine wpAny_Name (wpAny_loadName_local (m := m₃) r1 (by show (relabel sc env).names.lookup pn = _; rw [r2]; simp [List.lookup_cons, n3]) h3 h4 ?_) d1
    have hi : i < ks.length := by rw [← hsk]; exact (Array.getElem?_eq_some_iff.mp hp).1
    obtain ⟨w, e1, e2⟩ := rk.get (List.getElem?_eq_getElem hi)
    rw [Array.getElem?_toList, hp] at e1
    cases e1
    obtain ⟨k, ek, b1, b2, b3⟩ := pick_in e5 _ (List.getElem_mem hi)
    rw [ek] at e2
    obtain ⟨t, rfl⟩ := e2
    have hx : wL[k.toNat]? = some wL[k.toNat] := Array.getElem?_eq_getElem (by exact Om26 hs b1 b2)
    exact tail_any (T := "list") ⟨_, kc f3, rfl⟩ PySem.F.slot_list_getitem.lookup (wpAny_getItem_list (PySem.IsL.isList (n := mL) (kc f3)) b1 (by omega) hx ⟨⟨k, t, rfl, b1, by rw [Array.getElem?_toList]; exact hx⟩, s₃.heap, s₃.toks, rfl, fun _ _ e => e⟩) rfl
  · have hv : vs = wK.toList := by
      refine List.ext_getElem? fun j => ?_
      by_cases z : j < vs.length
      · rw [List.getElem?_eq_getElem z, Array.getElem?_toList]
        exact (hP j _ (List.getElem?_eq_getElem z)).symm
      · rw [List.getElem?_eq_none (by exact Om1 z), List.getElem?_eq_none (by rw [Array.length_toList]; exact Om27 hsk hlen z)]
    subst hv
    rw [List.filter_eq_self.mpr fun _ _ => rfl] at hF
    have r := pick_paired rl rk e5 hF
    have keep : ∀ b o, s.heap.get? b = some o → h'.get? b = some o := fun b o e => hkp b o (ne e) (k2 b o e)
    have frD : s.heap.get? D = none := by
      cases z : s.heap.get? D with
      | none => rfl
      | some o => rw [k2 _ _ z] at hD; cases hD
    obtain ⟨nD, hpl⟩ := hpl
    have tk1 : TK s.heap h' := fun b ws' ⟨ob, e, c⟩ => ⟨ob, keep _ _ e, c⟩
    exact post_alloc (o := .list us) ok keep frD ⟨ys, nD, hpl, r.mono ⟨_, rfl⟩ tk1⟩ q

omit hG in
theorem comp_gs {X : Ck} {j : Nat} {pn : PySem.Str} : ∀ {gs : List Comprehension}, compG X j pn gs = true → ∃ px jn p4, gs = [⟨.Name pn px, .Name jn p4, [], 0⟩] ∧ (X.names[j]? == some jn) = true ∧ ckVar X jn = true
  | [], c => Bool.noConfusion (show false = true from c)
  | _ :: _ :: _, c => Bool.noConfusion (show false = true from c)
  | [⟨tg, it, ifs, isa⟩], c => by
    have b4 := and_r (show (onName tg (fun pn' _ => decide (pn' = pn)) && onName it (fun jn _ => X.names[j]? == some jn && ckVar X jn) && ifs.isEmpty && decide (isa = 0)) = true from c)
    have c := and_l (show (onName tg (fun pn' _ => decide (pn' = pn)) && onName it (fun jn _ => X.names[j]? == some jn && ckVar X jn) && ifs.isEmpty && decide (isa = 0)) = true from c)
    have b3 := and_r c
    have c := and_l c
    have b2 := and_r c
    have b1 := and_l c
    obtain rfl : isa = 0 := of_decide_eq_true b4
    obtain rfl : ifs = [] := List.isEmpty_iff.mp b3
    refine onName_elim (x := tg) b1 fun pn' px b1 => ?_
    obtain rfl := of_decide_eq_true b1
    refine onName_elim (x := it) b2 fun jn p4 b2 => ?_
    exact ⟨px, jn, p4, rfl, Bool.and_eq_true_iff.mp b2⟩
omit hG in
theorem comp_el {P : Prg} {i j : Nat} {ρ : En} {σ : AH} {Q : V → AH → Prop} (q : wE P cf (.comp i j) ρ σ Q) {C : Prop} (k : ∀ vc vl xs ks us, ρ i = some vc → ρ j = some vl → listAt σ vc = some xs → listAt σ vl = some ks → pickV xs ks = some us → ks.length < 1000 → Q (.obj σ.length) (σ ++ [.list us]) → C) : C := by
  rw [Zj] at q
  cases e1 : ρ i with
  | none => rw [e1] at q; exact q.elim
  | some vc =>
    rw [e1] at q
    cases e2 : ρ j with
    | none => rw [e2] at q; exact q.elim
    | some vl =>
      rw [e2] at q
      dsimp only at q
      cases e3 : listAt σ vc with
      | none => rw [e3] at q; exact q.elim
      | some xs =>
        rw [e3] at q
        cases e4 : listAt σ vl with
        | none => rw [e4] at q; exact q.elim
        | some ks =>
          rw [e4] at q
          dsimp only at q
          cases e5 : pickV xs ks with
          | none => rw [e5] at q; exact q.elim
          | some us =>
            rw [e5] at q
            by_cases hl : ks.length < 1000
            · exact k vc vl xs ks us e1 e2 e3 e4 e5 hl ((if_pos hl).mp q)
            · exact ((if_neg hl).mp q).elim
theorem sim_comp {i j : Nat} : SimE G cf n (.comp i j) := by
  refine sim_of (fun X x c => plain_tag (onListComp_tag c) rfl) fun X x c L env A he hA s φ σ ρ ok lo Q q => ?_
  refine onListComp_elim c fun e gs sc pos c => ?_
  refine onSubscript_elim c fun y z p1 c => ?_
  refine onName_elim c fun cn p2 c => ?_
  refine onName_elim c fun pn p3 c => ?_
  refine comp_el q fun vc vl xs ks us e1 e2 e3 e4 e5 hl q => ?_
  obtain ⟨px, jn, p4, rfl, b2, b5⟩ := comp_gs (all_at (l := compL X i j gs sc cn pn) (k := 0) c rfl)
  generalize hK : compL X i j _ sc cn pn = K at c
  have at' : ∀ {k b}, K[k]? = some b → b = true := fun e => all_at c e
  subst hK
  have hnames := of_decide_eq_true (at' (k := 5) rfl)
  have hkind := of_decide_eq_true (at' (k := 6) rfl)
  have ff : ∀ {b : Bool}, (!b) = true → b = false := fun h => by rwa [Bool.not_eq_true'] at h
  have n1 := ff (at' (k := 7) rfl)
  have n3 := ff (at' (k := 9) rfl)
  have n4 : (cn == pn) = false := by rw [beq_eq_false_iff_ne] at n1 ⊢; exact Ne.symm n1
  have hcell := beq_iff_eq.mp (at' (k := 3) rfl)
  obtain ⟨⟨m, hn, hm⟩, _⟩ := id lo
  obtain ⟨y, w, y1, y2, y3⟩ := hm i vc e1
  obtain rfl : y = cn := Option.some.inj (y1.symm.trans (beq_iff_eq.mp (at' (k := 1) rfl)))
  have y2 : ∃ c o, L.cl.lookup y = some c ∧ s.heap.get? c = some o ∧ o.data = .cell (some w) := by
    unfold Lies at y2; rw [hcell] at y2; exact y2
  obtain ⟨c0, oc, g1, g2, g3⟩ := y2
  obtain ⟨oL, aL, wL', mL, rfl, f1, rfl, f2, f3, rl, hs⟩ := listAt_some ok y3 e3
  have hclos : closureFor sc env = pure [(y, c0)] := by
    have hco : cellOf env y = pure c0 := by unfold cellOf; rw [he.cells, g1]
    unfold closureFor
    rw [hnames]
    simp [hco]
  have hk : env.kindOf y = some .cell := by unfold Env.kindOf; rw [he.sc]; exact hcell
  refine wpAny_ListComp_free (fun _ => true) (fun v y => ∃ (i : Int) (t : Tok), v = .int i t ∧ 0 ≤ i ∧ wL'.toList[i.toNat]? = some y) hclos (by rw [hnames]; intro z m hz; simp only [List.mem_cons, List.not_mem_nil, or_false] at m; rcases m with rfl | rfl | rfl <;> cases hz) hkind ?_ ?_ (name_loc he lo ok (beq_iff_eq.mp b2) b5 e2 fun w2 rw2 => ?_)
  · rw [hnames]
    intro z m hz
    simp only [List.mem_cons, List.not_mem_nil, or_false] at m
    rcases m with rfl | rfl | rfl
    · rfl
    · simp [List.lookup_cons, n3]
    · cases hz
  · rw [hnames]; simp [List.lookup_cons, n3]
  · obtain ⟨oK, aK, wK, mK, rfl, k1, rfl, k2, k3, rk, hsk⟩ := listAt_some ok rw2 e4
    refine wpAny_pyIter_list (PySem.IsL.isList (n := mK) k3) ?_
    exact comp_go hA.handled he ok hkind hnames n1 (ff (at' (k := 8) rfl)) n3 n4 hk (ff (at' (k := 4) rfl)) (c2 := at' (k := 2) rfl) g1 g2 g3 f3 hs rl k3 hsk rk e5 hl q

end

end Mine
end

/-! N11 -/
noncomputable section
set_option maxHeartbeats 200000
open PyProof.Rows PySem PySem.Calls PySem.W
namespace Mine

section
variable {G : Glo} (hG : GloOk G) {cf : Cf} {n : Nat}

theorem simL_nil : SimL G cf n .nil := by
  intro X xs c L env A he hA s φ σ ρ ok lo
  cases xs with
  | cons => exact Bool.noConfusion (show false = true from c)
  | nil =>
    refine ⟨fun pos Q q => Calls.spliced_nil ⟨φ, σ, [], .refl _ _ _, ok, rfl, ⟨rfl, q⟩, rfl, rfl⟩, fun pos op Q q => ?_, fun op R q => ?_⟩
    · exact (show False from q).elim
    · exact (show False from q).elim

theorem simL_cons {e : E} {es : EL} (ih : SimE G cf n e) (ih2 : SimL G cf n es) : SimL G cf n (.cons e es) := by
  intro X xs c L env A he hA s φ σ ρ ok lo
  cases xs with
  | nil => exact Bool.noConfusion (show false = true from c)
  | cons x xs =>
    have cc := c
    have c : (ckE G X e x && ckL G X es xs) = true := c
    have c2 := and_r c
    have c1 := and_l c
    have h := ih X x c1 L env A he hA s φ σ ρ ok lo
    refine ⟨fun pos Q q => ?_, fun pos op Q q => ?_, fun op R q => ?_⟩
    · have q : wE G.P cf e ρ σ fun v σ₁ => wL G.P cf es ρ σ₁ fun vs σ₂ => Q (v :: vs) σ₂ := q
      have e1 : backTo pos (starEach (x :: xs) env) = (false, eval x env) :: backTo pos (starEach xs env) := by rw [back_of env pos cc, back_of env pos c2]; rfl
      rw [e1]
      refine Calls.spliced_cons (wpAny_mono (h.1 _ q) (fun w s' p => ?_) fun _ _ z => z)
      refine p.elim fun φ' σ' v x1 x2 x3 x4 x5 x6 => ?_
      refine wpAny_mono ((ih2 X xs c2 L env A he hA s' φ' σ' ρ x2 (lo.ext ok x1)).1 pos _ x4) (fun ws s'' p => ?_) fun _ _ z => z
      refine p.elim fun φ'' σ'' vs y1 y2 y3 xq y5 y6 => ?_
      obtain ⟨y7, y4⟩ := xq
      exact ⟨φ'', σ'', v :: vs, x1.trans y1, y2, RelL.cons (x3.mono y1.pref (y1.tk x2 fun _ m => nomatch m)) y3, ⟨by rw [List.length_cons, List.length_cons, y7], y4⟩, y5.trans x5, y6.trans x6⟩
    · cases es with
      | nil =>
        cases xs with
        | cons => exact Bool.noConfusion (show false = true from c2)
        | nil => exact h.1 Q q
      | cons e' es' =>
        cases xs with
        | nil => exact Bool.noConfusion (show false = true from c2)
        | cons x' xs' =>
          have q : wE G.P cf e ρ σ fun v σ₁ => match v with | .bool b => (if b = (op == .And) then wB G.P cf (op == .And) (.cons e' es') ρ σ₁ Q else Q (.bool b) σ₁) | _ => False := q
          show wpAny (MM G) A (do
            let v ← eval x env
            standAt pos
            let t ← holding [v] (truthy v)
            match op, t with
            | .And, false | .Or, true => pure v
            | _, _ => boolOp pos op (evalEach (x' :: xs') env)) _ _ _
          refine wpAny_bind (wpAny_mono (h.1 _ q) (fun w s' p => ?_) fun _ _ z => z)
          refine p.elim fun φ' σ' v x1 x2 x3 x4 x5 x6 => ?_
          cases v with
          | bool b =>
            cases x3
            refine wpAny_bind (wpAny_standAt (wpAny_bind (wpAny_holding (wpAny_truthy_bool ?_))))
            have go : wB G.P cf (op == .And) (.cons e' es') ρ σ' Q → wpAny (MM G) A (boolOp pos op (evalEach (x' :: xs') env)) (Post G.C φ s Q) NR s' := fun q =>
              Post.back x1 x5 x6 ((ih2 X _ c2 L env A he hA s' φ' σ' ρ x2 (lo.ext ok x1)).2.1 pos op Q q)
            have stop : Q (.bool b) σ' → wpAny (MM G) A (pure (Value.bool b)) (Post G.C φ s Q) NR s' := fun q => wpAny_pure ⟨φ', σ', .bool b, x1, x2, rfl, q, x5, x6⟩
            dsimp only at x4
            cases op <;> cases b
            · exact stop (by simpa using x4)
            · exact go (by simpa using x4)
            · exact go (by simpa using x4)
            · exact stop (by simpa using x4)
          | _ => exact x4.elim
    · have fin : ∀ {b : Bool} {φ' : List Addr} {σ' : AH} {s' : Shared}, Ext [] φ s.heap φ' s'.heap → Ok G.C φ' σ' s'.heap → s'.gens = s.gens → s'.os = s.os → R b σ' → wpAny (MM G) A (pure b) (PostT G.C φ s R) NR s' :=
        fun x1 x2 x5 x6 q => wpAny_pure ⟨_, _, x1, x2, q, x5, x6⟩
      show wpAny (MM G) A (do
        match op, ← isTrue x env (eval x env) with
        | .And, false => pure false
        | .Or, true => pure true
        | _, _ => allTrue op xs env) _ _ _
      cases es with
      | nil =>
        cases xs with
        | cons => exact Bool.noConfusion (show false = true from c2)
        | nil =>
          refine wpAny_bind (wpAny_mono (h.2 R q) (fun b s' p => ?_) fun _ _ z => z)
          refine p.elim fun φ' σ' x1 x2 x4 x5 x6 => ?_
          cases op <;> cases b <;> exact fin x1 x2 x5 x6 x4
      | cons e' es' =>
        have q : wE G.P cf e ρ σ fun v σ₁ => match v with | .bool b => (if b = (op == .And) then wB G.P cf (op == .And) (.cons e' es') ρ σ₁ (fun v σ' => match v with | .bool b => R b σ' | _ => False) else R b σ₁) | _ => False := q
        refine wpAny_bind (wpAny_mono (h.2 (fun b σ₁ => if b = (op == .And) then wB G.P cf (op == .And) (.cons e' es') ρ σ₁ (fun v σ' => match v with | .bool b => R b σ' | _ => False) else R b σ₁) q) (fun b s' p => ?_) fun _ _ z => z)
        refine p.elim fun φ' σ' x1 x2 x4 x5 x6 => ?_
        have go : wB G.P cf (op == .And) (.cons e' es') ρ σ' (fun v σ' => match v with | .bool b => R b σ' | _ => False) → wpAny (MM G) A (allTrue op xs env) (PostT G.C φ s R) NR s' := fun q =>
          wpAny_mono ((ih2 X _ c2 L env A he hA s' φ' σ' ρ x2 (lo.ext ok x1)).2.2 op R q) (fun _ _ ⟨φ'', σ'', y1, y2, y4, y5, y6⟩ => ⟨φ'', σ'', x1.trans y1, y2, y4, y5.trans x5, y6.trans x6⟩) fun _ _ z => z
        cases op <;> cases b
        · exact fin x1 x2 x5 x6 (by simpa using x4)
        · exact go (by simpa using x4)
        · exact go (by simpa using x4)
        · exact fin x1 x2 x5 x6 (by simpa using x4)

theorem PostX.no {C : Cx} {φ : List Addr} {s s' : Shared} {e : Value} (p : PostX C φ s noX e s') : False := p.elim fun _ p => p.elim fun _ p => p.elim fun _ p => p.elim fun _ p => p.2.2.2.2.2.2.2.1
theorem call_cf {A : Around} (hcf : SimCf G cf n) (hA : AOk A n) {fs : List Env} (hf : A.frames = some fs) {f : Nat} {vs : List V} {σ : AH} {Q : V → AH → Prop} {R : AH → Prop} {s : Shared} {φ : List Addr} {ws : List Value} (fr : FrOk G.C.hB fs φ s.heap) (q : cf f vs σ Q R) (ok : Ok G.C φ σ s.heap) (r : RelL s.heap φ vs ws)
    {E : Value → Shared → Prop} (hE : ∀ e s', PostX G.C φ s R e s' → E e s') : wpAny (MM G) A (call (.ref (G.faddr f)) ws) (Post G.C φ s Q) E s := by
  refine wpAny_call (codeAny_mono (hcf f vs σ Q R q A hA fs hf s φ ws fr ok r) fun r s' z => ?_)
  cases r with
  | error e => exact hE e s' z
  | ok fl => cases fl <;> exact z

include hG in
theorem sim_callF (hcf : SimCf G cf n) {f : Nat} {es : EL} (ih : SimL G cf n es) : SimE G cf n (.callF f es) := by
  refine sim_of (fun X x c => plain_tag (onCall_tag c) rfl) fun X x c L env A he hA s φ σ ρ ok lo Q q => ?_
  refine onCall_elim c fun g xs kws pos c => ?_
  have c0 := and_l c
  have c := and_r c
  obtain rfl := List.isEmpty_iff.mp c0
  refine onName_elim c fun y p c => ?_
  have c : (G.fname f == some y && ckName X .globalImplicit y && ckL G X es xs && decide (xs.length ≤ 20)) = true := c
  have c4 := and_r c
  have c := and_l c
  have c3 := and_r c
  have c := and_l c
  have c2 := and_r c
  have c1 := and_l c
  obtain ⟨e1, e2⟩ := hG.fn f y (beq_iff_eq.mp c1)
  have q : wL G.P cf es ρ σ fun vs σ' => cf f vs σ' Q noX := q
  refine wpAny_Call_Name_kw (name_glob hG ok.base he c2 e1 ?_)
  refine callW (P := G.C.K.In) (back_all env pos c3) (keeps_K e2) (wpAny_mono ((ih X xs c3 L env A he hA s φ σ ρ ok lo).1 pos _ q) (fun ws s' p => ?_) fun _ _ z => z)
  refine p.elim fun φ' σ' vs x1 x2 x3 xq x5 x6 => ?_
  obtain ⟨x7, x4⟩ := xq
  exact ⟨hG.hK.keeps x2.base, Post.back x1 x5 x6 (call_cf hcf hA.less he.fs (lo.fr.ext x1) x4 x2 x3 fun _ _ p => p.no)⟩

set_option tactic.hygienic true in
theorem instOf_some {s : Shared} {φ : List Addr} {σ : AH} {v : V} {w : Value} {c : Nat} (ok : Ok G.C φ σ s.heap) (rv : Rel s.heap φ v w) (e : instOf σ v = some c) : ∃ i d fs a, v = .obj i ∧ w = .ref a ∧ σ[d]? = some (.ns fs) ∧ ObjRel G.C s.heap φ a (.inst c d) := by
  cases v with
  | obj i =>
    simp only [instOf] at e
    split at e
    · rename_i c' d e1
      split at e
      · rename_i fs e2
        cases e
        obtain ⟨a, rfl, ea, z⟩ := rel_obj ok rv e1
        exact ⟨i, d, fs, a, rfl, rfl, e2, z⟩
      · cases e
    · cases e
  | _ => cases e

theorem PostX.back {C : Cx} {φ φ₁ : List Addr} {s s₁ : Shared} {R : AH → Prop} {e : Value} {s' : Shared} (x : Ext [] φ s.heap φ₁ s₁.heap) (g : s₁.gens = s.gens) (o : s₁.os = s.os) (p : PostX C φ₁ s₁ R e s') : PostX C φ s R e s' := by
  obtain ⟨i, a, φ', σ', h1, h2, h3, h4, h5, h6, ⟨oe, vs, t, T, oT, ts, k1, k2, k3, k4, k5, k6, k7, k8, k9⟩, h8, h9, h10⟩ := p
  refine ⟨i, a, φ', σ', h1, h2, h3, h4, x.trans h5, h6, ⟨oe, vs, t, T, oT, ts, k1, k2, k3, k4, k5, k6, k7, ?_, k9⟩, h8, h9.trans g, h10.trans o⟩
  cases q : s.heap.get? T with
  | none => rfl
  | some ob => exact absurd k8 (x.alive (by rw [q]; exact fun h => nomatch h))

include hG in
set_option tactic.hygienic true in
/-- a method's call, which may raise -/
theorem callM_gen (hcf : SimCf G cf n) {m : Nat} {e : E} {es : EL} (ih : SimE G cf n e) (ih2 : SimL G cf n es) {X : Ck} {x : PySem.Expr} (c : ckE G X (.callM m e es) x = true) {L : Fm} {env : Env} {A : Around} (he : EnvOk A X L env) (hA : AOk A (n + 1)) {s : Shared} {φ : List Addr} {σ : AH} {ρ : En} (ok : Ok G.C φ σ s.heap) (lo : Loc G.C.hB X ρ φ s.heap L)
    {Q : V → AH → Prop} {R : AH → Prop} (q : wE G.P cf e ρ σ fun v σ₁ => match instOf σ₁ v with | some c => (match G.P.meth c m with | some f => wL G.P cf es ρ σ₁ fun vs σ₂ => cf f (v :: vs) σ₂ Q R | none => False) | none => False) {E : Value → Shared → Prop} (hE : ∀ e s', PostX G.C φ s R e s' → E e s') :
    wpAny (MM G) A (eval x env) (Post G.C φ s Q) E s := by
  refine onCall_elim c fun g xs kws pos c => ?_
  have c0 := and_l c
  have c := and_r c
  obtain rfl := List.isEmpty_iff.mp c0
  refine onAttribute_elim c fun x y p c => ?_
  have c : (ckE G X e x && G.mname m == some y && ckL G X es xs && decide (xs.length ≤ 20) && notCall x && (p.endLine == pos.line)) = true := c
  have c6 := and_r c
  have c := and_l c
  have c5 := and_r c
  have c := and_l c
  have c4 := and_r c
  have c := and_l c
  have c3 := and_r c
  have c := and_l c
  have c2 := and_r c
  have c1 := and_l c
  refine Call_at c5 (back_all env pos c3) (of_decide_eq_true c4) c6 (wpAny_mono ((ih X x c1 L env A he hA s φ σ ρ ok lo).1 _ q) (fun w s' p pl => ?_) fun _ _ z => z.elim)
  refine p.elim fun φ' σ' v x1 x2 x3 x4 x5 x6 => ?_
  split at x4
  · rename_i cl e1
    split at x4
    · rename_i f e2
      obtain ⟨i, d, fs, a, rfl, rfl, e3, z⟩ := instOf_some x2 x3 e1
      obtain ⟨hc, da, od, mm, ed, I, hn, hl, h1, h2, lt⟩ := inst_at x2 z e3
      obtain ⟨g1, g2, g3, g4, g5⟩ := hG.meth cl m f y e2 (beq_iff_eq.mp c2)
      obtain ⟨p1, p2⟩ := plainGet_of g1
      have hs : shadowIn (some od) y = some false := by
        show (lookIn y od).map (·.isSome) = some false
        rw [hl y]
        cases hm : mm y with
        | none => rfl
        | some w =>
          obtain ⟨j, u, b1, b2⟩ := h2 y w hm
          exact absurd (by rw [b2]; unfold attrName; rw [List.getD_eq_getElem?_getD, List.getElem?_eq_getElem (lt j u b1)]; exact List.getElem_mem (lt j u b1)) g5
      refine method_fn (hG.hK.keeps x2.base) I p1 p2 g2 (beq_iff_eq.mp g3) hs ?_
      refine callW (P := G.C.K.In) (back_all env pos c3) (keeps_K g4) (wpAny_mono ((ih2 X xs c3 L env A he hA s' φ' σ' ρ x2 (lo.ext ok x1)).1 pos _ x4) (fun ws s'' p => ?_) fun _ _ z => z.elim)
      refine p.elim fun φ'' σ'' vs y1 y2 y3 xq y5 y6 => ?_
      obtain ⟨y7, y4⟩ := xq
      have x3' := x3.mono y1.pref (y1.tk x2 fun _ m => nomatch m)
      exact ⟨hG.hK.keeps y2.base, wpAny_mono (call_cf hcf hA.less he.fs ((lo.fr.ext x1).ext y1) y4 y2 (RelL.cons x3' y3) fun e s' p => hE e s' (p.back (x1.trans y1) (y5.trans x5) (y6.trans x6))) (fun _ _ p => p.trans (x1.trans y1) (y5.trans x5) (y6.trans x6)) fun _ _ z => z⟩
    · exact x4.elim
  · exact x4.elim

include hG in
theorem sim_callM (hcf : SimCf G cf n) {m : Nat} {e : E} {es : EL} (ih : SimE G cf n e) (ih2 : SimL G cf n es) : SimE G cf n (.callM m e es) :=
  sim_of (fun X x c => plain_tag (onCall_tag c) rfl) fun X x c L env A he hA s φ σ ρ ok lo Q q => callM_gen hG hcf ih ih2 c he hA ok lo q fun _ _ p => p.no

include hG in
theorem make_op {A : Around} (hA : AOk A (n + 1)) {fs : List Env} (hf : A.frames = some fs) (hcf : SimCf G cf n) {c f : Nat} {vs : List V} {ws : List Value} {s : Shared} {φ : List Addr} {σ : AH} {Q : V → AH → Prop} (hi : G.P.init c = some f) (fr : FrOk G.C.hB fs φ s.heap) (ok : Ok G.C φ σ s.heap) (r : RelL s.heap φ vs ws)
    (q : cf f (.obj (σ.length + 1) :: vs) (σ ++ [.ns []] ++ [.inst c σ.length]) (fun v σ'' => v = .none ∧ Q (.obj (σ.length + 1)) σ'') noX) : wpAny (MM G) A (call (.ref (G.C.cls c)) ws) (Post G.C φ s Q) NR s := by
  obtain ⟨g1, g2, g3, g4⟩ := hG.init c f hi
  have X := hG.hK.keeps ok.base
  obtain ⟨h, g, d, t, os⟩ := s
  have hg1 : (h.push emptyDict).get? h.objs.size = some emptyDict := Heap.get?_push_size _ rfl
  obtain ⟨a1, a2⟩ := alloc_gen (C := G.C) (φ := φ) (σ := σ) (h' := h.push emptyDict) (a := h.objs.size) (o := .ns []) ok (fun b ob e => Heap.get?_push_of_some _ e) (fresh_size h)
    ⟨⟨fun _ => none, Heap.Ns1.of_empty ⟨_, #[], _, hg1, rfl, fun e he => absurd he (by simp), fun _ => rfl⟩, fun i v e => by simp at e, fun x w e => by cases e⟩, fun i v e => by simp at e⟩
  have hsz : (h.push emptyDict).objs.size = h.objs.size + 1 := Heap.size_push ..
  have hg2 : ((h.push emptyDict).push (instObj (G.C.cls c) h.objs.size)).get? (h.push emptyDict).objs.size = some (instObj (G.C.cls c) h.objs.size) := Heap.get?_push_size _ rfl
  obtain ⟨b1, b2⟩ := alloc_gen (C := G.C) (φ := φ ++ [h.objs.size]) (σ := σ ++ [.ns []]) (h' := (h.push emptyDict).push (instObj (G.C.cls c) h.objs.size)) (a := (h.push emptyDict).objs.size) (o := .inst c σ.length) a2 (fun b ob e => Heap.get?_push_of_some _ e) (fresh_size _)
    ⟨g1, h.objs.size, by rw [← ok.len]; simp, hg2⟩
  refine wpAny_call (make_core (makes_of X g2) (looks_findIn X g3) (fun self => bind_fn X self (beq_iff_eq.mp g4)) (.inl rfl) ?_)
  have t1 : TK h ((h.push emptyDict).push (instObj (G.C.cls c) h.objs.size)) := fun b ws' ⟨ob, e, z⟩ => ⟨ob, Heap.get?_push_of_some _ (Heap.get?_push_of_some _ e), z⟩
  have r' : RelL ((h.push emptyDict).push (instObj (G.C.cls c) h.objs.size)) (φ ++ [h.objs.size] ++ [(h.push emptyDict).objs.size]) (.obj (σ.length + 1) :: vs) (.ref (h.objs.size + 1) :: ws) :=
    RelL.cons ⟨h.objs.size + 1, by rw [← ok.len, hsz]; simp, rfl⟩ (r.mono ⟨[h.objs.size] ++ [(h.push emptyDict).objs.size], by rw [List.append_assoc]⟩ t1)
  refine codeAny_mono (hcf f _ _ _ _ q _ (hA.under _ _ _) fs hf ⟨(h.push emptyDict).push (instObj (G.C.cls c) h.objs.size), g, d, t, os⟩ _ _ (fr.ext (a1.trans b1)) b2 r') fun r s' z => ?_
  cases r with
  | error e => exact (PostX.no z).elim
  | ok fl =>
    cases fl with
    | ret w =>
      obtain ⟨φ', σ', v, x1, x2, x3, ⟨rfl, x4⟩, x5, x6⟩ := z
      refine ⟨x3, φ', σ', .obj (σ.length + 1), (a1.trans b1).trans x1, x2, ⟨h.objs.size + 1, ?_, rfl⟩, x4, x5, x6⟩
      exact prefix_get x1.pref (by rw [← ok.len, hsz]; simp)
    | _ => exact z

set_option tactic.hygienic true in
include hG in
theorem sim_new (hcf : SimCf G cf n) {cl : Nat} {es : EL} (ih : SimL G cf n es) : SimE G cf n (.new cl es) := by
  refine sim_of (fun X x c => plain_tag (onCall_tag c) rfl) fun X x c L env A he hA s φ σ ρ ok lo Q q => ?_
  refine onCall_elim c fun g xs kws pos c => ?_
  have c0 := and_l c
  have c := and_r c
  obtain rfl := List.isEmpty_iff.mp c0
  refine onName_elim c fun y p c => ?_
  have c : (G.cname cl == some y && ckName X .globalImplicit y && ckL G X es xs && decide (xs.length ≤ 20)) = true := c
  have c4 := and_r c
  have c := and_l c
  have c3 := and_r c
  have c := and_l c
  have c2 := and_r c
  have c1 := and_l c
  obtain ⟨e1, e2⟩ := hG.cn cl y (beq_iff_eq.mp c1)
  have q : wL G.P cf es ρ σ fun vs σ' => match G.P.init cl with | some f => cf f (.obj (σ'.length + 1) :: vs) (σ' ++ [.ns []] ++ [.inst cl σ'.length]) (fun v σ'' => v = .none ∧ Q (.obj (σ'.length + 1)) σ'') noX | none => False := q
  refine wpAny_Call_Name_kw (name_glob hG ok.base he c2 e1 ?_)
  refine callW (P := G.C.K.In) (back_all env pos c3) (keeps_K e2) (wpAny_mono ((ih X xs c3 L env A he hA s φ σ ρ ok lo).1 pos _ q) (fun ws s' p => ?_) fun _ _ z => z)
  refine p.elim fun φ' σ' vs x1 x2 x3 xq x5 x6 => ?_
  obtain ⟨x7, x4⟩ := xq
  split at x4
  · rename_i f e3
    exact ⟨hG.hK.keeps x2.base, Post.back x1 x5 x6 (make_op hG hA he.fs hcf e3 (lo.fr.ext x1) x2 x3 x4)⟩
  · exact x4.elim

set_option tactic.hygienic true in
include hG in
theorem sim_blt {b : Nat} {es : EL} (ih : SimL G cf n es) : SimE G cf n (.blt b es) := by
  refine sim_of (fun X x c => plain_tag (onCall_tag c) rfl) fun X x c L env A he hA s φ σ ρ ok lo Q q => ?_
  refine onCall_elim c fun g xs kws pos c => ?_
  have c0 := and_l c
  have c := and_r c
  obtain rfl := List.isEmpty_iff.mp c0
  refine onName_elim c fun y p c => ?_
  have c : ((bltNames.map PySem.Str.ofString)[b]? == some y && ckName X .globalImplicit y && ckL G X es xs && decide (xs.length ≤ 20)) = true := c
  have c4 := and_r c
  have c := and_l c
  have c3 := and_r c
  have c := and_l c
  have c2 := and_r c
  have c1 := and_l c
  have c9 := beq_iff_eq.mp c1
  rw [List.getElem?_map, Option.map_eq_some_iff] at c9
  obtain ⟨nm, c8, rfl⟩ := c9
  obtain ⟨e1, e2⟩ := hG.bi b nm c8
  have q : wL G.P cf es ρ σ fun vs σ' => match bltV σ' b vs with | some (v, σ'') => Q v σ'' | none => False := q
  refine wpAny_Call_Name_kw (name_blt hG ok.base he c2 e1 e2 ?_)
  refine callW (P := fun _ => True) (back_all env pos c3) (machine_keeps (by intro a; unfold bltVal; split <;> exact fun h => nomatch h)) (wpAny_mono ((ih X xs c3 L env A he hA s φ σ ρ ok lo).1 pos _ q) (fun ws s' p => ?_) fun _ _ z => z)
  refine p.elim fun φ' σ' vs x1 x2 x3 xq x5 x6 => ?_
  obtain ⟨x7, x4⟩ := xq
  split at x4
  · rename_i v σ'' e3
    exact ⟨trivial, Post.back x1 x5 x6 (blt_op hG rfl x2 x3 e3 x4)⟩
  · exact x4.elim

set_option tactic.hygienic true in
include hG in
theorem sim_meth {k : Nat} {e : E} {es : EL} (ih : SimE G cf n e) (ih2 : SimL G cf n es) : SimE G cf n (.meth k e es) := by
  refine sim_of (fun X x c => plain_tag (onCall_tag c) rfl) fun X x c L env A he hA s φ σ ρ ok lo Q q => ?_
  refine onCall_elim c fun g xs kws pos c => ?_
  have c0 := and_l c
  have c := and_r c
  obtain rfl := List.isEmpty_iff.mp c0
  refine onAttribute_elim c fun x y p c => ?_
  have c : (ckE G X e x && (methId k).map PySem.Str.ofString == some y && ckL G X es xs && decide (xs.length ≤ 20) && notCall x && (p.endLine == pos.line)) = true := c
  have c6 := and_r c
  have c := and_l c
  have c5 := and_r c
  have c := and_l c
  have c4 := and_r c
  have c := and_l c
  have c3 := and_r c
  have c := and_l c
  have c2 := and_r c
  have c1 := and_l c
  have q : wE G.P cf e ρ σ fun v σ₁ => methOk σ₁ k v = true ∧ wL G.P cf es ρ σ₁ fun vs σ₂ => match methV σ₂ k v vs with | some (u, σ₃) => Q u σ₃ | none => False := q
  refine Call_at c5 (back_all env pos c3) (of_decide_eq_true c4) c6 (wpAny_mono ((ih X x c1 L env A he hA s φ σ ρ ok lo).1 _ q) (fun w s' p pl => ?_) fun _ _ z => z)
  refine p.elim fun φ' σ' v x1 x2 x3 xq x5 x6 => ?_
  obtain ⟨e1, x4⟩ := xq
  refine getm_op x2 x3 e1 (beq_iff_eq.mp c2) ?_
  refine callW (P := fun _ => True) (back_all env pos c3) (machine_keeps (fun a h => nomatch h)) (wpAny_mono ((ih2 X xs c3 L env A he hA s' φ' σ' ρ x2 (lo.ext ok x1)).1 pos _ x4) (fun ws s'' p => ?_) fun _ _ z => z)
  refine p.elim fun φ'' σ'' vs y1 y2 y3 xq y5 y6 => ?_
  obtain ⟨y7, y4⟩ := xq
  have x3' := x3.mono y1.pref (y1.tk x2 fun _ m => nomatch m)
  split at y4
  · rename_i u σ₃ e3
    exact ⟨trivial, Post.back (x1.trans y1) (y5.trans x5) (y6.trans x6) (meth_op hG hA y2 x3' y3 e3 y4)⟩
  · exact y4.elim

include hG in
theorem newX_op {A : Around} (hA : AOk A (n + 1)) {fs : List Env} (hf : A.frames = some fs) (hcf : SimCf G cf n) {vs : List V} {ws : List Value} {s : Shared} {φ : List Addr} {σ : AH} {Q : V → AH → Prop} (fr : FrOk G.C.hB fs φ s.heap) (ok : Ok G.C φ σ s.heap) (r : RelL s.heap φ vs ws) (hl : ws.length ≤ 1000)
    (q : cf G.P.xinit (.obj σ.length :: vs) (σ ++ [.exc 0]) (fun v σ'' => v = .none ∧ Q (.obj σ.length) σ'') noX) : wpAny (MM G) A (call (.ref G.C.exc) ws) (Post G.C φ s Q) NR s := by
  obtain ⟨nm, q1, N, bs, bm, hdct, sn, sub, ab, col, dd, k0, k1, k2, k3, k5, mN, hC, hN, hi, T⟩ := hG.xc.cls
  obtain ⟨oI, ho, hfc⟩ := hG.xc.fn
  obtain ⟨h, g, d, t, os⟩ := s
  refine exc_make (PySem.F.excBase_Exception) (T.keeps ok.base) (ok.base _ _ hC) (hN.keeps ok.base) hi (ok.base _ _ ho) hfc (by rw [sizeLine_eq]; exact Om28 hl) fun h' e M => ?_
  obtain ⟨t', m1, m2, m3⟩ := M.there
  obtain ⟨a1, a2⟩ := alloc_gen (C := G.C) (φ := φ) (σ := σ) (h' := h') (a := e) (o := .exc 0) ok M.keeps M.new ⟨_, t', _, m1, rfl, rfl, rfl, fun _ => rfl, fun _ => rfl⟩
  have t1 : TK h h' := fun b ws' ⟨ob, e, z⟩ => ⟨ob, M.keeps _ _ e, z⟩
  refine wpAny_mono (call_cf hcf (hA.under _ _ _) (fs := fs) hf (s := ⟨h', g, d, t, os⟩) (fr.ext a1) q a2 (RelL.cons ⟨e, by rw [← ok.len]; simp, rfl⟩ (r.mono a1.pref t1)) fun _ _ p => (PostX.no p).elim) (fun w s' p => ?_) fun _ _ z => z
  refine p.elim fun φ' σ' v x1 x2 x3 x4 x5 x6 => ?_
  obtain ⟨rfl, x4⟩ := x4
  exact ⟨x3, φ', σ', .obj σ.length, a1.trans x1, x2, ⟨e, prefix_get x1.pref (by rw [← ok.len]; simp), rfl⟩, x4, x5, x6⟩

include hG in
theorem sim_newX (hcf : SimCf G cf n) {es : EL} (ih : SimL G cf n es) : SimE G cf n (.newX es) := by
  refine sim_of (fun X x c => plain_tag (onCall_tag c) rfl) fun X x c L env A he hA s φ σ ρ ok lo Q q => ?_
  refine onCall_elim c fun g xs kws pos c => ?_
  have c0 := and_l c
  have c := and_r c
  obtain rfl := List.isEmpty_iff.mp c0
  refine onName_elim c fun y p c => ?_
  have c4 := and_r c
  have c := and_l c
  have c3 := and_r c
  have c := and_l c
  have c2 := and_r c
  have c1 := and_l c
  obtain rfl := beq_iff_eq.mp c1
  obtain ⟨e1, e2⟩ := hG.xn
  refine wpAny_Call_Name_kw (name_glob hG ok.base he c2 e1 ?_)
  refine callW (P := G.C.K.In) (back_all env pos c3) (keeps_K e2) (wpAny_mono ((ih X xs c3 L env A he hA s φ σ ρ ok lo).1 pos _ q) (fun ws s' p => ?_) fun _ _ z => z)
  refine p.elim fun φ' σ' vs x1 x2 x3 xq x5 x6 => ?_
  obtain ⟨x7, x4⟩ := xq
  exact ⟨hG.hK.keeps x2.base, Post.back x1 x5 x6 (newX_op hG hA he.fs hcf (lo.fr.ext x1) x2 x3 (by have := of_decide_eq_true c4; show ws.length ≤ 1000; rw [x3.length, x7]; exact Om29 x7 this) x4)⟩

theorem sim_isNone {e : E} (ih : SimE G cf n e) : SimE G cf n (.isNone e) := by
  intro X x c L env A he hA s φ σ ρ ok lo
  refine onCompare_elim c fun x os ys pos c => ?_
  rcases os with _ | ⟨o, _ | ⟨_, _⟩⟩
  · exact Bool.noConfusion (show false = true from c)
  · cases o with
    | Is =>
      rcases ys with _ | ⟨y, _ | ⟨_, _⟩⟩
      · exact Bool.noConfusion (show false = true from c)
      · have c2 := and_r c
        have c1 := and_l c
        refine onConstant_elim c2 fun k kd p c3 => ?_
        cases k with
        | none =>
          have key : ∀ Q, wE G.P cf (.isNone e) ρ σ Q → wpAny (MM G) A (eval x env) (fun wa s₁ => wpAny (MM G) A (eval (.Constant .none kd p) env) (fun wb s₂ => wpAny (MM G) A (compareOp .Is wa wb) (Post G.C φ s Q) NR s₂) NR s₁) NR s := by
            intro Q q
            have q : wE G.P cf e ρ σ fun v σ' => match noneV v with | some b => Q (.bool b) σ' | none => False := q
            refine wpAny_mono ((ih X x c1 L env A he hA s φ σ ρ ok lo).1 _ q) (fun w s' p => ?_) fun _ _ z => z
            refine p.elim fun φ' σ' v x1 x2 x3 x4 x5 x6 => wpAny_Constant_none ?_
            cases v with
            | none =>
              cases x3
              exact PyProof.Rows.is_none_gen ⟨φ', σ', .bool true, x1, x2, rfl, x4, x5, x6⟩
            | tup vs =>
              obtain ⟨a, ws, rfl, _⟩ := x3
              exact PyProof.Rows.is_none_gen ⟨φ', σ', .bool false, x1, x2, rfl, x4, x5, x6⟩
            | _ => exact x4.elim
          refine ⟨fun Q q => wpAny_Compare1 (key Q q) rfl, fun R q => ?_⟩
          rw [isTrue_Compare1]
          refine wpAny_bind (wpAny_mono (key _ q) (fun wa s₁ h₁ => wpAny_bind (wpAny_holding (wpAny_mono h₁ (fun wb s₂ h₂ => wpAny_bind (wpAny_standAt (wpAny_bind (wpAny_operating (wpAny_mono h₂ (fun r s₃ p => ?_) fun _ _ z => z))))) fun _ _ z => z))) fun _ _ z => z)
          refine p.elim fun φ' σ' v x1 x2 x3 x4 x5 x6 => ?_
          cases v with
          | bool b =>
            cases x3
            exact wpAny_holding (wpAny_truthy_bool ⟨φ', σ', x1, x2, x4, x5, x6⟩)
          | _ => exact x4.elim
        | _ => exact Bool.noConfusion (show false = true from c3)
      · exact Bool.noConfusion (show false = true from c)
    | _ => exact Bool.noConfusion (show false = true from c)
  · cases o <;> exact Bool.noConfusion (show false = true from c)

include hG in
theorem sim_isStr {e : E} (ih : SimE G cf n e) : SimE G cf n (.isStr e) := by
  refine sim_of (fun X x c => plain_tag (onCall_tag c) rfl) fun X x c L env A he hA s φ σ ρ ok lo Q q => ?_
  refine onCall_elim c fun g xs kws pos c => ?_
  have c0 := and_l c
  have c := and_r c
  obtain rfl := List.isEmpty_iff.mp c0
  refine onName_elim c fun y p c => ?_
  have c3 := and_r c
  have c := and_l c
  have c2 := and_r c
  have c1 := and_l c
  obtain rfl := beq_iff_eq.mp c1
  rcases xs with _ | ⟨x1, _ | ⟨x2, _ | ⟨_, _⟩⟩⟩
  · exact Bool.noConfusion (show false = true from c3)
  · exact Bool.noConfusion (show false = true from c3)
  · have c5 := and_r c3
    have c4 := and_l c3
    refine onName_elim c5 fun z p2 c => ?_
    have c7 := and_r c
    have c6 := and_l c
    obtain rfl := beq_iff_eq.mp c6
    obtain ⟨e1, e2⟩ := hG.bi 7 "isinstance" rfl
    obtain ⟨e3, e4⟩ := hG.bi 8 "str" rfl
    have q : wE G.P cf e ρ σ fun v σ' => match strV v with | some b => Q (.bool b) σ' | none => False := q
    refine wpAny_Call_Name_kw (name_blt hG ok.base he c2 e1 e2 ?_)
    have hst : backTo pos (starEach [x1, .Name (PySem.Str.ofString "str") p2] env) = [(false, eval x1 env), (false, eval (.Name (PySem.Str.ofString "str") p2) env)] := by
      rw [star_one (ckE_ix c4), star_one (x := .Name (PySem.Str.ofString "str") p2) rfl]; rfl
    rw [hst]
    refine callW (P := fun _ => True) rfl (machine_keeps (fun a h => nomatch h)) (Calls.spliced_cons (wpAny_mono ((ih X x1 c4 L env A he hA s φ σ ρ ok lo).1 _ q) (fun w s' p => ?_) fun _ _ z => z))
    refine p.elim fun φ' σ' v x1 x2 x3 x4 x5 x6 => ?_
    refine Calls.spliced_cons (name_blt hG x2.base he c7 e3 e4 (Calls.spliced_nil ⟨trivial, ?_⟩))
    cases v with
    | str t =>
      obtain ⟨tk, rfl⟩ := x3
      exact PySem.IsiPair.str_str ⟨φ', σ', .bool true, x1, x2, rfl, x4, x5, x6⟩
    | _ => exact x4.elim
  · exact Bool.noConfusion (show false = true from c3)

theorem sim_pow : SimE G cf n .pow := by
  refine sim_of (fun X x c => plain_tag (onBinOp_tag c) rfl) fun X x c L env A he hA s φ σ ρ ok lo Q q => ?_
  refine onBinOp_elim c fun x o y pos c => ?_
  have c3 := and_r c
  have c := and_l c
  have c2 := and_r c
  have c1 := and_l c
  cases o with
  | Pow =>
    refine onConstant_elim c2 fun k kd p c2 => ?_
    cases k with
    | int i =>
      obtain rfl := of_decide_eq_true c2
      refine onConstant_elim c3 fun k kd' p' c3 => ?_
      cases k with
      | int j =>
        obtain rfl := of_decide_eq_true c3
        refine wpAny_BinOp (wpAny_Constant_int (wpAny_Constant_int ?_))
        exact PySem.AutoIntOps.pow_4 (by decide) (by decide) (by decide) (by decide) (by decide +kernel) (post_now (s := s) ok (v := .int (10 ^ 20)) ⟨_, rfl⟩ q)
      | _ => exact Bool.noConfusion (show false = true from c3)
    | _ => exact Bool.noConfusion (show false = true from c2)
  | _ => exact Bool.noConfusion (show false = true from c1)

set_option tactic.hygienic true in
theorem sim_slFrom {i j : Nat} : SimE G cf n (.slFrom i j) := by
  refine sim_of (fun X x c => plain_tag (onSubscript_tag c) rfl) fun X x c L env A he hA s φ σ ρ ok lo Q q => ?_
  refine onSubscript_elim c fun y z pos c => ?_
  have c2 := and_r c
  have c1 := and_l c
  refine onName_elim c1 fun nm np c1 => ?_
  have d2 := and_r c1
  have d1 := and_l c1
  refine onSlice_elim c2 fun lo' up st p2 c3 => ?_
  have c6 := and_r c3
  have c3 := and_l c3
  have c5 := and_r c3
  have c4 := and_l c3
  cases Option.isNone_iff_eq_none.mp c4
  cases Option.isNone_iff_eq_none.mp c5
  cases lo' with
  | none => exact Bool.noConfusion (show false = true from c6)
  | some u =>
  refine onName_elim c6 fun nm2 np2 c6 => ?_
  have d4 := and_r c6
  have d3 := and_l c6
  simp only [ZB] at q
  split at q
  · rename_i v e1
    split at q
    · rename_i k e2
      split at q
      · rename_i xs e3
        refine wpAny_Subscript_list_slice (name_loc he lo ok (beq_iff_eq.mp d1) d2 e1 fun w rw' => ?_)
        rw [evalPart_some]
        refine name_loc he lo ok (beq_iff_eq.mp d3) d4 e2 fun w2 rw2 => ?_
        rw [evalPart_none]
        refine wpAny_pure ?_
        cases k with
        | int k =>
          have e3 : (match listAt σ v with | some xs => if 0 ≤ k ∧ k ≤ xs.length ∧ xs.length < 1000000 then some (xs.drop k.toNat) else none | none => none) = some xs := e3
          split at e3
          · rename_i ys e4
            split at e3
            · rename_i hl
              cases e3
              obtain ⟨t, rfl⟩ := rw2
              obtain ⟨o, a, ws, m, rfl, e5, rfl, ea, hg, rl, hs⟩ := listAt_some ok rw' e4
              refine ⟨a, ws, some k, none, rfl, PySem.IsL.isList (n := m) hg, by rw [hs, sizeLine_eq]; exact Om30 hl hs, .int _ _, .none, ?_⟩
              have hk : k = (k.toNat : Int) := by exact Om31 hl
              rw [hk, slicePick_from', ← hk]
              have hsz : s.heap.objs.size + 1 = (s.heap.push { cls := .type "slice", data := .fields #[.int k t, .none, .none] }).objs.size := (Heap.size_push ..).symm
              rw [hsz]
              have t1 : TK s.heap (s.heap.push { cls := .type "slice", data := .fields #[.int k t, .none, .none] }) := fun b ws' ⟨ob, e, c⟩ => ⟨ob, Heap.get?_push_of_some _ e, c⟩
              exact Post.trans (s₁ := { s with heap := s.heap.push { cls := .type "slice", data := .fields #[.int k t, .none, .none] } }) (Ext.push _) rfl rfl (new_list (ok.push _) ((rl.drop k.toNat).mono (List.prefix_refl _) t1) q)
            · cases e3
          · cases e3
        | _ => cases e3
      · exact q.elim
    · exact q.elim
  · exact q.elim

mutual
theorem simE (hG : GloOk G) (hcf : SimCf G cf n) : ∀ e : E, SimE G cf n e
  | .loc i => sim_loc i
  | .kint i => sim_kint i
  | .kstr s => sim_kstr s
  | .kbool b => sim_kbool b
  | .knone => sim_knone
  | .glob g => sim_glob hG g
  | .tup es => sim_tup (simL hG hcf es)
  | .list es => sim_list (simL hG hcf es)
  | .dict0 k => sim_dict0 k
  | .attr e a => sim_attr hG (simE hG hcf e)
  | .sub e i => sim_sub (simE hG hcf e) (simE hG hcf i)
  | .slTo e k => sim_slTo (simE hG hcf e)
  | .cmp op a b => sim_cmp hG (simE hG hcf a) (simE hG hcf b)
  | .boolop d es => sim_boolop (simL hG hcf es)
  | .not e => sim_not (simE hG hcf e)
  | .neg e => sim_neg (simE hG hcf e)
  | .bin op a b => sim_bin (simE hG hcf a) (simE hG hcf b)
  | .ife c a b => sim_ife (simE hG hcf c) (simE hG hcf a) (simE hG hcf b)
  | .callF f es => sim_callF hG hcf (simL hG hcf es)
  | .callM m e es => sim_callM hG hcf (simE hG hcf e) (simL hG hcf es)
  | .new c es => sim_new hG hcf (simL hG hcf es)
  | .blt b es => sim_blt hG (simL hG hcf es)
  | .meth k e es => sim_meth hG (simE hG hcf e) (simL hG hcf es)
  | .isNone e => sim_isNone (simE hG hcf e)
  | .isStr e => sim_isStr hG (simE hG hcf e)
  | .pow => sim_pow
  | .slFrom i j => sim_slFrom
  | .comp i j => sim_comp
  | .newX es => sim_newX hG hcf (simL hG hcf es)
theorem simL (hG : GloOk G) (hcf : SimCf G cf n) : ∀ es : EL, SimL G cf n es
  | .nil => simL_nil
  | .cons e es => simL_cons (simE hG hcf e) (simL hG hcf es)
end
end

end Mine
end

/-! N12 -/
noncomputable section
set_option maxHeartbeats 200000
open PyProof.Rows PySem PySem.Calls PySem.W
namespace Mine

noncomputable def notTup (x : PySem.Expr) : Bool := x.ctorIdx != 24 && x.ctorIdx != 25
noncomputable def atAssign (x : PySem.Stmt) (f : List PySem.Expr → PySem.Expr → Pos → Bool) : Bool := if h : x.ctorIdx = 5 then PySem.Stmt.Assign.elim (motive_2 := fun _ => Bool) x h f else false
@[elab_as_elim] theorem atAssign_elim {x : PySem.Stmt} {f : List PySem.Expr → PySem.Expr → Pos → Bool} (c : atAssign x f = true) {motive : PySem.Stmt → Prop} (h : ∀ xs y p, f xs y p = true → motive (.Assign xs y p)) : motive x :=
  PySem.Stmt.Assign.elim (motive_2 := fun x => atAssign x f = true → motive x) x (ite_tag c) h c
noncomputable def atAugAssign (x : PySem.Stmt) (f : PySem.Expr → Operator → PySem.Expr → Pos → Bool) : Bool := if h : x.ctorIdx = 7 then PySem.Stmt.AugAssign.elim (motive_2 := fun _ => Bool) x h f else false
@[elab_as_elim] theorem atAugAssign_elim {x : PySem.Stmt} {f : PySem.Expr → Operator → PySem.Expr → Pos → Bool} (c : atAugAssign x f = true) {motive : PySem.Stmt → Prop} (h : ∀ y o z p, f y o z p = true → motive (.AugAssign y o z p)) : motive x :=
  PySem.Stmt.AugAssign.elim (motive_2 := fun x => atAugAssign x f = true → motive x) x (ite_tag c) h c
noncomputable def atFor (x : PySem.Stmt) (f : PySem.Expr → PySem.Expr → List Stmt → List Stmt → Pos → Bool) : Bool := if h : x.ctorIdx = 9 then PySem.Stmt.For.elim (motive_2 := fun _ => Bool) x h f else false
@[elab_as_elim] theorem atFor_elim {x : PySem.Stmt} {f : PySem.Expr → PySem.Expr → List Stmt → List Stmt → Pos → Bool} (c : atFor x f = true) {motive : PySem.Stmt → Prop} (h : ∀ y z b e p, f y z b e p = true → motive (.For y z b e p)) : motive x :=
  PySem.Stmt.For.elim (motive_2 := fun x => atFor x f = true → motive x) x (ite_tag c) h c
noncomputable def atWhile (x : PySem.Stmt) (f : PySem.Expr → List Stmt → List Stmt → Pos → Bool) : Bool := if h : x.ctorIdx = 11 then PySem.Stmt.While.elim (motive_2 := fun _ => Bool) x h f else false
@[elab_as_elim] theorem atWhile_elim {x : PySem.Stmt} {f : PySem.Expr → List Stmt → List Stmt → Pos → Bool} (c : atWhile x f = true) {motive : PySem.Stmt → Prop} (h : ∀ y b e p, f y b e p = true → motive (.While y b e p)) : motive x :=
  PySem.Stmt.While.elim (motive_2 := fun x => atWhile x f = true → motive x) x (ite_tag c) h c
noncomputable def atIf (x : PySem.Stmt) (f : PySem.Expr → List Stmt → List Stmt → Pos → Bool) : Bool := if h : x.ctorIdx = 12 then PySem.Stmt.If.elim (motive_2 := fun _ => Bool) x h f else false
@[elab_as_elim] theorem atIf_elim {x : PySem.Stmt} {f : PySem.Expr → List Stmt → List Stmt → Pos → Bool} (c : atIf x f = true) {motive : PySem.Stmt → Prop} (h : ∀ y b e p, f y b e p = true → motive (.If y b e p)) : motive x :=
  PySem.Stmt.If.elim (motive_2 := fun x => atIf x f = true → motive x) x (ite_tag c) h c
noncomputable def atReturn (x : PySem.Stmt) (f : Option PySem.Expr → Pos → Bool) : Bool := if h : x.ctorIdx = 3 then PySem.Stmt.Return.elim (motive_2 := fun _ => Bool) x h f else false
@[elab_as_elim] theorem atReturn_elim {x : PySem.Stmt} {f : Option PySem.Expr → Pos → Bool} (c : atReturn x f = true) {motive : PySem.Stmt → Prop} (h : ∀ y p, f y p = true → motive (.Return y p)) : motive x :=
  PySem.Stmt.Return.elim (motive_2 := fun x => atReturn x f = true → motive x) x (ite_tag c) h c
noncomputable def atExpr (x : PySem.Stmt) (f : PySem.Expr → Pos → Bool) : Bool := if h : x.ctorIdx = 24 then PySem.Stmt.Expr.elim (motive_2 := fun _ => Bool) x h f else false
@[elab_as_elim] theorem atExpr_elim {x : PySem.Stmt} {f : PySem.Expr → Pos → Bool} (c : atExpr x f = true) {motive : PySem.Stmt → Prop} (h : ∀ y p, f y p = true → motive (.Expr y p)) : motive x :=
  PySem.Stmt.Expr.elim (motive_2 := fun x => atExpr x f = true → motive x) x (ite_tag c) h c
noncomputable def atPass (x : PySem.Stmt) (f : Pos → Bool) : Bool := if h : x.ctorIdx = 25 then PySem.Stmt.Pass.elim (motive_2 := fun _ => Bool) x h f else false
@[elab_as_elim] theorem atPass_elim {x : PySem.Stmt} {f : Pos → Bool} (c : atPass x f = true) {motive : PySem.Stmt → Prop} (h : ∀ p, f p = true → motive (.Pass p)) : motive x :=
  PySem.Stmt.Pass.elim (motive_2 := fun x => atPass x f = true → motive x) x (ite_tag c) h c
noncomputable def atContinue (x : PySem.Stmt) (f : Pos → Bool) : Bool := if h : x.ctorIdx = 27 then PySem.Stmt.Continue.elim (motive_2 := fun _ => Bool) x h f else false
@[elab_as_elim] theorem atContinue_elim {x : PySem.Stmt} {f : Pos → Bool} (c : atContinue x f = true) {motive : PySem.Stmt → Prop} (h : ∀ p, f p = true → motive (.Continue p)) : motive x :=
  PySem.Stmt.Continue.elim (motive_2 := fun x => atContinue x f = true → motive x) x (ite_tag c) h c
noncomputable def atDelete (x : PySem.Stmt) (f : List PySem.Expr → Pos → Bool) : Bool := if h : x.ctorIdx = 4 then PySem.Stmt.Delete.elim (motive_2 := fun _ => Bool) x h f else false
@[elab_as_elim] theorem atDelete_elim {x : PySem.Stmt} {f : List PySem.Expr → Pos → Bool} (c : atDelete x f = true) {motive : PySem.Stmt → Prop} (h : ∀ xs p, f xs p = true → motive (.Delete xs p)) : motive x :=
  PySem.Stmt.Delete.elim (motive_2 := fun x => atDelete x f = true → motive x) x (ite_tag c) h c
noncomputable def atRaise (x : PySem.Stmt) (f : Option PySem.Expr → Option PySem.Expr → Pos → Bool) : Bool := if h : x.ctorIdx = 16 then PySem.Stmt.Raise.elim (motive_2 := fun _ => Bool) x h f else false
@[elab_as_elim] theorem atRaise_elim {x : PySem.Stmt} {f : Option PySem.Expr → Option PySem.Expr → Pos → Bool} (c : atRaise x f = true) {motive : PySem.Stmt → Prop} (h : ∀ y z p, f y z p = true → motive (.Raise y z p)) : motive x :=
  PySem.Stmt.Raise.elim (motive_2 := fun x => atRaise x f = true → motive x) x (ite_tag c) h c
noncomputable def atTry (x : PySem.Stmt) (f : List Stmt → List ExceptHandler → List Stmt → List Stmt → Pos → Bool) : Bool := if h : x.ctorIdx = 17 then PySem.Stmt.Try.elim (motive_2 := fun _ => Bool) x h f else false
@[elab_as_elim] theorem atTry_elim {x : PySem.Stmt} {f : List Stmt → List ExceptHandler → List Stmt → List Stmt → Pos → Bool} (c : atTry x f = true) {motive : PySem.Stmt → Prop} (h : ∀ b hs e g p, f b hs e g p = true → motive (.Try b hs e g p)) : motive x :=
  PySem.Stmt.Try.elim (motive_2 := fun x => atTry x f = true → motive x) x (ite_tag c) h c
noncomputable def ckNames (X : Ck) : List Nat → List PySem.Expr → Bool
  | [], xs => xs.isEmpty
  | i :: is, xs => (match xs with
    | x :: xs => ckLoc X i x && ckNames X is xs
    | [] => false)
noncomputable def ckT (G : Nm) (X : Ck) : T → PySem.Expr → Bool
  | .loc i, x => ckLoc X i x
  | .tup is, x => onTuple x fun xs _ _ => ckNames X is xs
  | .attr e a, x => onAttribute x fun y n _ => ckE G X e y && attrNames[a]? == some n
  | .sub e i, x => onSubscript x fun y z _ => ckE G X e y && ckE G X i z
noncomputable def notComp (x : PySem.Expr) : Bool := x.ctorIdx != 8 && x.ctorIdx != 9 && x.ctorIdx != 10
/-- del i[j:] -/
noncomputable def ckDel (X : Ck) (i j : Nat) (x : Stmt) : Bool := atDelete x fun xs _ => (match xs with
  | [t] => onSubscript t fun y z _ => ckLoc X i y && onSlice z fun lo up st _ => up.isNone && st.isNone && (match lo with
    | some u => ckLoc X j u
    | none => false)
  | _ => false)
noncomputable def onHandler (h : ExceptHandler) (f : Option PySem.Expr → Option PySem.Str → List Stmt → Bool) : Bool := match h with
  | .ExceptHandler t n b _ => f t n b
/-- return False -/
noncomputable def ckRetF (x : Stmt) : Bool := atReturn x fun y _ => (match y with
  | some y => onConstant y fun k _ _ => (match k with | .bool b => !b | _ => false)
  | none => false)
mutual
noncomputable def ckS (G : Nm) (X : Ck) : S → Stmt → Bool
  | .assign t e, x => atAssign x fun xs y _ => (match xs with
    | z :: zs => zs.isEmpty && ckT G X t z && ckE G X e y && (notTup z || notTup y) && notComp y
    | [] => false)
  | .augLoc i op e, x => atAugAssign x fun y o z _ => ckLoc X i y && ckAug op o && ckE G X e z
  | .augSub e i op r, x => atAugAssign x fun u o z _ => onSubscript u fun y k _ => ckE G X e y && ckE G X i k && notSlice k && ckAug op o && ckE G X r z
  | .expr e, x => atExpr x fun y _ => ckE G X e y && notComp y
  | .ite c a b, x => atIf x fun y b' e' _ => ckE G X c y && ckSL G X a b' && ckSL G X b e'
  | .while c b, x => atWhile x fun y b' e' _ => e'.isEmpty && ckE G X c y && ckSL G X b b'
  | .for_ t e b, x => atFor x fun u y b' e' _ => e'.isEmpty && (match t with
    | .loc i => ckLoc X i u
    | _ => false) && ckE G X e y && ckSL G X b b'
  | .ret e, x => atReturn x fun y _ => (match y with
    | some y => ckE G X e y
    | none => false)
  | .retN, x => atReturn x fun y _ => y.isNone
  | .cont, x => atContinue x fun _ => true
  | .pass, x => atPass x fun _ => true
  | .delFrom i j, x => ckDel X i j x
  | .raise e, x => atRaise x fun y z _ => z.isNone && (match y with
    | some y => ckE G X e y
    | none => false)
  | .tryRet m e es, x => atTry x fun b hs e' f _ => e'.isEmpty && f.isEmpty && (match b with
    | b0 :: bs => bs.isEmpty && atExpr b0 fun y _ => ckE G X (.callM m e es) y
    | [] => false) && (match hs with
    | h0 :: hr => hr.isEmpty && onHandler h0 fun t nm b => nm.isNone && (match t with
      | some t => onName t fun y _ => (y == G.xname) && ckName X .globalImplicit y
      | none => false) && (match b with
      | r :: rs => rs.isEmpty && ckRetF r
      | [] => false)
    | [] => false)
  | .stuck, _ => true
noncomputable def ckSL (G : Nm) (X : Ck) : SL → List Stmt → Bool
  | .nil, xs => xs.isEmpty
  | .cons s ss, xs => (match xs with
    | x :: xs => ckS G X s x && ckSL G X ss xs
    | [] => false)
end

inductive FlRel (h : Heap) (φ : List Addr) : Fl → Flow → Prop where
  | next : FlRel h φ .next .next
  | cont : FlRel h φ .cont .cont
  | ret {v w} : Rel h φ v w → FlRel h φ (.ret v) (.ret w)

noncomputable def PostS (C : Cx) (X : Ck) (L : Fm) (φ : List Addr) (s : Shared) (Q : Fl → En → AH → Prop) : Flow → Shared → Prop := fun f s' =>
  ∃ φ' σ' ρ' fl, Ext L.own φ s.heap φ' s'.heap ∧ Ok C φ' σ' s'.heap ∧ Loc C.hB X ρ' φ' s'.heap L ∧ FlRel s'.heap φ' fl f ∧ Q fl ρ' σ' ∧ s'.gens = s.gens ∧ s'.os = s.os
noncomputable def PostE (C : Cx) (X : Ck) (L : Fm) (φ : List Addr) (s : Shared) (Q : En → AH → Prop) : Unit → Shared → Prop := fun _ s' =>
  ∃ φ' σ' ρ', Ext L.own φ s.heap φ' s'.heap ∧ Ok C φ' σ' s'.heap ∧ Loc C.hB X ρ' φ' s'.heap L ∧ Q ρ' σ' ∧ s'.gens = s.gens ∧ s'.os = s.os

theorem PostS.elim {C : Cx} {X : Ck} {L : Fm} {φ : List Addr} {s : Shared} {Q : Fl → En → AH → Prop} {w : Flow} {s' : Shared} {R : Prop} (p : PostS C X L φ s Q w s')
    (h : ∀ φ' σ' ρ' fl, Ext L.own φ s.heap φ' s'.heap → Ok C φ' σ' s'.heap → Loc C.hB X ρ' φ' s'.heap L → FlRel s'.heap φ' fl w → Q fl ρ' σ' → s'.gens = s.gens → s'.os = s.os → R) : R :=
  Exists.elim p fun a p => p.elim fun b p => p.elim fun c p => p.elim fun d p => h a b c d p.1 p.2.1 p.2.2.1 p.2.2.2.1 p.2.2.2.2.1 p.2.2.2.2.2.1 p.2.2.2.2.2.2
theorem PostE.elim {C : Cx} {X : Ck} {L : Fm} {φ : List Addr} {s : Shared} {Q : En → AH → Prop} {w : Unit} {s' : Shared} {R : Prop} (p : PostE C X L φ s Q w s')
    (h : ∀ φ' σ' ρ', Ext L.own φ s.heap φ' s'.heap → Ok C φ' σ' s'.heap → Loc C.hB X ρ' φ' s'.heap L → Q ρ' σ' → s'.gens = s.gens → s'.os = s.os → R) : R :=
  Exists.elim p fun a p => p.elim fun b p => p.elim fun c p => h a b c p.1 p.2.1 p.2.2.1 p.2.2.2.1 p.2.2.2.2.1 p.2.2.2.2.2

theorem PostS.back {C : Cx} {X : Ck} {L : Fm} {φ φ₁ : List Addr} {s s₁ : Shared} {Q : Fl → En → AH → Prop} (x : Ext L.own φ s.heap φ₁ s₁.heap) (g : s₁.gens = s.gens) (o : s₁.os = s.os) {f : Flow} {s' : Shared} (p : PostS C X L φ₁ s₁ Q f s') : PostS C X L φ s Q f s' := by
  obtain ⟨φ', σ', ρ', fl, a, b, c, d, e, f, g'⟩ := p
  exact ⟨φ', σ', ρ', fl, x.trans a, b, c, d, e, f.trans g, g'.trans o⟩
theorem PostE.back {C : Cx} {X : Ck} {L : Fm} {φ φ₁ : List Addr} {s s₁ : Shared} {Q : En → AH → Prop} (x : Ext L.own φ s.heap φ₁ s₁.heap) (g : s₁.gens = s.gens) (o : s₁.os = s.os) {u : Unit} {s' : Shared} (p : PostE C X L φ₁ s₁ Q u s') : PostE C X L φ s Q u s' := by
  obtain ⟨φ', σ', ρ', a, b, c, e, f, g'⟩ := p
  exact ⟨φ', σ', ρ', x.trans a, b, c, e, f.trans g, g'.trans o⟩

theorem Loc.tk {hB : Heap} {X : Ck} {ρ : En} {φ φ' : List Addr} {h h' : Heap} {L : Fm} {C : Cx} {σ : AH} (l : Loc hB X ρ φ h L) (ok : Ok C φ σ h) (x : Ext L.own φ h φ' h') : TK h h' :=
  x.tk ok fun a m ws => l.notup m ws
/-- the frames stand after a store into this one -/
theorem Loc.frOwn {hB : Heap} {X : Ck} {ρ : En} {φ φ' : List Addr} {h h' : Heap} {L : Fm} {m : PySem.Str → Option Value} (l : Loc hB X ρ φ h L) (x : Ext L.own φ h φ' h') (n : h'.Ns L.at_ m) : FrOk hB L.fs φ' h' := fun env me => by
  obtain ⟨k, a, o, es, ep, f, b, na, g, d⟩ := l.fr env me
  have nφ : a ∉ φ' := fun z => by
    obtain ⟨ψ, e1, e2⟩ := x.pre
    rw [e1] at z
    rcases List.mem_append.mp z with z | z
    · exact na z
    · rw [e2 a z] at g; cases g
  by_cases ha : a = L.at_
  · obtain ⟨o', es', ep', e', d', _⟩ := n
    exact ⟨k, a, o', es', ep', f, b, nφ, by rw [ha]; exact e', d'⟩
  · have hn : a ∉ L.own := fun z => by
      rcases List.mem_cons.mp z with z | z
      · exact ha z
      · obtain ⟨p, mp, e0⟩ := List.mem_map.mp z
        subst e0
        obtain ⟨oc, v, e1, d1⟩ := l.cells p mp
        rw [g] at e1; cases e1
        rw [d] at d1; cases d1
    obtain ⟨o', g', s⟩ := x.keep a o na hn g
    exact ⟨k, a, o', es, ep, f, b, nφ, g', s.data.trans d⟩
/-- all is kept but one object that is none of the frame's -/
theorem Loc.but {hB : Heap} {X : Ck} {ρ : En} {φ : List Addr} {h h' : Heap} {L : Fm} (l : Loc hB X ρ φ h L) {it : Addr} (t : TK h h') (k : ∀ a o, a ≠ it → h.get? a = some o → h'.get? a = some o) (n : it ∉ L.own) (nd : ∀ o es ep, h.get? it = some o → o.data ≠ .dict es ep) : Loc hB X ρ φ h' L := by
  have ne : ∀ c ∈ L.own, c ≠ it := fun c m e => n (e ▸ m)
  obtain ⟨m, ⟨o, es, ep, e, r⟩, q⟩ := l.ns
  refine ⟨⟨m, ⟨o, es, ep, k _ o (ne _ (.head _)) e, r⟩, fun i v z => ?_⟩, fun p m => ?_, l.out, fun env me => ?_⟩
  · obtain ⟨y, w, a, b, c⟩ := q i v z
    exact ⟨y, w, a, b.keep fun c o m e _ => k c o (ne c m) e, c.mono (List.prefix_refl _) t⟩
  · obtain ⟨o, v, e, d⟩ := l.cells p m
    exact ⟨o, v, k _ o (ne _ (List.mem_cons_of_mem _ (List.mem_map.mpr ⟨p, m, rfl⟩))) e, d⟩
  · obtain ⟨kk, a, o, es, ep, f, b, na, g, d⟩ := l.fr env me
    exact ⟨kk, a, o, es, ep, f, b, na, k a o (fun z => nd o es ep (z ▸ g) d) g, d⟩
theorem Loc.keeps {hB : Heap} {X : Ck} {ρ : En} {φ : List Addr} {h h' : Heap} {L : Fm} (l : Loc hB X ρ φ h L) (t : TK h h') (k : ∀ a o, h.get? a = some o → h'.get? a = some o) : Loc hB X ρ φ h' L := by
  refine l.but (it := h.objs.size) t (fun a o _ e => k a o e) (fun m => l.live m (fresh_size h)) fun o es ep e => ?_
  rw [fresh_size] at e; cases e
theorem lookup_mem {K W : Type} [BEq K] [LawfulBEq K] : ∀ {l : List (K × W)} {x : K} {w : W}, l.lookup x = some w → (x, w) ∈ l
  | (y, u) :: l, x, w, e => by
    rw [List.lookup_cons] at e
    cases q : x == y with
    | true => rw [q] at e; cases e; rw [eq_of_beq q]; exact .head _
    | false => rw [q] at e; exact .tail _ (lookup_mem e)
theorem cell_inj {cl : List (PySem.Str × Addr)} (nd : (cl.map (·.2)).Nodup) {x y : PySem.Str} {c : Addr} (e1 : cl.lookup x = some c) (e2 : cl.lookup y = some c) : x = y := by
  have m1 := lookup_mem e1
  have m2 := lookup_mem e2
  obtain ⟨i, hi⟩ := List.mem_iff_getElem?.mp m1
  obtain ⟨j, hj⟩ := List.mem_iff_getElem?.mp m2
  have h1 : (cl.map (·.2))[i]? = some c := by rw [List.getElem?_map, hi]; rfl
  have h2 : (cl.map (·.2))[j]? = some c := by rw [List.getElem?_map, hj]; rfl
  have : i = j := (List.getElem?_inj (List.getElem?_eq_some_iff.mp h1).1 nd).mp (h1.trans h2.symm)
  subst this
  rw [hi] at hj
  exact congrArg (fun p : Option (PySem.Str × Addr) => (p.map (·.1)).getD x) hj

/-- a local's value is turned -/
theorem loc_turn {C : Cx} {X : Ck} {ρ : En} {φ : List Addr} {σ : AH} {h h' : Heap} {L : Fm} {i : Nat} {x : PySem.Str} {v : V} {w : Value} {m : PySem.Str → Option Value} (ok : Ok C φ σ h) (l : Loc C.hB X ρ φ h L) (hLB : ∀ a ∈ L.own, C.hB.get? a = none) (nd : X.names.Nodup)
    (hx : X.names[i]? = some x) (r : Rel h φ v w) (hm : ∀ i v, ρ i = some v → ∃ x w, X.names[i]? = some x ∧ Lies X L h m x w ∧ Rel h φ v w) {c : Addr} (hc : c ∈ L.own) (hs : Heap.SameBut c h h') (hl : h'.get? c ≠ none)
    {m' : PySem.Str → Option Value} (hn' : h'.Ns L.at_ m') (hcl : ∀ p ∈ L.cl, ∃ o v, h'.get? p.2 = some o ∧ o.data = .cell v) (hnew : Lies X L h' m' x w) (hold : ∀ y u, y ≠ x → Lies X L h m y u → Lies X L h' m' y u) :
    Ext L.own φ h φ h' ∧ Ok C φ σ h' ∧ Loc C.hB X (ρ.put i v) φ h' L := by
  have x1 : Ext L.own φ h φ h' := Ext.sameBut hs (.inr hc) hl
  have t := l.tk ok x1
  refine ⟨x1, ok.ext (fun b o e => ?_) t fun a ma => hs.2 a fun e => l.out c hc (e ▸ ma), ⟨⟨m', hn', fun j u e => ?_⟩, hcl, l.out, l.frOwn x1 hn'⟩⟩
  · rw [hs.2 b fun e' => by rw [e', hLB c hc] at e; cases e]
    exact ok.base b o e
  · by_cases q : j = i
    · subst q
      obtain rfl : v = u := by simpa [En.put] using e
      exact ⟨x, w, hx, hnew, r.mono (List.prefix_refl _) t⟩
    · have e' : ρ j = some u := by simpa [En.put, q] using e
      obtain ⟨y, wu, a, b, c⟩ := hm j u e'
      refine ⟨y, wu, a, hold y wu (fun z => q ?_) b, c.mono (List.prefix_refl _) t⟩
      subst z
      exact (List.getElem?_inj (List.getElem?_eq_some_iff.mp a).1 nd).mp (a.trans hx.symm)

set_option tactic.hygienic true in
theorem store_loc {G : Glo} {X : Ck} {ρ : En} {φ : List Addr} {σ : AH} {s : Shared} {L : Fm} {env : Env} {A : Around} {i : Nat} {x : PySem.Str} {v : V} {w : Value} {E : Value → Shared → Prop} {Q : Unit → Shared → Prop} (he : EnvOk A X L env) (hLB : ∀ a ∈ L.own, G.C.hB.get? a = none) (ok : Ok G.C φ σ s.heap) (l : Loc G.C.hB X ρ φ s.heap L)
    (hx : X.names[i]? = some x) (hk : ckVar X x = true) (r : Rel s.heap φ v w)
    (q : ∀ s', Ext L.own φ s.heap φ s'.heap → Ok G.C φ σ s'.heap → Loc G.C.hB X (ρ.put i v) φ s'.heap L → s'.gens = s.gens → s'.os = s.os → Q () s') : wpAny (MM G) A (storeName env x w) Q E s := by
  obtain ⟨m, hn, hm⟩ := l.ns
  have hkind : env.kindOf x = X.sc.names.lookup x := by unfold Env.kindOf; rw [he.sc]
  have ndc := he.ndc
  unfold Fm.own at ndc
  obtain ⟨nd1, nd2⟩ := List.nodup_cons.mp ndc
  rcases Bool.or_eq_true_iff.mp (Bool.and_eq_true_iff.mp hk).1 with hl | hl
  · have hl := beq_iff_eq.mp hl
    refine wpAny_storeName_local (m := m) (hkind.trans hl) (by rw [he.loc]; exact hn) (fun h' hn' hs => ?_) (by rw [he.sc, he.kind]; rfl)
    rw [he.loc] at hn' hs
    have hne : ∀ p ∈ L.cl, p.2 ≠ L.at_ := fun p mp z => nd1 (z ▸ List.mem_map.mpr ⟨p, mp, rfl⟩)
    obtain ⟨x1, x2, x3⟩ := loc_turn (m' := fun y => if y = x then some w else m y) ok l hLB he.nd hx r hm (.head _) hs (by obtain ⟨o, _, _, e, _⟩ := hn'; rw [e]; exact fun h => nomatch h) hn' (fun p mp => by
        obtain ⟨o, v, e, d⟩ := l.cells p mp
        exact ⟨o, v, (hs.2 p.2 (hne p mp)).trans e, d⟩) (by unfold Lies; rw [hl]; exact if_pos rfl) fun y u ne ly => by
      unfold Lies at ly ⊢
      split
      · rename_i e; rw [e] at ly; exact (if_neg ne).trans ly
      · rename_i e
        rw [e] at ly
        obtain ⟨c, o, e1, e2, e3⟩ := ly
        exact ⟨c, o, e1, (hs.2 c (hne _ (lookup_mem e1))).trans e2, e3⟩
      · rename_i e1 e2
        revert ly
        split
        · rename_i e; exact absurd e e1
        · rename_i e; exact absurd e e2
        · exact id
    exact q _ x1 x2 x3 rfl rfl
  · have hl := beq_iff_eq.mp hl
    have hcell : ∃ c o v0, L.cl.lookup x = some c ∧ s.heap.get? c = some o ∧ o.data = .cell v0 := by
      obtain ⟨c, hc⟩ := he.celled x hl
      obtain ⟨o, v0, e, d⟩ := l.cells _ (lookup_mem hc)
      exact ⟨c, o, v0, hc, e, d⟩
    obtain ⟨c, oc, v0, e1, e2, e3⟩ := hcell
    have mc : c ∈ L.own := List.mem_cons_of_mem _ (List.mem_map.mpr ⟨_, lookup_mem e1, rfl⟩)
    have hne : c ≠ L.at_ := fun z => nd1 (z ▸ List.mem_map.mpr ⟨_, lookup_mem e1, rfl⟩)
    refine wpAny_storeName_cell (by rw [he.sc]; exact he.kind) (hkind.trans hl) (by rw [he.cells]; exact e1) ⟨oc, e2, e3⟩ fun h' hc' hs => ?_
    obtain ⟨oc', f1, f2⟩ := hc'
    have same : ∀ y c', y ≠ x → L.cl.lookup y = some c' → c' ≠ c := fun y c' ny ly z => ny (cell_inj nd2 ly (z ▸ e1))
    obtain ⟨x1, x2, x3⟩ := loc_turn (m' := m) ok l hLB he.nd hx r hm mc hs (by rw [f1]; exact fun h => nomatch h) (hn.sameBut hs (Ne.symm hne)) (fun p mp => by
        by_cases z : p.2 = c
        · exact ⟨oc', some w, by rw [z]; exact f1, f2⟩
        · obtain ⟨o, v, e, d⟩ := l.cells p mp
          exact ⟨o, v, (hs.2 p.2 z).trans e, d⟩) (by unfold Lies; rw [hl]; exact ⟨c, oc', e1, f1, f2⟩) fun y u ne ly => by
      unfold Lies at ly ⊢
      split
      · rename_i e; rw [e] at ly; exact ly
      · rename_i e
        rw [e] at ly
        obtain ⟨c', o, e1', e2', e3'⟩ := ly
        exact ⟨c', o, e1', (hs.2 c' (same y c' ne e1')).trans e2', e3'⟩
      · rename_i e1 e2
        revert ly
        split
        · rename_i e; exact absurd e e1
        · rename_i e; exact absurd e e2
        · exact id
    exact q _ x1 x2 x3 rfl rfl

section
variable {G : Glo} (hG : GloOk G) {cf : Cf} {n : Nat}

theorem ext1 {φ φ' : List Addr} {h h' : Heap} {L : Fm} (x : Ext [] φ h φ' h') : Ext L.own φ h φ' h' := x.weak fun _ m => nomatch m

theorem each_ix {x : PySem.Expr} (h : okIx x.ctorIdx = true) (xs : List PySem.Expr) (env : Env) : assignEach (x :: xs) env = (false, assign x env) :: assignEach xs env := by
  cases x <;> first | rfl | cases h
theorem ckLoc_ix {X : Ck} {i : Nat} {x : PySem.Expr} (c : ckLoc X i x = true) : okIx x.ctorIdx = true := by
  rw [onName_tag c]; rfl
theorem assignEach_names {X : Ck} (env : Env) : ∀ {is : List Nat} {xs : List PySem.Expr}, ckNames X is xs = true → assignEach xs env = xs.map fun t => (false, assign t env)
  | [], [], _ => rfl
  | i :: is, x :: xs, c => by
    have c : (ckLoc X i x && ckNames X is xs) = true := c
    rw [each_ix (ckLoc_ix (Bool.and_eq_true_iff.mp c).1), assignEach_names env (Bool.and_eq_true_iff.mp c).2]; rfl
  | [], _ :: _, c => Bool.noConfusion (show false = true from c)
  | _ :: _, [], c => Bool.noConfusion (show false = true from c)
theorem put_loc {X : Ck} {L : Fm} {env : Env} {A : Around} (he : EnvOk A X L env) (hLB : ∀ a ∈ L.own, G.C.hB.get? a = none) {φ : List Addr} {σ : AH} {ρ : En} {s : Shared} {i : Nat} {x : PySem.Expr} {v : V} {w : Value} {Q : Unit → Shared → Prop} (c : ckLoc X i x = true) (ok : Ok G.C φ σ s.heap) (lo : Loc G.C.hB X ρ φ s.heap L) (rv : Rel s.heap φ v w)
    (q : ∀ s', Ext L.own φ s.heap φ s'.heap → Ok G.C φ σ s'.heap → Loc G.C.hB X (ρ.put i v) φ s'.heap L → s'.gens = s.gens → s'.os = s.os → Q () s') : wpAny (MM G) A (assign x env w) Q NR s :=
  onName_elim c fun _ _ c => wpAny_assign_Name (store_loc he hLB ok lo (beq_iff_eq.mp (Bool.and_eq_true_iff.mp c).1) (Bool.and_eq_true_iff.mp c).2 rv q)

theorem put_names {X : Ck} {L : Fm} {env : Env} {A : Around} (he : EnvOk A X L env) (hLB : ∀ a ∈ L.own, G.C.hB.get? a = none) {φ : List Addr} {σ : AH} {Q : En → AH → Prop} : ∀ {is : List Nat} {xs : List PySem.Expr} {vs : List V} {ws : List Value} {ρ ρ' : En} {s : Shared}, ckNames X is xs = true → Ok G.C φ σ s.heap → Loc G.C.hB X ρ φ s.heap L → RelL s.heap φ vs ws → putAll is vs ρ = some ρ' → Q ρ' σ →
    wpAny (MM G) A (assignInOrder (xs.map fun t => assign t env) ws) (PostE G.C X L φ s Q) NR s := by
  intro is
  induction is with
  | nil =>
    intro xs vs ws ρ ρ' s c ok lo r e q
    cases List.isEmpty_iff.mp c
    cases vs with
    | cons => cases e
    | nil =>
      cases e; cases r
      exact assignInOrder_nil ⟨φ, σ, ρ, .refl _ _ _, ok, lo, q, rfl, rfl⟩
  | cons i is ih =>
    intro xs vs ws ρ ρ' s c ok lo r e q
    cases xs with
    | nil => exact Bool.noConfusion (show false = true from c)
    | cons x xs =>
    cases vs with
    | nil => cases e
    | cons v vs =>
      have c2 := and_r c
      have c1 := and_l c
      obtain ⟨w, ws, rfl, rv, r⟩ := r
      refine assignInOrder_cons (put_loc he hLB c1 ok lo rv fun s' x1 x2 x3 x5 x6 => ?_)
      exact wpAny_mono (ih (s := s') c2 x2 x3 (r.mono x1.pref (lo.tk ok x1)) e q) (fun _ _ p => p.back x1 x5 x6) fun _ _ z => z

noncomputable def SimT (G : Glo) (cf : Cf) (n : Nat) (t : T) : Prop := ∀ (X : Ck) (x : PySem.Expr), ckT G X t x = true → ∀ (L : Fm) (env : Env) (A : Around), EnvOk A X L env → (∀ a ∈ L.own, G.C.hB.get? a = none) → AOk A (n + 1) → ∀ (s : Shared) (φ : List Addr) (σ : AH) (ρ : En), Ok G.C φ σ s.heap → Loc G.C.hB X ρ φ s.heap L →
  ∀ (v : V) (w : Value), Rel s.heap φ v w → ∀ Q, wT G.P cf t v ρ σ Q → wpAny (MM G) A (assign x env w) (PostE G.C X L φ s Q) NR s

theorem ckNames_len {X : Ck} : ∀ {is : List Nat} {xs : List PySem.Expr}, ckNames X is xs = true → is.length = xs.length
  | [], [], _ => rfl
  | i :: is, x :: xs, c => congrArg (· + 1) (ckNames_len (Bool.and_eq_true_iff.mp c).2)
  | [], _ :: _, c => Bool.noConfusion (show false = true from c)
  | _ :: _, [], c => Bool.noConfusion (show false = true from c)
theorem putAll_len : ∀ {is : List Nat} {vs : List V} {ρ ρ' : En}, putAll is vs ρ = some ρ' → is.length = vs.length
  | [], [], _, _, _ => rfl
  | _ :: _, _ :: _, _, _, e => by exact congrArg (· + 1) (putAll_len (show putAll _ _ _ = _ from e))
  | [], _ :: _, _, _, e => by cases e
  | _ :: _, [], _, _, e => by cases e

set_option tactic.hygienic true in
include hG in
theorem simT (hcf : SimCf G cf n) (t : T) : SimT G cf n t := by
  intro X x c L env A he hLB hA s φ σ ρ ok lo v w rv Q q
  cases t with
  | loc i =>
    exact put_loc he hLB c ok lo rv fun s' x1 x2 x3 x5 x6 => ⟨φ, σ, _, x1, x2, x3, q, x5, x6⟩
  | tup is =>
    refine onTuple_elim c fun xs k p c => ?_
    ·
      cases v with
      | tup vs =>
        simp only [Z3] at q
        split at q
        · rename_i ρ' e1
          obtain ⟨a, ws, rfl, ht, rl⟩ := rv
          have hl : xs.length = ws.size := by rw [← ckNames_len c, putAll_len e1, ← rl.length, Array.length_toList]
          have ea := assignEach_names env c
          refine assign_Tuple_tuple hA.handled ht (by rw [ea, List.length_map, hl]) (by rw [ea, List.findIdx?_map]; simp [Function.comp_def]) fun h' hx => ?_
          have x1 : Ext L.own φ s.heap φ h' := Ext.extBut hx (fresh_size _)
          have t1 := lo.tk ok x1
          have keep : ∀ b o, s.heap.get? b = some o → h'.get? b = some o := fun b o e => hx b o (fun z => by subst z; rw [fresh_size] at e; cases e) e
          have ok' : Ok G.C φ σ h' := ok.ext (fun b o e => keep b o (ok.base b o e)) t1 fun b m => by obtain ⟨ob, e, _⟩ := ok.live m; rw [e]; exact keep b ob e
          have lo' : Loc G.C.hB X ρ φ h' L := lo.keeps t1 keep
          rw [ea, List.map_map]
          exact wpAny_mono (put_names (s := { s with heap := h' }) he hLB c ok' lo' (rl.mono (List.prefix_refl _) t1) e1 q) (fun _ _ p => PostE.back (s₁ := { s with heap := h' }) x1 rfl rfl p) fun _ _ z => z
        · exact q.elim
      | _ => exact (show False from q).elim
  | attr e a =>
    refine onAttribute_elim c fun x y p c => ?_
    ·
      have c2 := and_r c
      have c1 := and_l c
      have c2 := beq_iff_eq.mp c2
      have hla : a < attrNames.length := (List.getElem?_eq_some_iff.mp c2).1
      have c2 : y = attrName a := by unfold attrName; rw [List.getD_eq_getElem?_getD, c2]; rfl
      subst c2
      have q : wE G.P cf e ρ σ fun o σ' => match attrPut σ' o a v with | some σ'' => Q ρ σ'' | none => False := q
      show wpAny (MM G) A (do
        let ov ← holding [w] (eval x env)
        standAt p.atName
        holding [w, ov] (setAttr ov (attrName a) w)
        release [w, ov] []) _ _ _
      refine wpAny_bind (wpAny_holding (wpAny_mono ((simE hG hcf e X x c1 L env A he hA s φ σ ρ ok lo).1 _ q) (fun wo s' p => wpAny_bind (wpAny_standAt (wpAny_bind (wpAny_holding ?_)))) fun _ _ z => z))
      refine p.elim fun φ' σ' o x1 x2 x3 x4 x5 x6 => ?_
      split at x4
      · rename_i σ'' e1
        refine op_set hG x2 x3 (rv.mono x1.pref (x1.tk ok fun _ m => nomatch m)) hla e1 fun s'' p => wpAny_release ?_
        obtain ⟨y1, y2, y3, y4⟩ := p
        exact ⟨φ', σ'', ρ, ext1 (x1.trans y1), y2, (lo.ext ok x1).ext x2 y1, x4, y3.trans x5, y4.trans x6⟩
      · exact x4.elim
  | sub e i =>
    refine onSubscript_elim c fun x y p c => ?_
    ·
      have c2 := and_r c
      have c1 := and_l c
      have q : wE G.P cf e ρ σ fun o σ₁ => wE G.P cf i ρ σ₁ fun k σ₂ => match itemPut σ₂ o k v with | some σ₃ => Q ρ σ₃ | none => False := q
      show wpAny (MM G) A (do
        let ov ← holding [w] (eval x env)
        let iv ← holding [w, ov] (eval y env)
        standAt p
        holding [w, ov, iv] (setItem ov iv w)
        release (match (generalizing := false) y with | .Slice _ _ none _ => [iv, w, ov] | _ => [w, ov, iv]) []) _ _ _
      refine wpAny_bind (wpAny_holding (wpAny_mono ((simE hG hcf e X x c1 L env A he hA s φ σ ρ ok lo).1 _ q) (fun wo s' p => ?_) fun _ _ z => z))
      refine p.elim fun φ' σ' o x1 x2 x3 x4 x5 x6 => ?_
      refine wpAny_bind (wpAny_holding (wpAny_mono ((simE hG hcf i X y c2 L env A he hA s' φ' σ' ρ x2 (lo.ext ok x1)).1 _ x4) (fun wk s'' p => wpAny_bind (wpAny_standAt (wpAny_bind (wpAny_holding ?_)))) fun _ _ z => z))
      refine p.elim fun φ'' σ'' k y1 y2 y3 y4 y5 y6 => ?_
      have t2 := y1.tk x2 fun _ m => nomatch m
      split at y4
      · rename_i σ₃ e1
        refine item_put hA y2 (x3.mono y1.pref t2) y3 ((rv.mono x1.pref (x1.tk ok fun _ m => nomatch m)).mono y1.pref t2) e1 fun s₃ p => wpAny_release ?_
        obtain ⟨z1, z2, z3, z4⟩ := p
        exact ⟨φ'', σ₃, ρ, ext1 ((x1.trans y1).trans z1), z2, ((lo.ext ok x1).ext x2 y1).ext y2 z1, y4, z3.trans (y5.trans x5), z4.trans (y6.trans x6)⟩
      · exact y4.elim
end

end Mine
end

/-! N13 -/
noncomputable section
set_option maxHeartbeats 200000
open PyProof.Rows PySem PySem.Calls PySem.W
namespace Mine

theorem nr {α : Type} {M : Model} {A : Around} {m : Sem α} {Q : α → Shared → Prop} {E : Value → Shared → Prop} {s : Shared} (h : wpAny M A m Q NR s) : wpAny M A m Q E s := wpAny_mono h (fun _ _ z => z) fun _ _ z => z.elim

section
variable {G : Glo} (hG : GloOk G) {cf : Cf} {n : Nat}

/-- an exception is raised in this frame: it is not yet traced -/
noncomputable def ExS (C : Cx) (X : Ck) (L : Fm) (φ : List Addr) (s : Shared) (R : En → AH → Prop) : Value → Shared → Prop := fun e s' =>
  ∃ (i : Nat) (a : Addr) (φ' : List Addr) (σ' : AH) (ρ' : En) (oe : Obj) (vs : Array Value) (t : Addr), e = .ref a ∧ φ'[i]? = some a ∧ σ'[i]? = some (AObj.exc 2) ∧ Ext L.own φ s.heap φ' s'.heap ∧ Ok C φ' σ' s'.heap ∧ Loc C.hB X ρ' φ' s'.heap L ∧
    (s'.heap.get? a = some oe ∧ oe.cls = .ref C.exc ∧ oe.data = .fields vs ∧ vs[0]? = some (.ref t) ∧ vs[1]? = some .none) ∧ R ρ' σ' ∧ s'.gens = s.gens ∧ s'.os = s.os
/-- what a statement is run against when it raises -/
structure Ex (G : Glo) (A : Around) (X : Ck) (L : Fm) (env : Env) (φ : List Addr) (s : Shared) (R : En → AH → Prop) (E : Value → Shared → Prop) : Prop where
  pass : PassesOwn (MM G) A env E
  get : ∀ e s', ExS G.C X L φ s R e s' → E e s'
theorem Ex.back {G : Glo} {A : Around} {X : Ck} {L : Fm} {env : Env} {φ φ₁ : List Addr} {s s₁ : Shared} {R : En → AH → Prop} {E : Value → Shared → Prop} (h : Ex G A X L env φ s R E) (x : Ext L.own φ s.heap φ₁ s₁.heap) (g : s₁.gens = s.gens) (o : s₁.os = s.os) : Ex G A X L env φ₁ s₁ R E :=
  ⟨h.pass, fun e s' p => h.get e s' (p.elim fun i p => p.elim fun a p => p.elim fun φ' p => p.elim fun σ' p => p.elim fun ρ' p => p.elim fun oe p => p.elim fun vs p => p.elim fun t p => ⟨i, a, φ', σ', ρ', oe, vs, t, p.1, p.2.1, p.2.2.1, x.trans p.2.2.2.1, p.2.2.2.2.1, p.2.2.2.2.2.1, p.2.2.2.2.2.2.1, p.2.2.2.2.2.2.2.1, p.2.2.2.2.2.2.2.2.1.trans g, p.2.2.2.2.2.2.2.2.2.trans o⟩)⟩
theorem Ex.never {G : Glo} {A : Around} {X : Ck} {L : Fm} {env : Env} {φ : List Addr} {s : Shared} {R : En → AH → Prop} (h : ∀ ρ σ, ¬ R ρ σ) : Ex G A X L env φ s R NR :=
  ⟨PassesOwn.never, fun e s' p => p.elim fun i p => p.elim fun a p => p.elim fun φ' p => p.elim fun σ' p => p.elim fun ρ' p => p.elim fun oe p => p.elim fun vs p => p.elim fun t p => h ρ' σ' p.2.2.2.2.2.2.2.1⟩

noncomputable def SimS (G : Glo) (cf : Cf) (n : Nat) (t : S) : Prop := ∀ (X : Ck) (x : Stmt), ckS G X t x = true → ∀ (L : Fm) (env : Env) (A : Around), EnvOk A X L env → (∀ a ∈ L.own, G.C.hB.get? a = none) → AOk A (n + 1) → ∀ (s : Shared) (φ : List Addr) (σ : AH) (ρ : En), Ok G.C φ σ s.heap → Loc G.C.hB X ρ φ s.heap L →
  ∀ Q, wS G.P cf t ρ σ Q → ∀ E, Ex G A X L env φ s (Q .exc) E → wpAny (MM G) A (exec x env) (PostS G.C X L φ s Q) E s
noncomputable def SimSL (G : Glo) (cf : Cf) (n : Nat) (t : SL) : Prop := ∀ (X : Ck) (x : List Stmt), ckSL G X t x = true → ∀ (L : Fm) (env : Env) (A : Around), EnvOk A X L env → (∀ a ∈ L.own, G.C.hB.get? a = none) → AOk A (n + 1) → ∀ (s : Shared) (φ : List Addr) (σ : AH) (ρ : En), Ok G.C φ σ s.heap → Loc G.C.hB X ρ φ s.heap L →
  ∀ Q, wSL G.P cf t ρ σ Q → ∀ E, Ex G A X L env φ s (Q .exc) E → wpAny (MM G) A (execs x env) (PostS G.C X L φ s Q) E s

theorem ck_plain {y : PySem.Expr} {t : Option PySem.Expr} {l : Nat} {env : Env} (h : notComp y = true) : swapsWith y t l env = pure false := by
  cases y <;> first | rfl | exact Bool.noConfusion (show false = true from h)

theorem swaps_none {x y : PySem.Expr} {env : Env} (h : (notTup x || notTup y) = true) : swappedStores [x] y env = pure none := by
  cases x with
  | Tuple => cases y <;> first | rfl | exact Bool.noConfusion (show false = true from h)
  | List => cases y <;> first | rfl | exact Bool.noConfusion (show false = true from h)
  | _ => rfl

theorem each_one {X : Ck} {t : T} {x : PySem.Expr} (env : Env) (c : ckT G X t x = true) : assignEach [x] env = [(false, assign x env)] := by
  refine each_ix ?_ [] env
  have go : ∀ {k : Nat}, x.ctorIdx = k → okIx k = true → okIx x.ctorIdx = true := fun a b => a ▸ b
  cases t with
  | loc => exact go (onName_tag c) rfl
  | tup => exact go (onTuple_tag c) rfl
  | attr => exact go (onAttribute_tag c) rfl
  | sub => exact go (onSubscript_tag c) rfl

theorem Assign_go {M : Model} {A : Around} {E : Value → Shared → Prop} {s : Shared} {env : Env} {x y : PySem.Expr} {pos : Pos} {Q : Flow → Shared → Prop} (h1 : swapsWith y (some x) pos.line env = pure false) (h2 : swappedStores [x] y env = pure none) (h3 : assignEach [x] env = [(false, assign x env)])
    (h : wpAny M A (eval y env) (fun v s₁ => wpAny M A (assign x env v) (fun _ => Q .next) E s₁) E s) : wpAny M A (exec (.Assign [x] y pos) env) Q E s := by
  rw [exec_Assign]
  refine wpAny_bind (wpAny_standAt ?_)
  rw [show swapsWithSole [x] y pos.line env = pure false from h1]
  refine wpAny_bind (wpAny_pure ?_)
  rw [if_neg (by decide)]
  refine wpAny_bind (wpAny_mono h (fun v s₁ h₁ => ?_) fun _ _ x => x)
  rw [h2]
  refine wpAny_bind (wpAny_pure ?_)
  rw [h3]
  show wpAny M A (do assignAll v [assign x env]; pure .next) Q E s₁
  exact wpAny_bind (wpAny_mono h₁ (fun _ _ x => wpAny_pure x) fun _ _ x => x)

include hG in
theorem sim_assign (hcf : SimCf G cf n) {t : T} {e : E} : SimS G cf n (.assign t e) := by
  intro X x c L env A he hLB hA s φ σ ρ ok lo Q q E hE
  refine atAssign_elim c fun xs y pos c => ?_
  ·
    cases xs with
    | nil => exact Bool.noConfusion (show false = true from c)
    | cons x xs =>
      have c : (xs.isEmpty && ckT G X t x && ckE G X e y && (notTup x || notTup y) && notComp y) = true := c
      have c5 := and_r c
      have c := and_l c
      have c3 := and_r c
      have c := and_l c
      have c2 := and_r c
      have c := and_l c
      have c1 := and_r c
      have c := and_l c
      cases List.isEmpty_iff.mp c
      have q : wE G.P cf e ρ σ fun v σ' => wT G.P cf t v ρ σ' (Q .next) := q
      refine Assign_go (ck_plain c5) (swaps_none c3) (each_one env c1) (wpAny_mono ((simE hG hcf e X y c2 L env A he hA s φ σ ρ ok lo).1 _ q) (fun w s' p => ?_) fun _ _ z => z.elim)
      refine p.elim fun φ' σ' v x1 x2 x3 x4 x5 x6 => ?_
      refine wpAny_mono (simT hG hcf t X x c1 L env A he hLB hA s' φ' σ' ρ x2 (lo.ext ok x1) v w x3 _ x4) (fun _ s'' p => ?_) fun _ _ z => z.elim
      refine p.elim fun φ'' σ'' ρ'' y1 y2 y3 y4 y5 y6 => ?_
      exact ⟨φ'', σ'', ρ'', .next, (ext1 x1).trans y1, y2, y3, .next, y4, y5.trans x5, y6.trans x6⟩

set_option tactic.hygienic true in
include hG in
theorem sim_augLoc (hcf : SimCf G cf n) {i : Nat} {op : Bo} {e : E} : SimS G cf n (.augLoc i op e) := by
  intro X x c L env A he hLB hA s φ σ ρ ok lo Q q E hE
  refine atAugAssign_elim c fun x o y pos c => ?_
  have c : (ckLoc X i x && ckAug op o && ckE G X e y) = true := c
  have c4 := and_r c
  have c := and_l c
  have c3 := and_r c
  have c := and_l c
  refine onName_elim c fun x p c => ?_
  ·
      have c2 := and_r c
      have c1 := and_l c
      simp only [ZL] at q
      split at q
      · rename_i v e1
        refine wpAny_AugAssign_Name (load_loc he lo ok (beq_iff_eq.mp c1) c2 e1 fun w b3 => ?_)
        refine wpAny_mono ((simE hG hcf e X y c4 L env A he hA s φ σ ρ ok lo).1 _ q) (fun w2 s' p => ?_) fun _ _ z => z.elim
        refine p.elim fun φ' σ' v2 x1 x2 x3 x4 x5 x6 => ?_
        split at x4
        · rename_i r e2
          refine wpAny_mono (aug_op (Q := fun v σ'' => v = r ∧ σ'' = σ') x2 c3 (b3.mono x1.pref (x1.tk ok fun _ m => nomatch m)) x3 e2 ⟨rfl, rfl⟩) (fun w3 s'' p => ?_) fun _ _ z => z.elim
          refine p.elim fun φ'' σ'' v3 y1 y2 y3 xq y5 y6 => ?_
          obtain ⟨rfl, rfl⟩ := xq
          exact store_loc he hLB y2 ((lo.ext ok x1).ext x2 y1) (beq_iff_eq.mp c1) c2 y3 fun s₃ z1 z2 z3 z5 z6 => ⟨φ'', _, _, .next, (ext1 (x1.trans y1)).trans z1, z2, z3, .next, x4, z5.trans (y5.trans x5), z6.trans (y6.trans x6)⟩
        · exact x4.elim
      · exact q.elim

theorem aug_sub {y : PySem.Expr} {ov iv new : Value} (h : notSlice y = true) : augStore y ov iv new = (do holding [new, ov, iv] (setItem ov iv new); release [new, ov, iv] []; pure .next) := by
  cases y <;> first | rfl | exact Bool.noConfusion (show false = true from h)
set_option tactic.hygienic true in
include hG in
theorem sim_augSub (hcf : SimCf G cf n) {e i r : E} {op : Bo} : SimS G cf n (.augSub e i op r) := by
  intro X x c L env A he hLB hA s φ σ ρ ok lo Q q E hE
  refine atAugAssign_elim c fun x o z pos c => ?_
  refine onSubscript_elim c fun x y p c => ?_
  ·
      have c : (ckE G X e x && ckE G X i y && notSlice y && ckAug op o && ckE G X r z) = true := c
      have c5 := and_r c
      have c := and_l c
      have c4 := and_r c
      have c := and_l c
      have c3 := and_r c
      have c := and_l c
      have c2 := and_r c
      have c1 := and_l c
      have q : wE G.P cf e ρ σ fun o σ₁ => wE G.P cf i ρ σ₁ fun k σ₂ => match itemAt σ₂ o k with
        | some x => wE G.P cf r ρ σ₂ fun y σ₃ => match binV op x y with
          | some v => (match itemPut σ₃ o k v with | some σ₄ => Q .next ρ σ₄ | none => False)
          | none => False
        | none => False := q
      refine wpAny_AugAssign_Subscript_any (wpAny_mono ((simE hG hcf e X x c1 L env A he hA s φ σ ρ ok lo).1 _ q) (fun w s' p => ?_) fun _ _ z => z.elim) (fun _ _ _ => aug_sub c3)
      refine p.elim fun φ' σ' v x1 x2 x3 x4 x5 x6 => ?_
      have lo1 := lo.ext ok x1
      refine wpAny_mono ((simE hG hcf i X y c2 L env A he hA s' φ' σ' ρ x2 lo1).1 _ x4) (fun w2 s'' p => ?_) fun _ _ z => z.elim
      refine p.elim fun φ'' σ'' k y1 y2 y3 y4 y5 y6 => ?_
      have lo2 := lo1.ext x2 y1
      have t2 := y1.tk x2 fun _ m => nomatch m
      split at y4
      · rename_i old e1
        refine wpAny_mono (item_get (Q := fun v σ₃ => v = old ∧ σ₃ = σ'') hA y2 (x3.mono y1.pref t2) y3 e1 ⟨rfl, rfl⟩) (fun w3 s₃ p => ?_) fun _ _ z => z.elim
        refine p.elim fun φ₃ σ₃ v3 z1 z2 z3 xq z5 z6 => ?_
        obtain ⟨rfl, rfl⟩ := xq
        have lo3 := lo2.ext y2 z1
        have t3 := z1.tk y2 fun _ m => nomatch m
        refine wpAny_mono ((simE hG hcf r X z c5 L env A he hA s₃ φ₃ _ ρ z2 lo3).1 _ y4) (fun w4 s₄ p => ?_) fun _ _ z => z.elim
        refine p.elim fun φ₄ σ₄ v4 a1 a2 a3 a4 a5 a6 => ?_
        have lo4 := lo3.ext z2 a1
        have t4 := a1.tk z2 fun _ m => nomatch m
        split at a4
        · rename_i nv e2
          refine wpAny_mono (aug_op (Q := fun v σ₅ => v = nv ∧ σ₅ = σ₄) a2 c4 (z3.mono a1.pref t4) a3 e2 ⟨rfl, rfl⟩) (fun w5 s₅ p => ?_) fun _ _ z => z.elim
          refine p.elim fun φ₅ σ₅ v5 b1 b2 b3 xq b5 b6 => ?_
          obtain ⟨rfl, rfl⟩ := xq
          have lo5 := lo4.ext a2 b1
          have t5 := b1.tk a2 fun _ m => nomatch m
          split at a4
          · rename_i σ₆ e3
            have r1 : Rel s₅.heap φ₅ v w := (((x3.mono y1.pref t2).mono z1.pref t3).mono a1.pref t4).mono b1.pref t5
            have r2 : Rel s₅.heap φ₅ k w2 := ((y3.mono z1.pref t3).mono a1.pref t4).mono b1.pref t5
            refine nr (item_put hA b2 r1 r2 b3 e3 fun s₆ p => ?_)
            obtain ⟨d1, d2, d3, d4⟩ := p
            exact ⟨φ₅, σ₆, ρ, .next, ext1 (((((x1.trans y1).trans z1).trans a1).trans b1).trans d1), d2, lo5.ext b2 d1, .next, a4, d3.trans (b5.trans (a5.trans (z5.trans (y5.trans x5)))), d4.trans (b6.trans (a6.trans (z6.trans (y6.trans x6))))⟩
          · exact a4.elim
        · exact a4.elim
      · exact y4.elim

include hG in
theorem sim_expr (hcf : SimCf G cf n) {e : E} : SimS G cf n (.expr e) := by
  intro X x c L env A he hLB hA s φ σ ρ ok lo Q q E hE
  refine atExpr_elim c fun x pos c => ?_
  ·
    have c5 := and_r c
    have c := and_l c
    have q : wE G.P cf e ρ σ fun _ σ' => Q .next ρ σ' := q
    refine wpAny_Expr_any (wpAny_mono ((simE hG hcf e X x c L env A he hA s φ σ ρ ok lo).1 _ q) (fun w s' p => ?_) fun _ _ z => z.elim) (by unfold interactive; rw [he.sc, he.kind]; rfl) (ck_plain c5)
    refine p.elim fun φ' σ' v x1 x2 x3 x4 x5 x6 => ?_
    exact ⟨φ', σ', ρ, .next, ext1 x1, x2, lo.ext ok x1, .next, x4, x5, x6⟩

include hG in
theorem sim_ret (hcf : SimCf G cf n) {e : E} : SimS G cf n (.ret e) := by
  intro X x c L env A he hLB hA s φ σ ρ ok lo Q q E hE
  refine atReturn_elim c fun x pos c => ?_
  ·
    cases x with
    | none => exact Bool.noConfusion (show false = true from c)
    | some x =>
      have c : ckE G X e x = true := c
      have q : wE G.P cf e ρ σ fun v σ' => Q (.ret v) ρ σ' := q
      refine wpAny_Return_some (wpAny_mono ((simE hG hcf e X x c L env A he hA s φ σ ρ ok lo).1 _ q) (fun w s' p => ?_) fun _ _ z => z.elim)
      refine p.elim fun φ' σ' v x1 x2 x3 x4 x5 x6 => ?_
      exact ⟨φ', σ', ρ, .ret v, ext1 x1, x2, lo.ext ok x1, .ret x3, x4, x5, x6⟩
theorem sim_retN : SimS G cf n .retN := by
  intro X x c L env A he hLB hA s φ σ ρ ok lo Q q E hE
  refine atReturn_elim c fun x pos c => ?_
  ·
    cases x with
    | some => exact Bool.noConfusion (show false = true from c)
    | none => exact wpAny_Return_none ⟨φ, σ, ρ, .ret .none, .refl _ _ _, ok, lo, .ret rfl, q, rfl, rfl⟩
theorem sim_cont : SimS G cf n .cont := by
  intro X x c L env A he hLB hA s φ σ ρ ok lo Q q E hE
  exact atContinue_elim c fun pos _ => wpAny_Continue ⟨φ, σ, ρ, .cont, .refl _ _ _, ok, lo, .cont, q, rfl, rfl⟩
theorem sim_pass : SimS G cf n .pass := by
  intro X x c L env A he hLB hA s φ σ ρ ok lo Q q E hE
  exact atPass_elim c fun pos _ => wpAny_Pass ⟨φ, σ, ρ, .next, .refl _ _ _, ok, lo, .next, q, rfl, rfl⟩

set_option tactic.hygienic true in
include hG in
theorem sim_ite (hcf : SimCf G cf n) {e : E} {a b : SL} (ih : SimSL G cf n a) (ih2 : SimSL G cf n b) : SimS G cf n (.ite e a b) := by
  intro X x c L env A he hLB hA s φ σ ρ ok lo Q q E hE
  refine atIf_elim c fun x y z pos c => ?_
  ·
    have c : (ckE G X e x && ckSL G X a y && ckSL G X b z) = true := c
    have c3 := and_r c
    have c := and_l c
    have c2 := and_r c
    have c1 := and_l c
    have q : wE G.P cf e ρ σ fun v σ' => match v with | .bool t => (if t = true then wSL G.P cf a ρ σ' Q else wSL G.P cf b ρ σ' Q) | _ => False := q
    refine wpAny_If (wpAny_mono ((simE hG hcf e X x c1 L env A he hA s φ σ ρ ok lo).2 (fun t σ' => if t = true then wSL G.P cf a ρ σ' Q else wSL G.P cf b ρ σ' Q) q) (fun t s' p => ?_) fun _ _ z => z.elim)
    refine p.elim fun φ' σ' x1 x2 x4 x5 x6 => ?_
    split
    · rename_i ht
      rw [if_pos ht] at x4
      exact wpAny_mono (ih X y c2 L env A he hLB hA s' φ' σ' ρ x2 (lo.ext ok x1) Q x4 E (hE.back (ext1 x1) x5 x6)) (fun _ _ p => p.back (ext1 x1) x5 x6) fun _ _ z => z
    · rename_i ht
      rw [if_neg ht] at x4
      exact wpAny_mono (ih2 X z c3 L env A he hLB hA s' φ' σ' ρ x2 (lo.ext ok x1) Q x4 E (hE.back (ext1 x1) x5 x6)) (fun _ _ p => p.back (ext1 x1) x5 x6) fun _ _ z => z

theorem simSL_nil : SimSL G cf n .nil := by
  intro X x c L env A he hLB hA s φ σ ρ ok lo Q q E hE
  cases x with
  | nil => exact wpAny_execs_nil ⟨φ, σ, ρ, .next, .refl _ _ _, ok, lo, .next, q, rfl, rfl⟩
  | cons => exact Bool.noConfusion (show false = true from c)
theorem simSL_cons {t : S} {ts : SL} (ih : SimS G cf n t) (ih2 : SimSL G cf n ts) : SimSL G cf n (.cons t ts) := by
  intro X x c L env A he hLB hA s φ σ ρ ok lo Q q E hE
  cases x with
  | nil => exact Bool.noConfusion (show false = true from c)
  | cons x xs =>
    have c : (ckS G X t x && ckSL G X ts xs) = true := c
    have c2 := and_r c
    have c1 := and_l c
    have q : wS G.P cf t ρ σ fun f ρ' σ' => match f with | .next => wSL G.P cf ts ρ' σ' Q | f => Q f ρ' σ' := q
    refine wpAny_execs_cons (wpAny_mono (ih X x c1 L env A he hLB hA s φ σ ρ ok lo _ q E hE) (fun f s' p => ?_) fun _ _ z => z)
    refine p.elim fun φ' σ' ρ' fl x1 x2 x3 x4 x5 x6 x7 => ?_
    cases x4 with
    | next => exact wpAny_mono (ih2 X xs c2 L env A he hLB hA s' φ' σ' ρ' x2 x3 Q x5 E (hE.back x1 x6 x7)) (fun _ _ p => p.back x1 x6 x7) fun _ _ z => z
    | cont => exact ⟨φ', σ', ρ', .cont, x1, x2, x3, .cont, x5, x6, x7⟩
    | ret r => exact ⟨φ', σ', ρ', _, x1, x2, x3, .ret r, x5, x6, x7⟩

set_option tactic.hygienic true in
include hG in
theorem sim_while (hcf : SimCf G cf n) {e : E} {b : SL} (ih : SimSL G cf n b) : SimS G cf n (.while e b) := by
  intro X x c L env A he hLB hA s φ σ ρ ok lo Q q E hE
  refine atWhile_elim c fun x y z pos c => ?_
  ·
      have c : (z.isEmpty && ckE G X e x && ckSL G X b y) = true := c
      have c2 := and_r c
      have c := and_l c
      have c1 := and_r c
      have c := and_l c
      cases List.isEmpty_iff.mp c
      obtain ⟨k, q⟩ : ∃ k, whileGo (wE G.P cf e) (wSL G.P cf b) k ρ σ Q := q
      refine wpAny_While (codeAny_whileLoop (fun k s' => ∃ φ' σ' ρ', Ext L.own φ s.heap φ' s'.heap ∧ Ok G.C φ' σ' s'.heap ∧ Loc G.C.hB X ρ' φ' s'.heap L ∧ whileGo (wE G.P cf e) (wSL G.P cf b) k ρ' σ' Q ∧ s'.gens = s.gens ∧ s'.os = s.os) ?_ k ⟨φ, σ, ρ, .refl _ _ _, ok, lo, q, rfl, rfl⟩)
      rintro k s' ⟨φ', σ', ρ', x1, x2, x3, x4, x5, x6⟩
      cases k with
      | zero => exact (show False from x4).elim
      | succ k =>
        have x4 : wE G.P cf e ρ' σ' fun v σ' => match v with | .bool t => (if t = true then wSL G.P cf b ρ' σ' (fun f ρ' σ'' => match f with | .ret u => Q (.ret u) ρ' σ'' | .exc => Q .exc ρ' σ'' | _ => whileGo (wE G.P cf e) (wSL G.P cf b) k ρ' σ'' Q) else Q .next ρ' σ') | _ => False := x4
        refine wpAny_mono ((simE hG hcf e X x c1 L env A he hA s' φ' σ' ρ' x2 x3).2 (fun t σ' => if t = true then wSL G.P cf b ρ' σ' (fun f ρ' σ'' => match f with | .ret u => Q (.ret u) ρ' σ'' | .exc => Q .exc ρ' σ'' | _ => whileGo (wE G.P cf e) (wSL G.P cf b) k ρ' σ'' Q) else Q .next ρ' σ') x4) (fun t s'' p => ?_) fun _ _ z => z.elim
        refine p.elim fun φ'' σ'' y1 y2 y4 y5 y6 => ?_
        have lo2 := x3.ext x2 y1
        split
        · rename_i ht
          rw [if_pos ht] at y4
          refine wpAny_passesOwn hE.pass (wpAny_mono (ih X y c2 L env A he hLB hA s'' φ'' σ'' ρ' y2 lo2 _ y4 E (hE.back (x1.trans (ext1 y1)) (y5.trans x5) (y6.trans x6))) (fun f s₃ p => ?_) fun _ _ z => z)
          refine p.elim fun φ₃ σ₃ ρ₃ fl z1 z2 z3 z4 z5 z6 z7 => ?_
          have xx : Ext L.own φ s.heap φ₃ s₃.heap := (x1.trans (ext1 y1)).trans z1
          cases z4 with
          | next => exact ⟨k, Nat.lt_succ_self k, φ₃, σ₃, ρ₃, xx, z2, z3, z5, z6.trans (y5.trans x5), z7.trans (y6.trans x6)⟩
          | cont => exact ⟨k, Nat.lt_succ_self k, φ₃, σ₃, ρ₃, xx, z2, z3, z5, z6.trans (y5.trans x5), z7.trans (y6.trans x6)⟩
          | ret r => exact ⟨φ₃, σ₃, ρ₃, _, xx, z2, z3, .ret r, z5, z6.trans (y5.trans x5), z7.trans (y6.trans x6)⟩
        · rename_i ht
          rw [if_neg ht] at y4
          exact wpAny_execs_nil ⟨φ'', σ'', ρ', .next, x1.trans (ext1 y1), y2, lo2, .next, y4, y5.trans x5, y6.trans x6⟩
end

end Mine
end

/-! N13b -/
noncomputable section
set_option maxHeartbeats 200000
open PyProof.Rows PySem PySem.Calls PySem.W
namespace Mine

section
variable {G : Glo} (hG : GloOk G) {cf : Cf} {n : Nat}

set_option tactic.hygienic true in
theorem raiseV_some {σ σ' : AH} {v : V} (e : raiseV σ v = some σ') : ∃ i, v = .obj i ∧ σ[i]? = some (.exc 1) ∧ σ' = σ.set i (.exc 2) := by
  cases v with
  | obj i =>
    have e : (match σ[i]? with | some (.exc st) => if st = 1 then some (σ.set i (.exc 2)) else none | _ => none) = some σ' := e
    split at e
    · rename_i st h
      split at e
      · rename_i h1; subst h1; cases e; exact ⟨i, rfl, h, rfl⟩
      · cases e
    · cases e
  | _ => cases e

set_option tactic.hygienic true in
include hG in
theorem sim_raise (hcf : SimCf G cf n) {e : E} : SimS G cf n (.raise e) := by
  intro X x c L env A he hLB hA s φ σ ρ ok lo Q q E hE
  refine atRaise_elim c fun y z pos c => ?_
  have c2 := and_r c
  have c1 := and_l c
  obtain rfl := Option.isNone_iff_eq_none.mp c1
  cases y with
  | none => exact Bool.noConfusion (show false = true from c2)
  | some y =>
    have q : wE G.P cf e ρ σ fun v σ' => match raiseV σ' v with | some σ'' => Q .exc ρ σ'' | none => False := q
    obtain ⟨cd, d1, d2, d3, d4, d5, d6⟩ := hG.xc.data
    refine exc_raise d1 d3 hG.xc.ty hA.handled (wpAny_mono ((simE hG hcf e X y c2 L env A he hA s φ σ ρ ok lo).1 _ q) (fun w s' p => ?_) fun _ _ z => z.elim)
    refine p.elim fun φ' σ' v x1 x2 x3 x4 x5 x6 => ?_
    split at x4
    · rename_i σ'' e1
      obtain ⟨i, rfl, e2, rfl⟩ := raiseV_some e1
      obtain ⟨a, rfl, ea, ob, t, vs, g1, g2, g3, g4, g5, g6⟩ := rel_obj x2 x3 e2
      have hi := (List.getElem?_eq_some_iff.mp e2).1
      refine ⟨a, ob, vs, rfl, hG.hK.keeps x2.base, g1, g2, g3, g5 (by decide), hE.get _ _ ⟨i, a, φ', _, ρ, ob, vs, t, rfl, ea, List.getElem?_set_self hi, ext1 x1, ?_, lo.ext ok x1, ⟨g1, g2, g3, g4, g5 (by decide)⟩, x4, x5, x6⟩⟩
      exact x2.turn (x2.nz e2 fun _ h => nomatch h) ea (fun _ _ _ e => e) fun _ => ⟨ob, t, vs, g1, g2, g3, g4, fun z => absurd z (by decide), fun z => nomatch z⟩
    · exact x4.elim
end

end Mine
end

/-! N13c -/
noncomputable section
set_option maxHeartbeats 200000
open PyProof.Rows PySem PySem.Calls PySem.W
namespace Mine

/-- all but N is kept; of N what is no record is kept but for its slots -/
structure Soft (N : List Addr) (h h' : Heap) : Prop where
  still : ∀ b o, b ∉ N → h.get? b = some o → h'.get? b = some o
  up : h.UpToSlots h'
theorem Soft.tk {N : List Addr} {h h' : Heap} (S : Soft N h h') (n : ∀ b ∈ N, ∀ ws, ¬ IsTup h b ws) : TK h h' := fun b ws t => by
  obtain ⟨o, e, r⟩ := id t
  exact ⟨o, S.still b o (fun m => n b m ws t) e, r⟩
theorem Soft.ok {C : Cx} {φ : List Addr} {σ : AH} {N : List Addr} {h h' : Heap} (S : Soft N h h') (k : Ok C φ σ h) {i : Nat} {a : Addr} (ea : φ[i]? = some a) (ei : σ[i]? = some (.exc 2)) (hN : ∀ b ∈ N, b = a ∨ b ∉ φ) (hB : ∀ b ∈ N, C.hB.get? b = none) (t : TK h h') (r : ObjRel C h' φ a (.exc 2)) : Ok C φ σ h' := by
  refine ⟨k.len, k.nd, k.new, k.zero, fun b o e => S.still b o (fun m => by rw [hB b m] at e; cases e) (k.base b o e), fun j o e => ?_⟩
  obtain ⟨b, eb, rb⟩ := k.obj j o e
  by_cases z : b = a
  · subst z
    have : j = i := (List.getElem?_inj (List.getElem?_eq_some_iff.mp eb).1 k.nd).mp (eb.trans ea.symm)
    subst this
    rw [ei] at e; cases e
    exact ⟨b, eb, r⟩
  · obtain ⟨ob, g, _⟩ := rb.live
    have nm : b ∉ N := fun m => (hN b m).elim z fun n => n (List.mem_of_getElem? eb)
    exact ⟨b, eb, rb.mono (List.prefix_refl _) t ((S.still b ob nm g).trans g.symm)⟩
theorem Soft.ext {X φ₀ φ : List Addr} {h₀ h h' : Heap} {N : List Addr} (S : Soft N h h') (x : Ext X φ₀ h₀ φ h) {a : Addr} (ma : a ∈ φ) (al : h'.get? a ≠ none) (hN : ∀ b ∈ N, b = a ∨ h₀.get? b = none ∨ ∃ o es ep, h.get? b = some o ∧ o.data = .dict es ep) : Ext X φ₀ h₀ φ h' := by
  have dict : ∀ {b o es ep}, h.get? b = some o → o.data = .dict es ep → ∃ o', h'.get? b = some o' ∧ Same o o' := fun {b o es ep} e d => by
    obtain ⟨sl, e'⟩ := S.up b o e (by rw [d]; exact fun _ h => nomatch h)
    exact ⟨_, e', .inr ⟨⟨es, ep, d⟩, sl, rfl⟩⟩
  refine ⟨x.pre, fun b o m m' e => ?_, fun b m e => ?_⟩
  · obtain ⟨o', e', s⟩ := x.keep b o m m' e
    by_cases z : b ∈ N
    · rcases hN b z with rfl | h0 | ⟨o2, es, ep, e2, d2⟩
      · obtain ⟨ψ, e1, e2⟩ := x.pre
        rw [e1] at ma
        rcases List.mem_append.mp ma with q | q
        · exact absurd q m
        · rw [e2 b q] at e; cases e
      · rw [h0] at e; cases e
      · rw [e'] at e2; cases e2
        obtain ⟨o3, e3, s3⟩ := dict e' d2
        exact ⟨o3, e3, s.trans s3⟩
    · exact ⟨o', S.still b o' z e', s⟩
  · obtain ⟨o, q⟩ := Option.ne_none_iff_exists'.mp (x.alive e)
    by_cases z : b ∈ N
    · rcases hN b z with rfl | h0 | ⟨o2, es, ep, e2, d2⟩
      · exact al
      · exact absurd h0 e
      · obtain ⟨o3, e3, _⟩ := dict e2 d2
        rw [e3]; exact fun h => nomatch h
    · rw [S.still b o z q]; exact fun h => nomatch h
set_option tactic.hygienic true in
theorem Soft.loc {hB : Heap} {X : Ck} {ρ : En} {φ : List Addr} {h h' : Heap} {L : Fm} {N : List Addr} (S : Soft N h h') (l : Loc hB X ρ φ h L) (t : TK h h') (hN : ∀ b ∈ N, ∀ o v, h.get? b = some o → o.data ≠ .cell v) : Loc hB X ρ φ h' L := by
  obtain ⟨m, n, q⟩ := l.ns
  have kc : ∀ {c o v}, h.get? c = some o → o.data = .cell v → h'.get? c = some o := fun {c o v} e d => S.still c o (fun m => hN c m o v e d) e
  refine ⟨⟨m, S.up.ns n, fun i v z => ?_⟩, fun p m => ?_, l.out, fun env me => ?_⟩
  · obtain ⟨y, w, a, b, c⟩ := q i v z
    refine ⟨y, w, a, ?_, c.mono (List.prefix_refl _) t⟩
    unfold Lies at b ⊢
    split
    · rename_i e; rw [e] at b; exact b
    · rename_i e
      rw [e] at b
      obtain ⟨c, o, e1, e2, e3⟩ := b
      exact ⟨c, o, e1, kc e2 e3, e3⟩
    · rename_i e1 e2
      revert b
      split
      · rename_i e; exact absurd e e1
      · rename_i e; exact absurd e e2
      · exact id
  · obtain ⟨o, v, e, d⟩ := l.cells p m
    exact ⟨o, v, kc e d, d⟩
  · obtain ⟨k, a, o, es, ep, f, b, na, g, d⟩ := l.fr env me
    obtain ⟨sl, e'⟩ := S.up a o g (by rw [d]; exact fun _ h => nomatch h)
    exact ⟨k, a, _, es, ep, f, b, na, e', d⟩

noncomputable def framesOf (fs : List Env) : List Addr := fs.filterMap (·.frame)
theorem FrOk.mem {hB : Heap} {fs : List Env} {φ : List Addr} {h : Heap} (x : FrOk hB fs φ h) {b : Addr} (m : b ∈ framesOf fs) : hB.get? b = none ∧ b ∉ φ ∧ ∃ o es ep, h.get? b = some o ∧ o.data = .dict es ep := by
  obtain ⟨env, me, e⟩ := List.mem_filterMap.mp m
  obtain ⟨k, a, o, es, ep, f, b1, na, g, d⟩ := x env me
  rw [f] at e; cases e
  exact ⟨b1, na, o, es, ep, g, d⟩
theorem FrOk.funFrames {hB base : Heap} {φ : List Addr} {h : Heap} : ∀ {fs : List Env}, FrOk hB fs φ h → (∀ b ∈ framesOf fs, base.get? b = none) → h.FunFrames base fs
  | [], _, _ => trivial
  | env :: fs, x, hb => by
    obtain ⟨k, a, o, es, ep, f, b1, na, g, d⟩ := x env (.head _)
    refine ⟨k, ⟨a, o, f, hb a (List.mem_filterMap.mpr ⟨env, .head _, f⟩), g, by rw [d]; exact fun _ h => nomatch h⟩, FrOk.funFrames (fun e m => x e (.tail _ m)) fun b m => hb b ?_⟩
    obtain ⟨e, me, ee⟩ := List.mem_filterMap.mp m
    exact List.mem_filterMap.mpr ⟨e, .tail _ me, ee⟩
theorem soft_hide {N : List Addr} {h h' : Heap} (k : (hideAll h N).StaysIn h') (u : h.UpToSlots h') : Soft N h h' := ⟨fun b o n e => k b o (hideAll_get N e n), u⟩

/-- an exception leaves its frame -/
theorem leave_exc {G : Glo} {X : Ck} {L : Fm} {env : Env} {A : Around} {φ : List Addr} {s s₀ : Shared} {R : En → AH → Prop} {R' : AH → Prop} (hR : ∀ ρ σ, R ρ σ → R' σ) (he : EnvOk A X L env) {e : Value} {s' : Shared} {E : Value → Shared → Prop} (p : ExS G.C X L φ s₀ R e s')
    (x0 : Ext [] φ s.heap φ s₀.heap) (fresh : ∀ a ∈ L.own, s.heap.get? a = none) (hg : s₀.gens = s.gens) (ho : s₀.os = s.os) : wpAny (MM G) A (leaving env e) (fun _ s'' => PostX G.C φ s R' e s'') E s' := by
  obtain ⟨i, a, φ', σ', ρ', oe, vs, t, rfl, ea, ei, x1, ok, lo, ⟨g1, g2, g3, g4, g5⟩, r, y1, y2⟩ := p
  obtain ⟨outer, ho'⟩ := he.top
  have hfs : A.frames = some (env :: outer) := he.fs.trans (congrArg some ho')
  have fr := lo.fr
  have mFr : ∀ b ∈ framesOf L.fs, b ∈ a :: framesOf L.fs := fun b m => .tail _ m
  have hen : (hideAll s'.heap (a :: framesOf L.fs)).get? a = none := hideAll_none _ (.head _)
  have ma : a ∈ φ' := List.mem_of_getElem? ea
  have hBa : G.C.hB.get? a = none := ok.new i a (ok.nz ei fun _ h => nomatch h) ea
  refine wpAny_leaving_firstW (base := hideAll s'.heap (a :: framesOf L.fs)) hfs (ho' ▸ fr.funFrames fun b m => hideAll_none _ (mFr b m)) he.frame g1 (fun b o e => of_hideAll _ e) hen g3 g5 g4 fun h' W => ?_
  obtain ⟨w1, w2, w3, w4⟩ := W
  have S : Soft (a :: framesOf L.fs) s'.heap h' := soft_hide w1 w4
  obtain ⟨oe', vs', T, oT, ts, t1, ⟨t2, t3⟩, t4, t5, t6, t7, t8, t9, t10⟩ := w3
  have t2 : oe'.cls = .ref G.C.exc := t2.trans g2
  have hN : ∀ b ∈ a :: framesOf L.fs, b = a ∨ b ∉ φ' := fun b m => (List.mem_cons.mp m).imp id fun m => (fr.mem m).2.1
  have nt : ∀ b ∈ a :: framesOf L.fs, ∀ ws, ¬ IsTup s'.heap b ws := fun b m ws z => by
    rcases List.mem_cons.mp m with rfl | m
    · exact ok.notup z ma
    · obtain ⟨_, _, o, es, ep, e, d⟩ := fr.mem m
      obtain ⟨o', e', _, k, d'⟩ := z
      rw [e] at e'; cases e'; rw [d] at d'; cases d'
  have tk := S.tk nt
  have robj : ObjRel G.C h' φ' a (.exc 2) := ⟨oe', t, vs', t1, t2, t4, t3, fun z => absurd z (by decide), fun z => nomatch z⟩
  have ok' := S.ok ok ea ei hN (fun b m => (List.mem_cons.mp m).elim (fun z => z ▸ hBa) fun m => (fr.mem m).1) tk robj
  have x2 : Ext [] φ s.heap φ' s'.heap := ((x0.weak fun _ m => nomatch m).trans x1).strong fun b m => .inr (fresh b m)
  have x3 := S.ext x2 ma (by rw [t1]; exact fun h => nomatch h) fun b m => (List.mem_cons.mp m).imp id fun m => .inr (fr.mem m).2.2
  have inBase : ∀ {o}, s'.heap.get? T = some o → T ∈ framesOf L.fs := fun {o} e => by
    by_cases z : T ∈ a :: framesOf L.fs
    · exact (List.mem_cons.mp z).resolve_left t7
    · rw [hideAll_get _ e z] at t6; cases t6
  refine ⟨i, a, φ', σ', rfl, ea, ei, hBa, x3, ok', ⟨oe', vs', t, T, oT, ts, t1, t2, t4, t3, t5, t7, fun m => ?_, ?_, t8, t9, t10⟩, hR _ _ r, y1.trans hg, y2.trans ho⟩
  · obtain ⟨ob, e, _⟩ := ok.live m
    exact (fr.mem (inBase e)).2.1 m
  · cases q : s.heap.get? T with
    | none => rfl
    | some o =>
      obtain ⟨o', e⟩ := Option.ne_none_iff_exists'.mp (x2.alive (by rw [q]; exact fun h => nomatch h))
      obtain ⟨_, _, o2, es, ep, e2, d2⟩ := fr.mem (inBase e)
      obtain ⟨sl, e3⟩ := S.up T o2 e2 (by rw [d2]; exact fun _ h => nomatch h)
      rw [t8] at e3; cases e3
      rw [show ({ o2 with slots := sl } : Obj).data = o2.data from rfl, d2] at t9; cases t9

end Mine
end

/-! N13d -/
noncomputable section
set_option maxHeartbeats 200000
open PyProof.Rows PySem PySem.Calls PySem.W
namespace Mine

theorem EnvOk.mark {A : Around} {X : Ck} {L : Fm} {env : Env} (he : EnvOk A X L env) (v : Option Value) : EnvOk (A.mark v) X L env :=
  ⟨he.sc, he.nd, he.kind, he.loc, he.cells, he.ndc, he.celled, he.glob, he.bu, he.fs, he.top, he.frame⟩

section
variable {G : Glo} (hG : GloOk G) {cf : Cf} {n : Nat}

include hG in
/-- an exception of the class is caught: return False -/
theorem catch_ret {X : Ck} {L : Fm} {env : Env} {A : Around} {φ : List Addr} {σ : AH} {ρ : En} {s : Shared} {Q : Fl → En → AH → Prop} {E : Value → Shared → Prop} {R : AH → Prop} (he : EnvOk A X L env) (ok0 : Ok G.C φ σ s.heap) (lo : Loc G.C.hB X ρ φ s.heap L) {tp pos rp kp : Pos} {kd : Nat} (ck : ckName X .globalImplicit G.xname = true)
    {e : Value} {s₁ : Shared} (p : PostX G.C φ s R e s₁) (q : ∀ σ', R σ' → Q (.ret (.bool false)) ρ σ') :
    wpAny (MM G) A (noteFrame e env) (fun _ s₂ => wpAny (MM G) A (setFlight e none) (fun _ s₃ => wpAny (MM G) A (handleBy e env [.ExceptHandler (some (.Name G.xname tp)) none [.Return (some (.Constant (.bool false) kd kp)) rp] pos]) (PostS G.C X L φ s Q) E s₃) E s₂) E s₁ := by
  obtain ⟨i, a, φ', σ', rfl, ea, ei, hBa, x1, ok, ⟨oe, vs, t, T, oT, ts, k1, k2, k3, k4, k5, k6, k7, k8, k9, k10, k11⟩, r, y1, y2⟩ := p
  obtain ⟨outer, ho'⟩ := he.top
  have hfs : A.frames = some (env :: outer) := he.fs.trans (congrArg some ho')
  have lo1 := lo.ext ok0 x1
  have fr := lo1.fr
  have ma : a ∈ φ' := List.mem_of_getElem? ea
  obtain ⟨cd, d1, d2, d3, d4, d5, d6⟩ := hG.xc.data
  have hN : ∀ {b}, b ∈ a :: T :: framesOf L.fs → b = a ∨ b = T ∨ b ∈ framesOf L.fs := fun m => by
    rcases List.mem_cons.mp m with m | m
    · exact .inl m
    · exact .inr (List.mem_cons.mp m)
  have hBT : G.C.hB.get? T = none := by
    cases q : G.C.hB.get? T with
    | none => rfl
    | some o => have := ok0.base _ _ q; rw [k8] at this; cases this
  have hB : ∀ b ∈ a :: T :: framesOf L.fs, G.C.hB.get? b = none := fun b m => by
    rcases hN m with rfl | rfl | m
    · exact hBa
    · exact hBT
    · exact (fr.mem m).1
  have hBb : G.C.hB.StaysIn (hideAll s₁.heap (a :: T :: framesOf L.fs)) := fun b o e => hideAll_get _ (ok.base b o e) fun m => by rw [hB b m] at e; cases e
  have hfl : Heap.FlyingW (hideAll s₁.heap (a :: T :: framesOf L.fs)) (env :: outer) a (.ref G.C.exc) (.ref t) s₁.heap :=
    ⟨fun b o e => of_hideAll _ e, hideAll_none _ (.head _), ho' ▸ fr.funFrames fun b m => hideAll_none _ (.tail _ (.tail _ m)), oe, vs, T, oT, ts, k1, ⟨k2, k4⟩, k3, k5, hideAll_none _ (.tail _ (.head _)), k6, k9, k10, k11⟩
  refine wpAny_looks_onW hfs he.frame hfl fun h₂ held u₂ => wpAny_landsW held fun h₃ fl₃ u₃ => ?_
  have st₃ : G.C.hB.StaysIn h₃ := fun b o e => fl₃.1 b o (hBb b o e)
  refine exc_catch d1 d3 d5 hG.xc.ty (name_glob (s := { s₁ with heap := h₃ }) hG st₃ (he.mark _) ck hG.xn.1 ⟨rfl, hG.hK.keeps st₃, fl₃.there, ?_⟩)
  refine lands_againW fl₃ fun h₄ fl₄ u₄ => wpAny_execs_cons (wpAny_Return_some (wpAny_Constant_bool ?_))
  have S : Soft (a :: T :: framesOf L.fs) s₁.heap h₄ := soft_hide fl₄.1 ((u₂.trans u₃).trans u₄)
  have nt : ∀ b ∈ a :: T :: framesOf L.fs, ∀ ws, ¬ IsTup s₁.heap b ws := fun b m ws z => by
    rcases hN m with rfl | rfl | m
    · exact ok.notup z ma
    · obtain ⟨o', e', _, k, d'⟩ := z
      rw [k9] at e'; cases e'; rw [k10] at d'; cases d'
    · obtain ⟨_, _, o, es, ep, e, d⟩ := fr.mem m
      obtain ⟨o', e', _, k, d'⟩ := z
      rw [e] at e'; cases e'; rw [d] at d'; cases d'
  have tk := S.tk nt
  obtain ⟨-, -, -, oe', vs', T', oT', ts', t1, ⟨t2, t3⟩, t4, -⟩ := fl₄
  have ok' := S.ok ok ea ei (fun b m => by
    rcases hN m with z | rfl | m
    · exact .inl z
    · exact .inr k7
    · exact .inr (fr.mem m).2.1) hB tk ⟨oe', t, vs', t1, t2, t4, t3, fun z => absurd z (by decide), fun z => nomatch z⟩
  have x3 := S.ext x1 ma (by rw [t1]; exact fun h => nomatch h) fun b m => by
    rcases hN m with z | rfl | m
    · exact .inl z
    · exact .inr (.inl k8)
    · exact .inr (.inr (fr.mem m).2.2)
  refine ⟨φ', σ', ρ, .ret (.bool false), ext1 x3, ok', S.loc lo1 tk fun b m o v e d => ?_, .ret rfl, q σ' r, y1, y2⟩
  rcases hN m with rfl | rfl | m
  · rw [k1] at e; cases e; rw [k3] at d; cases d
  · rw [k9] at e; cases e; rw [k10] at d; cases d
  · obtain ⟨_, _, o', es, ep, e', d'⟩ := fr.mem m
    rw [e] at e'; cases e'; rw [d] at d'; cases d'

include hG in
theorem sim_tryRet (hcf : SimCf G cf n) {m : Nat} {e : E} {es : EL} : SimS G cf n (.tryRet m e es) := by
  intro X x c L env A he hLB hA s φ σ ρ ok lo Q q E hE
  refine atTry_elim c fun b hs e' f pos c => ?_
  have c4 := and_r c
  have c := and_l c
  have c3 := and_r c
  have c := and_l c
  have c2 := and_r c
  have c1 := and_l c
  obtain rfl := List.isEmpty_iff.mp c1
  obtain rfl := List.isEmpty_iff.mp c2
  cases b with
  | nil => exact Bool.noConfusion (show false = true from c3)
  | cons b0 bs =>
  cases hs with
  | nil => exact Bool.noConfusion (show false = true from c4)
  | cons h0 hr =>
  have c5 := and_r c3
  have c3 := and_l c3
  have c6 := and_r c4
  have c4 := and_l c4
  obtain rfl := List.isEmpty_iff.mp c3
  obtain rfl := List.isEmpty_iff.mp c4
  refine atExpr_elim (x := b0) c5 fun y ep c5 => ?_
  obtain ⟨t, nm, b, hp⟩ := h0
  have c9 := and_r (show ((nm.isNone && _) && _) = true from c6)
  have c6 := and_l (show ((nm.isNone && _) && _) = true from c6)
  have c8 := and_r c6
  have c7 := and_l c6
  obtain rfl := Option.isNone_iff_eq_none.mp c7
  cases t with
  | none => exact Bool.noConfusion (show false = true from c8)
  | some t =>
  cases b with
  | nil => exact Bool.noConfusion (show false = true from c9)
  | cons r rs =>
  have c10 := and_r c9
  have c9 := and_l c9
  obtain rfl := List.isEmpty_iff.mp c9
  refine onName_elim (x := t) c8 fun xn tp c8 => ?_
  have c11 := and_r c8
  have c8 := and_l c8
  obtain rfl := beq_iff_eq.mp c8
  refine atReturn_elim (x := r) c10 fun ro rp c10 => ?_
  cases ro with
  | none => exact Bool.noConfusion (show false = true from c10)
  | some rx =>
  refine onConstant_elim (x := rx) c10 fun k kd kp c10 => ?_
  cases k with
  | bool bb =>
    obtain rfl : bb = false := by simpa using c10
    refine wpAny_Try_except (wpAny_execs_cons (wpAny_Expr_any (wpAny_mono (callM_gen hG hcf (simE hG hcf e) (simL hG hcf es) c5 he hA ok lo (R := fun σ' => Q (.ret (.bool false)) ρ σ') q fun e s' p => catch_ret hG he ok lo c11 p fun _ z => z) (fun w s' p => ?_) fun _ _ z => z)
      (by unfold interactive; rw [he.sc, he.kind]; rfl) (ck_plain (onCall_elim (x := y) c5 fun _ _ _ _ _ => rfl))))
    refine wpAny_execs_nil (wpAny_execs_nil ?_)
    refine p.elim fun φ' σ' v x1 x2 x3 x4 x5 x6 => ?_
    exact ⟨φ', σ', ρ, .next, ext1 x1, x2, lo.ext ok x1, .next, x4, x5, x6⟩
  | _ => exact Bool.noConfusion (show false = true from c10)
end

end Mine
end

/-! N13e -/
noncomputable section
set_option maxHeartbeats 200000
open PyProof.Rows PySem PySem.Calls PySem.W
namespace Mine

section
variable {prog : Program} {w : World} {A : Around} {E : Value → Shared → Prop} {s : Shared}
theorem keep_take {k : Nat} {α : Type} {sel : Nat → Bool} : ∀ (xs : List α) (i : Nat), (∀ j, i ≤ j → j < i + xs.length → sel j = decide (k ≤ j)) → (xs.zipIdx i).filterMap (fun p => if sel p.2 = true then none else some p.1) = xs.take (k - i) := by
  intro xs
  induction xs with
  | nil => intro i h; simp
  | cons x xs ih =>
    intro i h
    have h0 := h i (Nat.le_refl _) (by simp)
    have r := ih (i + 1) fun j a b => h j (by exact Om32 a) (by simp; exact Om33 b)
    rw [List.zipIdx_cons, List.filterMap_cons]
    by_cases z : k ≤ i
    · rw [show (if sel (x, i).2 = true then none else some (x, i).1) = none from if_pos (by rw [h0]; exact decide_eq_true z), r, Nat.sub_eq_zero_of_le z, Nat.sub_eq_zero_of_le (by exact Om34 z)]
      simp
    · rw [show (if sel (x, i).2 = true then none else some (x, i).1) = some x from if_neg (by rw [h0, decide_eq_false z]; decide), r]
      obtain ⟨d, rfl⟩ : ∃ d, k = i + 1 + d := ⟨k - (i + 1), by exact Om35 z⟩
      rw [show i + 1 + d - i = (i + 1 + d - (i + 1)) + 1 by exact Om36 z]
      rfl
theorem del_from {l sl : Addr} {items : Array Value} {n k : Nat} {t : Tok} {Q : Unit → Shared → Prop} (hl : s.heap.get? l = some (listOf items n)) (hs : s.heap.IsSliceOf sl (.int k t) .none .none) (hk : k ≤ items.size) (hsz : items.size ≤ sizeLine)
    (h : ∀ h' n', h'.get? l = some (listOf (items.toList.take k).toArray n') → Heap.SameBut l s.heap h' → Q () { s with heap := h' }) : wpAny (model prog w) A (delItem (.ref l) (.ref sl)) Q E s := by
  obtain ⟨os, hos, hcs, hds⟩ := id hs
  have hTs : s.TypeIs (.ref sl) "slice" := ⟨os, hos, hcs⟩
  have hT : s.TypeIs (.ref l) "list" := ⟨_, hl, rfl⟩
  refine wpAny_delItem_slot hT (by decide) PySem.F.slot_list_delitem (wpAny_call_entry PySem.F.slot_list_delitem hT PySem.F.entry_list_delitem ?_ (PySem.F.args_list_delitem_2 _ _))
  show wpAny _ _ (Builtin.List.listSubscript? (.ref sl) >>= _) _ _ s
  refine wpAny_bind ?_
  unfold Builtin.List.listSubscript?
  refine wpAny_bind (wpAny_specialOf hTs slice_no_index ?_)
  simp only [Option.isNone_none, if_true]
  refine wpAny_pure ?_
  show wpAny _ _ (typeOf (.ref sl) >>= _) _ _ s
  refine wpAny_bind (wpAny_typeOf hTs ?_)
  rw [if_neg (by decide)]
  rw [listSliceParts_eq]
  refine wpAny_bind (wpAny_bind (wpAny_field hos hds (x := .none) rfl (wpAny_bind (wpAny_listPart .none ?_))))
  rw [if_neg (by decide)]
  refine wpAny_bind (wpAny_field hos hds (x := .int k t) rfl (wpAny_bind (wpAny_listPart (.int _ _) ?_)))
  refine wpAny_bind (wpAny_field hos hds (x := .none) rfl (wpAny_bind (wpAny_listPart .none (wpAny_pure ?_))))
  refine wpAny_bind (m := Builtin.List.listItems (.ref l)) ?_
  unfold Builtin.List.listItems
  refine wpAny_bind (wpAny_seqItems hl rfl (wpAny_pure ?_))
  refine wpAny_bind (wpAny_of_eq (sliceIndices_raw (some (k : Int)) none none items.size (fun h => nomatch h)) ?_)
  rw [show sliceBounds (some (k : Int)) none none items.size = ((k : Int), (items.size : Int), 1) by unfold sliceBounds; simp; omega]
  refine wpAny_bind (wpAny_rule (wpAny_bind (wpAny_updateSeq hl rfl (wpAny_bind (wpAny_letGo (wpAny_pure ⟨_, rfl, ?_⟩))) hsz ?_)))
  · refine h _ _ ((IsL.update (n := n) hl _).trans (congrArg (fun a => some (listOf a _)) (congrArg List.toArray (keep_take (k := k) items.toList 0 fun j _ hj => ?_)))) (Heap.SameBut.update ..)
    rw [Array.length_toList] at hj
    show (if (1 : Int) > 0 then decide ((k : Int) ≤ (j : Int)) && decide ((j : Int) < (items.size : Int)) && (((j : Int) - k) % 1 == 0) else _) = _
    rw [if_pos (by decide), show ((j : Int) - k) % 1 = 0 by exact Om37, decide_eq_true (show (j : Int) < items.size by exact Om38 hj)]
    simp
  · refine Nat.le_trans ?_ (Nat.le_succ_of_le hsz)
    rw [List.size_toArray]
    refine Nat.le_trans (List.length_filterMap_le _ _) ?_
    simp
end

section
variable {G : Glo} (hG : GloOk G) {cf : Cf} {n : Nat}
set_option tactic.hygienic true in
theorem cutV_some {σ σ' : AH} {v : V} {k : V} (e : cutV σ v k = some σ') : ∃ (i : Int) (o : Nat) (xs : List V), k = .int i ∧ v = .obj o ∧ σ[o]? = some (.list xs) ∧ (o ≠ 0 ∧ 0 ≤ i ∧ i ≤ xs.length ∧ xs.length < 1000000) ∧ σ' = σ.set o (.list (xs.take i.toNat)) := by
  cases k with
  | int i =>
    cases v with
    | obj o =>
      have e : (match σ[o]? with | some (.list xs) => if o ≠ 0 ∧ 0 ≤ i ∧ i ≤ xs.length ∧ xs.length < 1000000 then some (σ.set o (.list (xs.take i.toNat))) else none | _ => none) = some σ' := e
      split at e
      · rename_i xs h
        split at e
        · rename_i h1; cases e; exact ⟨i, o, xs, rfl, rfl, h, h1, rfl⟩
        · cases e
      · cases e
    | _ => cases e
  | _ => cases e

set_option tactic.hygienic true in
theorem sim_delFrom {i j : Nat} : SimS G cf n (.delFrom i j) := by
  intro X x c L env A he hLB hA s φ σ ρ ok lo Q q E hE
  refine atDelete_elim c fun xs pos c => ?_
  rcases xs with _ | ⟨t, _ | ⟨_, _⟩⟩
  · exact Bool.noConfusion (show false = true from c)
  · refine onSubscript_elim (x := t) c fun y z p1 c => ?_
    have c2 := and_r c
    have c1 := and_l c
    refine onName_elim (x := y) c1 fun nm np c1 => ?_
    have d2 := and_r c1
    have d1 := and_l c1
    refine onSlice_elim (x := z) c2 fun lo' up st p2 c3 => ?_
    have c6 := and_r c3
    have c3 := and_l c3
    have c5 := and_r c3
    have c4 := and_l c3
    cases Option.isNone_iff_eq_none.mp c4
    cases Option.isNone_iff_eq_none.mp c5
    cases lo' with
    | none => exact Bool.noConfusion (show false = true from c6)
    | some u =>
    refine onName_elim (x := u) c6 fun nm2 np2 c6 => ?_
    have d4 := and_r c6
    have d3 := and_l c6
    simp only [ZO] at q
    split at q
    · rename_i v e1
      split at q
      · rename_i k e2
        split at q
        · rename_i σ' e3
          obtain ⟨k0, o, xs, rfl, rfl, e4, hl, rfl⟩ := cutV_some e3
          obtain ⟨k, rfl⟩ : ∃ k : Nat, k0 = k := ⟨k0.toNat, by exact Om39 hl⟩
          rw [Int.toNat_natCast] at q
          refine wpAny_Delete (wpAny_deleteEach_cons ?_)
          rw [arm_delete_Subscript]
          refine wpAny_bind (name_loc he lo ok (beq_iff_eq.mp d1) d2 e1 fun w rw' => wpAny_bind (wpAny_holding (wpAny_Slice ?_)))
          rw [evalPart_some]
          refine name_loc he lo ok (beq_iff_eq.mp d3) d4 e2 fun w2 rw2 => ?_
          rw [evalPart_none]
          refine wpAny_pure (wpAny_pure ?_)
          obtain ⟨tk, rfl⟩ := rw2
          obtain ⟨a, rfl, ea, ws, m, hg, rl⟩ := rel_obj ok rw' e4
          have hs : ws.size = xs.length := by have := rl.length; simpa using this
          have okp := ok.push { cls := .type "slice", data := .fields #[.int k tk, .none, .none] }
          have hgp := Heap.get?_push_of_some { cls := .type "slice", data := .fields #[.int k tk, .none, .none] } hg
          have hsl := Heap.IsSliceOf.new s.heap (.int (k : Int) tk) .none .none
          refine wpAny_bind (wpAny_standAt (wpAny_bind (wpAny_holding (del_from (k := k) (n := m) hgp hsl (by exact Om40 hl hs) (by rw [hs, sizeLine_eq]; exact Om41 hl hs) fun h' n' g1 g2 => wpAny_release (wpAny_deleteEach_nil ?_)))))
          have x1 : Ext [] φ s.heap φ h' := (Ext.push _).trans (Ext.sameBut g2 (.inl (List.mem_of_getElem? ea)) (by rw [g1]; exact fun h => nomatch h))
          refine ⟨φ, _, ρ, .next, ext1 x1, okp.upd (o' := .list (xs.take k)) hl.1 ea g2 fun t => ⟨_, n', g1, ?_⟩, lo.ext ok x1, .next, q, rfl, rfl⟩
          have t0 : TK s.heap (s.heap.push { cls := .type "slice", data := .fields #[.int k tk, .none, .none] }) := fun b ws' ⟨ob, e, c⟩ => ⟨ob, Heap.get?_push_of_some _ e, c⟩
          exact ((rl.mono (List.prefix_refl _) t0).mono (List.prefix_refl _) t).take _
        · exact q.elim
      · exact q.elim
    · exact q.elim
  · exact Bool.noConfusion (show false = true from c)
end

end Mine
end

/-! N14 -/
noncomputable section
set_option maxHeartbeats 200000
open PyProof.Rows PySem PySem.Calls PySem.W
namespace Mine

theorem upFrom_len (a st : Int) : ∀ k, (upFrom a st k).length = k
  | 0 => rfl
  | k + 1 => by rw [upFrom, List.length_cons, upFrom_len]

noncomputable def ItAt (it : Addr) (src : Src) (all : List V) (φ : List Addr) (h : Heap) (j : Nat) : Prop := match src with
  | .tup _ => ∃ a ws, IsTupIter h it a j ∧ IsTup h a ws ∧ RelL h φ all ws.toList
  | .list o => ∃ a, φ[o]? = some a ∧ h.IsListIter it a j
  | .range => ∃ x st, IsRangeIter h it x ((all.length : Int) - (j : Int)) st ∧ all.drop j = upFrom x st (all.length - j)

theorem ItAt.notTup {it : Addr} {src : Src} {all : List V} {φ : List Addr} {h : Heap} {j : Nat} (x : ItAt it src all φ h j) (ws : Array Value) : ¬ IsTup h it ws := by
  rintro ⟨o, e, c, _⟩
  cases src with
  | tup _ => obtain ⟨a, ws, ⟨o', e', c', _⟩, _⟩ := x; rw [e] at e'; cases e'; rw [c] at c'; simp at c'
  | list _ => obtain ⟨a, _, ⟨o', e', c', _⟩⟩ := x; rw [e] at e'; cases e'; rw [c] at c'; simp at c'
  | range => obtain ⟨x, st, e', _⟩ := x; have e' : h.get? it = some _ := e'; rw [e] at e'; cases e'; simp at c
theorem ItAt.live {it : Addr} {src : Src} {all : List V} {φ : List Addr} {h : Heap} {j : Nat} (x : ItAt it src all φ h j) : h.get? it ≠ none := by
  cases src with
  | tup _ => obtain ⟨a, ws, ⟨o', e', c', _⟩, _⟩ := x; rw [e']; simp
  | list _ => obtain ⟨a, _, ⟨o', e', c', _⟩⟩ := x; rw [e']; simp
  | range => obtain ⟨x, st, e', _⟩ := x; have e' : h.get? it = some _ := e'; rw [e']; simp

theorem ItAt.carry {it : Addr} {src : Src} {all : List V} {φ φ' : List Addr} {h h' : Heap} {j : Nat} (x : ItAt it src all φ h j) (p : φ <+: φ') (t : TK h h') (k : ∀ o, h.get? it = some o → h'.get? it = some o) : ItAt it src all φ' h' j := by
  cases src with
  | tup _ => obtain ⟨a, ws, ⟨o', e', c'⟩, ht, rl⟩ := x; exact ⟨a, ws, ⟨o', k _ e', c'⟩, t _ _ ht, rl.mono p t⟩
  | list _ => obtain ⟨a, ea, ⟨o', e', c'⟩⟩ := x; exact ⟨a, prefix_get p ea, ⟨o', k _ e', c'⟩⟩
  | range => obtain ⟨x, st, e', r⟩ := x; exact ⟨x, st, k _ e', r⟩

theorem TK.sameBut {it : Addr} {h h' : Heap} (n : ∀ ws, ¬ IsTup h it ws) (hs : Heap.SameBut it h h') : TK h h' := fun a ws t => by
  have : a ≠ it := fun e => n ws (e ▸ t)
  obtain ⟨o, e, r⟩ := t
  exact ⟨o, (hs.2 a this).trans e, r⟩
theorem TK.extBut {it : Addr} {h h' : Heap} (n : ∀ ws, ¬ IsTup h it ws) (hs : Heap.ExtBut it h h') : TK h h' := fun a ws t => by
  have : a ≠ it := fun e => n ws (e ▸ t)
  obtain ⟨o, e, r⟩ := t
  exact ⟨o, hs a o this e, r⟩

section
variable {G : Glo} (hG : GloOk G) {cf : Cf} {n : Nat}

theorem it_next {A : Around} {it : Addr} {src : Src} {all : List V} {φ : List Addr} {σ : AH} {s : Shared} {j : Nat} {v : V} (hI : ItAt it src all φ s.heap j) (st : stays σ all src) (ok : Ok G.C φ σ s.heap) (e : all[j]? = some v) {Q : Option Value → Shared → Prop} {E : Value → Shared → Prop}
    (q : ∀ w h' tk, Heap.SameBut it s.heap h' → ItAt it src all φ h' (j + 1) → Rel h' φ v w → Q (some w) { s with heap := h', toks := tk }) : wpAny (MM G) A (pyNext (.ref it)) Q E s := by
  have nt := hI.notTup
  cases src with
  | tup _ =>
    obtain ⟨a, ws, hit, ht, rl⟩ := hI
    obtain ⟨w, e2, rw'⟩ := rl.get' e
    refine next_tuple_item hit ht e2 fun h' hit' hs => ?_
    have t := TK.sameBut nt hs
    exact q w h' s.toks hs ⟨a, ws, hit', t _ _ ht, rl.mono (List.prefix_refl _) t⟩ (rw'.mono (List.prefix_refl _) t)
  | list o =>
    obtain ⟨a, ea, hit⟩ := hI
    obtain ⟨b, eb, ws, m, hl, rl⟩ := ok.obj o _ st
    rw [ea] at eb; cases eb
    obtain ⟨w, e2, rw'⟩ := rl.get' e
    refine wpAny_pyNext_list_item hit (PySem.IsL.isList (n := m) hl) e2 fun h' hit' hs => ?_
    have t := TK.sameBut nt hs
    exact q w h' s.toks hs ⟨a, ea, hit'⟩ (rw'.mono (List.prefix_refl _) t)
  | range =>
    obtain ⟨x, stp, hit, hd⟩ := hI
    have hj : j < all.length := (List.getElem?_eq_some_iff.mp e).1
    refine wpAny_pyNext_range_item hit (by exact Om42 hj) fun h' hit' hs => ?_
    have e1 : all.length - j = (all.length - (j + 1)) + 1 := by exact Om43 hj
    rw [e1, List.drop_eq_getElem_cons hj, upFrom] at hd
    injection hd with hd1 hd2
    have hv : v = .int x := by
      have := (List.getElem?_eq_some_iff.mp e).2
      rw [← this, hd1]
    subst hv
    refine q _ h' (s.toks + 1) hs ⟨x + stp, stp, ?_, hd2⟩ ⟨_, rfl⟩
    have : ((all.length : Int) - ((j + 1 : Nat) : Int)) = (all.length : Int) - (j : Int) - 1 := by exact Om44
    rw [this]; exact hit'

theorem it_end {A : Around} (hh : A.handled = none) {it : Addr} {src : Src} {all : List V} {φ : List Addr} {σ : AH} {s : Shared} {j : Nat} (hI : ItAt it src all φ s.heap j) (st : stays σ all src) (ok : Ok G.C φ σ s.heap) (e : j = all.length) {Q : Option Value → Shared → Prop} {E : Value → Shared → Prop}
    (q : ∀ h', Heap.ExtBut it s.heap h' → Q none { s with heap := h' }) : wpAny (MM G) A (pyNext (.ref it)) Q E s := by
  cases src with
  | tup _ =>
    obtain ⟨a, ws, hit, ht, rl⟩ := hI
    have hl : ws.size = all.length := by have := rl.length; simpa using this
    exact next_tuple_end hh hit ht (Array.getElem?_eq_none (by exact Om45 e hl)) q
  | list o =>
    obtain ⟨a, ea, hit⟩ := hI
    obtain ⟨b, eb, ws, m, hl, rl⟩ := ok.obj o _ st
    rw [ea] at eb; cases eb
    have hs : ws.size = all.length := by have := rl.length; simpa using this
    exact wpAny_pyNext_list_end hh hit (PySem.IsL.isList (n := m) hl) (Array.getElem?_eq_none (by exact Om45 e hs)) q
  | range =>
    obtain ⟨x, stp, hit, hd⟩ := hI
    exact wpAny_pyNext_range_end hh hit (by exact Om46 e) q

theorem ItAt.nodict {it : Addr} {src : Src} {all : List V} {φ : List Addr} {h : Heap} {j : Nat} (x : ItAt it src all φ h j) (o : Obj) (es : Array DictEntry) (ep : Nat) (e : h.get? it = some o) : o.data ≠ .dict es ep := fun d => by
  cases src with
  | tup _ => obtain ⟨a, ws, ⟨o', e', c', d'⟩, _⟩ := x; rw [e] at e'; cases e'; rw [d] at d'; cases d'
  | list _ => obtain ⟨a, _, ⟨o', e', c', d'⟩⟩ := x; rw [e] at e'; cases e'; rw [d] at d'; cases d'
  | range => obtain ⟨x, st, e', _⟩ := x; have e' : h.get? it = some _ := e'; rw [e] at e'; cases e'; cases d
/-- how a loop stands ahead of its turn j -/
structure ForSt (G : Glo) (cf : Cf) (X : Ck) (L : Fm) (φ₀ : List Addr) (s₀ : Shared) (it : Addr) (src : Src) (all : List V) (i : Nat) (b : SL) (Q : Fl → En → AH → Prop) (φ' : List Addr) (σ' : AH) (ρ' : En) (j : Nat) (s' : Shared) : Prop where
  ext : Ext (it :: L.own) φ₀ s₀.heap φ' s'.heap
  ok : Ok G.C φ' σ' s'.heap
  lo : Loc G.C.hB X ρ' φ' s'.heap L
  nm : it ∉ φ'
  at_ : ItAt it src all φ' s'.heap j
  go : forGo all src (wT G.P cf (.loc i)) (wSL G.P cf b) (all.drop j) ρ' σ' Q
  le : j ≤ all.length
  g : s'.gens = s₀.gens
  o : s'.os = s₀.os

section
variable {X : Ck} {L : Fm} {env : Env} {A : Around} {b : SL} {bs : List Stmt} {x : PySem.Str} {p : Pos} {i : Nat} {s₀ s s' : Shared} {φ₀ φ φ' : List Addr} {σ σ' : AH} {ρ ρ' : En} {it : Addr} {src : Src} {all : List V} {Q : Fl → En → AH → Prop} {E : Value → Shared → Prop} {j : Nat}

theorem ForSt.strong (fr : s₀.heap.get? it = none) {φ'' : List Addr} {h'' : Heap} (y : Ext (it :: L.own) φ₀ s₀.heap φ'' h'') : Ext L.own φ₀ s₀.heap φ'' h'' := y.strong fun a m => by
  rcases List.mem_cons.mp m with rfl | m
  · exact .inr fr
  · exact .inl m
theorem ForSt.okk (F : ForSt G cf X L φ₀ s₀ it src all i b Q φ' σ' ρ' j s') (itB : G.C.hB.get? it = none) {h' : Heap} (hk : ∀ a o, a ≠ it → s'.heap.get? a = some o → h'.get? a = some o) (t : TK s'.heap h') : Ok G.C φ' σ' h' :=
  F.ok.ext (fun b o e => hk b o (fun z => by rw [z, itB] at e; cases e) (F.ok.base b o e)) t fun a m => by
    obtain ⟨ob, e, _⟩ := F.ok.live m
    rw [e]; exact hk a ob (fun z => F.nm (z ▸ m)) e

theorem for_turn (he : EnvOk A X L env) (hLB : ∀ a ∈ L.own, G.C.hB.get? a = none) (hA : AOk A (n + 1)) (ih : SimSL G cf n b) (cb : ckSL G X b bs = true) (hx : X.names[i]? = some x) (hk : ckVar X x = true) (fr : s₀.heap.get? it = none) (itB : G.C.hB.get? it = none) (itL : it ∉ L.own)
    (F : ForSt G cf X L φ₀ s₀ it src all i b Q φ' σ' ρ' j s') (hj : j < all.length) {P : Flow → Shared → Prop} (ret : ∀ f s, PostS G.C X L φ₀ s₀ Q f s → (∃ v, f = .ret v) → P f s)
    (next : ∀ f s φ σ ρ, (f = .next ∨ f = .cont) → ForSt G cf X L φ₀ s₀ it src all i b Q φ σ ρ (j + 1) s → P f s) :
    wpAny (MM G) A (pyNext (.ref it)) (fun r s => match r with | some v => wpAny (MM G) A (assign (.Name x p) env v) (fun _ s => wpAny (MM G) A (execs bs env) P E s) E s | none => False) E s' := by
  have nt := F.at_.notTup
  have go := F.go
  rw [List.drop_eq_getElem_cons hj] at go
  obtain ⟨st, go⟩ := go
  refine it_next F.at_ st F.ok (List.getElem?_eq_getElem hj) fun w h' tk hs hI' rw' => ?_
  have t := TK.sameBut nt hs
  have hkp : ∀ a o, a ≠ it → s'.heap.get? a = some o → h'.get? a = some o := fun a o ne e => (hs.2 a ne).trans e
  have y1 : Ext (it :: L.own) φ' s'.heap φ' h' := Ext.sameBut hs (.inr (.head _)) hI'.live
  have lo1 := F.lo.but t hkp itL F.at_.nodict
  refine wpAny_assign_Name (store_loc (s := { s' with heap := h', toks := tk }) he hLB (F.okk itB hkp t) lo1 hx hk rw' fun s₂ z1 z2 z3 z5 z6 => ?_)
  refine wpAny_mono (ih X bs cb L env A he hLB hA s₂ φ' σ' _ z2 z3 _ go NR (Ex.never fun _ _ z => z)) (fun f s₃ p => ?_) fun _ _ z => z.elim
  refine p.elim fun φ₃ σ₃ ρ₃ fl a1 a2 a3 a4 a5 a6 a7 => ?_
  have w1 : Ext (it :: L.own) φ₀ s₀.heap φ₃ s₃.heap := ((F.ext.trans y1).trans (z1.weak fun a m => List.mem_cons_of_mem _ m)).trans (a1.weak fun a m => List.mem_cons_of_mem _ m)
  have kp : ∀ {φ φ' : List Addr} {h h' : Heap} {j : Nat}, Ext L.own φ h φ' h' → it ∉ φ → ItAt it src all φ h j → ∀ o, h.get? it = some o → h'.get? it = some o := fun y n I o e => by
    obtain ⟨o', e', s⟩ := y.keep it o n itL e
    rw [s.eq fun es ep => I.nodict o es ep e] at e'
    exact e'
  have w2 : ItAt it src all φ' s₂.heap (j + 1) := hI'.carry (List.prefix_refl _) (lo1.tk (F.okk itB hkp t) z1) (kp z1 F.nm hI')
  have w3 : ItAt it src all φ₃ s₃.heap (j + 1) := w2.carry a1.pref (z3.tk z2 a1) (kp a1 F.nm w2)
  have w4 : it ∉ φ₃ := by
    obtain ⟨ψ, e1, e2⟩ := a1.pre
    rw [e1]
    intro m
    rcases List.mem_append.mp m with m | m
    · exact F.nm m
    · exact w2.live (e2 it m)
  have nx : ∀ (k : forGo all src (wT G.P cf (.loc i)) (wSL G.P cf b) (all.drop (j + 1)) ρ₃ σ₃ Q), ForSt G cf X L φ₀ s₀ it src all i b Q φ₃ σ₃ ρ₃ (j + 1) s₃ := fun k => ⟨w1, a2, a3, w4, w3, k, hj, a6.trans (z5.trans F.g), a7.trans (z6.trans F.o)⟩
  cases a4 with
  | next => exact next _ _ _ _ _ (.inl rfl) (nx a5)
  | cont => exact next _ _ _ _ _ (.inr rfl) (nx a5)
  | ret r => exact ret _ _ ⟨φ₃, σ₃, ρ₃, _, ForSt.strong fr w1, a2, a3, .ret r, a5, a6.trans (z5.trans F.g), a7.trans (z6.trans F.o)⟩ ⟨_, rfl⟩

theorem for_last (hA : AOk A (n + 1)) (fr : s₀.heap.get? it = none) (itB : G.C.hB.get? it = none) (itL : it ∉ L.own) (F : ForSt G cf X L φ₀ s₀ it src all i b Q φ' σ' ρ' j s') (hj : ¬ j < all.length) :
    wpAny (MM G) A (pyNext (.ref it)) (fun r s => match r with | some v => False | none => PostS G.C X L φ₀ s₀ Q .next s) E s' := by
  have le := F.le
  have hj' : j = all.length := by exact Om47 hj le
  have go := F.go
  rw [List.drop_eq_nil_of_le (by exact Om48 hj le)] at go
  obtain ⟨st, go⟩ := go
  refine it_end hA.handled F.at_ st F.ok hj' fun h' hs => ?_
  have t := TK.extBut F.at_.notTup hs
  have hkp : ∀ a o, a ≠ it → s'.heap.get? a = some o → h'.get? a = some o := fun a o ne e => hs a o ne e
  have w := ForSt.strong fr F.ext
  have ni : ∀ {a}, s₀.heap.get? a ≠ none → a ≠ it := fun e z => by rw [z] at e; exact e fr
  refine ⟨φ', σ', ρ', .next, ⟨w.pre, fun a o m m' e => ?_, fun a m e => ?_⟩, F.okk itB hkp t, F.lo.but t hkp itL F.at_.nodict, .next, go, F.g, F.o⟩
  · obtain ⟨o', e', z⟩ := w.keep a o m m' e
    exact ⟨o', hkp a o' (ni (by rw [e]; exact fun h => nomatch h)) e', z⟩
  · obtain ⟨o, e2⟩ := Option.ne_none_iff_exists'.mp (w.alive e)
    rw [hkp a o (ni e) e2]; exact fun h => nomatch h

theorem for_core (he : EnvOk A X L env) (hLB : ∀ a ∈ L.own, G.C.hB.get? a = none) (hA : AOk A (n + 1)) (ih : SimSL G cf n b) (cb : ckSL G X b bs = true) (hx : X.names[i]? = some x) (hk : ckVar X x = true) (fr : s₀.heap.get? it = none) (itB : G.C.hB.get? it = none) (itL : it ∉ L.own)
    (F : ForSt G cf X L φ₀ s₀ it src all i b Q φ σ ρ 0 s) :
    codeAny (MM G) A (.forLoop (.Name x p) (.ref it) bs [] env) (fun r s' => match r with | .ok f => PostS G.C X L φ₀ s₀ Q f s' | .error e => cameBackBy (MM G) A env E e s') s := by
  refine codeAny_forLoop (fun k s' => ∃ φ' σ' ρ' j, k = all.length - j ∧ ForSt G cf X L φ₀ s₀ it src all i b Q φ' σ' ρ' j s') ?_ all.length ⟨φ, σ, ρ, 0, rfl, F⟩
  rintro k s' ⟨φ', σ', ρ', j, rfl, F⟩
  by_cases hj : j < all.length
  · refine wpAny_mono (for_turn (p := p) (P := fun f s₃ => match f with
      | .next | .cont => ∃ m, m < all.length - j ∧ ∃ φ' σ' ρ' j, m = all.length - j ∧ ForSt G cf X L φ₀ s₀ it src all i b Q φ' σ' ρ' j s₃
      | .brk => PostS G.C X L φ₀ s₀ Q .next s₃
      | .ret v => PostS G.C X L φ₀ s₀ Q (.ret v) s₃) he hLB hA ih cb hx hk fr itB itL F hj (fun f s z ⟨v, e⟩ => by subst e; exact z) fun f s φ σ ρ e F' => ?_) (fun r s z => ?_) fun _ _ z => z
    · rcases e with rfl | rfl <;> exact ⟨all.length - (j + 1), by exact Om49 hj, φ, σ, ρ, j + 1, rfl, F'⟩
    · cases r with
      | none => exact z.elim
      | some v => exact z
  · refine wpAny_mono (for_last hA fr itB itL F hj) (fun r s z => ?_) fun _ _ z => z
    cases r with
    | none => exact wpAny_execs_nil z
    | some v => exact z.elim
end

theorem wS_for {i : Nat} {e : E} {b : SL} {ρ : En} {σ : AH} {Q : Fl → En → AH → Prop} (q : wS G.P cf (.for_ (.loc i) e b) ρ σ Q) :
    (∃ es, e = .blt 1 es ∧ wL G.P cf es ρ σ fun vs σ' => match rangeV vs with | some items => forGo items .range (wT G.P cf (.loc i)) (wSL G.P cf b) items ρ σ' Q | none => False) ∨
    wE G.P cf e ρ σ fun v σ' => match iterV σ' v with | some (items, src) => forGo items src (wT G.P cf (.loc i)) (wSL G.P cf b) items ρ σ' Q | none => False := by
  cases e with
  | blt k es =>
    rcases k with _ | _ | k
    · exact .inr q
    · exact .inl ⟨es, rfl, q⟩
    · exact .inr q
  | _ => exact .inr q

/-- what a for's loop gives, from its iterator on -/
noncomputable def ForEnd (G : Glo) (A : Around) (X : Ck) (L : Fm) (env : Env) (φ : List Addr) (s : Shared) (Q : Fl → En → AH → Prop) (E : Value → Shared → Prop) (x : PySem.Str) (p : Pos) (bs : List Stmt) : Value → Shared → Prop := fun it s₂ =>
  codeAny (MM G) A (.forLoop (.Name x p) it bs [] env) (fun r s' => match r with | .ok f => PostS G.C X L φ s Q f s' | .error e => cameBackBy (MM G) A env E e s') s₂

theorem for_start {X : Ck} {L : Fm} {env : Env} {A : Around} (he : EnvOk A X L env) (hLB : ∀ a ∈ L.own, G.C.hB.get? a = none) (hA : AOk A (n + 1)) {b : SL} (ih : SimSL G cf n b) {bs : List Stmt} (cb : ckSL G X b bs = true) {x : PySem.Str} {p : Pos} {i : Nat} (hx : X.names[i]? = some x) (hk : ckVar X x = true)
    {s s' : Shared} {φ φ' : List Addr} {σ σ' : AH} {ρ : En} {src : Src} {items : List V} {Q : Fl → En → AH → Prop} {E : Value → Shared → Prop} (ok : Ok G.C φ σ s.heap) (lo : Loc G.C.hB X ρ φ s.heap L) (x1 : Ext [] φ s.heap φ' s'.heap) (x2 : Ok G.C φ' σ' s'.heap)
    (x4 : forGo items src (wT G.P cf (.loc i)) (wSL G.P cf b) items ρ σ' Q) (x5 : s'.gens = s.gens) (x6 : s'.os = s.os) (ob : Obj) (hI : ItAt s'.heap.objs.size src items φ' (s'.heap.push ob) 0) :
    ForEnd G A X L env φ s Q E x p bs (.ref s'.heap.objs.size) { s' with heap := s'.heap.push ob } := by
  have lo1 := lo.ext ok x1
  have fr := fresh_size s'.heap
  have fr0 : s.heap.get? s'.heap.objs.size = none := by
    cases q : s.heap.get? s'.heap.objs.size with
    | none => rfl
    | some o => exact absurd fr (x1.alive (by rw [q]; exact fun h => nomatch h))
  refine for_core (s := { s' with heap := s'.heap.push ob }) he hLB hA ih cb hx hk fr0 ?_ (fun m => lo1.live m fr) ⟨(x1.trans (Ext.push _)).weak (fun _ m => nomatch m), x2.push ob, lo1.ext x2 (Ext.push _), fun m => ?_, hI, x4, Nat.zero_le _, x5, x6⟩
  · cases q : G.C.hB.get? s'.heap.objs.size with
    | none => rfl
    | some o => have := x2.base _ _ q; rw [fr] at this; cases this
  · obtain ⟨ob, e, _⟩ := x2.live m
    rw [fr] at e; cases e

theorem range_size1 (b : Int) : Builtin.Range.rangeSize 0 b 1 = b.toNat := by
  unfold Builtin.Range.rangeSize
  rw [if_pos (by decide)]
  split <;> omega
theorem range_size3 (a b : Int) : Builtin.Range.rangeSize a b (-1) = (a - b).toNat := by
  unfold Builtin.Range.rangeSize
  rw [if_neg (by decide), show (- (-1) : Int) = 1 from rfl]
  split <;> omega
theorem small_of {b : Int} (h : small b = true) : -1000 < b ∧ b < 1000 := by
  unfold small at h
  have h2 := and_r h
  have h1 := and_l h
  exact ⟨of_decide_eq_true h1, of_decide_eq_true h2⟩
theorem range_small {a b c : Int} {k : Nat} (h : Builtin.Range.rangeSize a b c = k) (ha : -2000 < a ∧ a < 2000) (hb : -2000 < b ∧ b < 2000) (hc : -2 < c ∧ c < 2) (hk : k < 2000) : Builtin.Range.small a b c = true := by
  unfold Builtin.Range.small
  rw [h]
  unfold Builtin.Range.rangeFitsLong
  simp
  split <;> omega

/-- range(..) makes a range -/
theorem range_call {A : Around} {s : Shared} {φ : List Addr} {vs items : List V} {ws : List Value} (hr : rangeV vs = some items) (r : RelL s.heap φ vs ws) {P : Value → Shared → Prop} {E : Value → Shared → Prop}
    (fin : ∀ (a b c : Int) (t u v : Tok) (tk : Nat), Builtin.Range.small a b c = true → Builtin.Range.rangeSize a b c = items.length → items = upFrom a c items.length →
      P (.ref s.heap.objs.size) { s with heap := s.heap.push { cls := .type "range", data := .fields #[.int a t, .int b u, .int c v] }, toks := tk }) :
    wpAny (MM G) A (call (.type "range") ws) P E s := by
  revert r fin
  refine range_el (P := fun vs items => RelL s.heap φ vs ws → (∀ (a b c : Int) (t u v : Tok) (tk : Nat), Builtin.Range.small a b c = true → Builtin.Range.rangeSize a b c = items.length → items = upFrom a c items.length →
      P (.ref s.heap.objs.size) { s with heap := s.heap.push { cls := .type "range", data := .fields #[.int a t, .int b u, .int c v] }, toks := tk }) → wpAny (MM G) A (call (.type "range") ws) P E s) (fun b0 hs r fin => ?_) (fun a0 b0 hs1 hs2 r fin => ?_) hr
  · obtain ⟨w1, _, rfl, ⟨t1, rfl⟩, rn⟩ := r
    cases rn
    have hs := small_of hs
    have hz := range_size1 b0
    exact call_range_1 (fin 0 b0 1 _ _ _ _ (range_small hz ⟨by exact Om50, by exact Om51⟩ ⟨by exact Om52 hs, by exact Om53 hs⟩ (by decide) (by exact Om54 hs)) (by rw [upFrom_len]; exact hz) (by rw [upFrom_len]))
  · obtain ⟨w1, _, rfl, ⟨t1, rfl⟩, w2, _, rfl, ⟨t2, rfl⟩, w3, _, rfl, ⟨t3, rfl⟩, rn⟩ := r
    cases rn
    have hs1 := small_of hs1
    have hs2 := small_of hs2
    have hz := range_size3 a0 b0
    exact call_range_3 (by decide) (fin a0 b0 (-1) _ _ _ _ (range_small hz ⟨by exact Om52 hs1, by exact Om53 hs1⟩ ⟨by exact Om52 hs2, by exact Om53 hs2⟩ (by decide) (by exact Om55 hs1 hs2)) (by rw [upFrom_len]; exact hz) (by rw [upFrom_len])) (.inl (PyProof.noPylong_small (by decide)))

theorem folded_ix {y : PySem.Expr} {env : Env} (h : okIx y.ctorIdx = true) (v : Value) : foldedSetIterable y env v = pure v := by
  cases y <;> first | rfl | cases h

set_option tactic.hygienic true in
include hG in
theorem for_rng (hcf : SimCf G cf n) {X : Ck} {L : Fm} {env : Env} {A : Around} (he : EnvOk A X L env) (hLB : ∀ a ∈ L.own, G.C.hB.get? a = none) (hA : AOk A (n + 1)) {b : SL} (ih : SimSL G cf n b) {bs : List Stmt} (cb : ckSL G X b bs = true) {x : PySem.Str} {p : Pos} {i : Nat} (hx : X.names[i]? = some x) (hk : ckVar X x = true)
    {s : Shared} {φ : List Addr} {σ : AH} {ρ : En} {es : EL} {y : PySem.Expr} {Q : Fl → En → AH → Prop} {E : Value → Shared → Prop} (ok : Ok G.C φ σ s.heap) (lo : Loc G.C.hB X ρ φ s.heap L) (c : ckE G X (.blt 1 es) y = true)
    (q : wL G.P cf es ρ σ fun vs σ' => match rangeV vs with | some items => forGo items .range (wT G.P cf (.loc i)) (wSL G.P cf b) items ρ σ' Q | none => False) :
    wpAny (MM G) A (eval y env) (fun v s₁ => wpAny (MM G) A (pyIter v) (ForEnd G A X L env φ s Q E x p bs) E s₁) E s := by
  refine onCall_elim c fun g xs kws p2 c => ?_
  have c0 := and_l c
  have c := and_r c
  obtain rfl := List.isEmpty_iff.mp c0
  refine onName_elim c fun y p3 c => ?_
  have d4 := and_r c
  have c := and_l c
  have d3 := and_r c
  have c := and_l c
  have d2 := and_r c
  have d1 := and_l c
  obtain rfl : y = PySem.Str.ofString "range" := (Option.some.inj (beq_iff_eq.mp d1)).symm
  obtain ⟨e1, e2⟩ := hG.bi 1 "range" rfl
  refine wpAny_Call_Name_kw (name_blt hG ok.base he d2 e1 e2 ?_)
  refine callW (P := fun _ => True) (back_all env p2 d3) (machine_keeps (fun a h => nomatch h)) (wpAny_mono ((simL hG hcf es X xs d3 L env A he hA s φ σ ρ ok lo).1 p2 _ q) (fun ws s' p => ⟨trivial, ?_⟩) fun _ _ z => z.elim)
  refine p.elim fun φ' σ' vs x1 x2 x3 xq x5 x6 => ?_
  have x4 := xq.2
  split at x4
  · rename_i items hr
    refine range_call hr x3 fun a b c t u v tk h1 h2 h3 => ?_
    refine wpAny_pyIter_range (Heap.get?_push_size _ rfl) h1 ?_
    refine for_start (s' := { s' with heap := s'.heap.push { cls := .type "range", data := .fields #[.int a t, .int b u, .int c v] }, toks := tk }) he hLB hA ih cb hx hk ok lo (x1.trans (Ext.push _)) (x2.push _) x4 x5 x6 _ ⟨a, c, ?_, (by simpa using h3)⟩
    have e := Heap.get?_push_size (s'.heap.push { cls := .type "range", data := .fields #[.int a t, .int b u, .int c v] }) (o := { cls := .type "range_iterator", data := .fields #[rawInt a, rawInt (Builtin.Range.rangeSize a b c), rawInt c] }) rfl
    rw [h2] at e ⊢
    exact e
  · exact x4.elim

set_option tactic.hygienic true in
include hG in
theorem for_plain (hcf : SimCf G cf n) {X : Ck} {L : Fm} {env : Env} {A : Around} (he : EnvOk A X L env) (hLB : ∀ a ∈ L.own, G.C.hB.get? a = none) (hA : AOk A (n + 1)) {b : SL} (ih : SimSL G cf n b) {bs : List Stmt} (cb : ckSL G X b bs = true) {x : PySem.Str} {p : Pos} {i : Nat} (hx : X.names[i]? = some x) (hk : ckVar X x = true)
    {s : Shared} {φ : List Addr} {σ : AH} {ρ : En} {e : E} {y : PySem.Expr} {Q : Fl → En → AH → Prop} {E : Value → Shared → Prop} (ok : Ok G.C φ σ s.heap) (lo : Loc G.C.hB X ρ φ s.heap L) (c : ckE G X e y = true)
    (q : wE G.P cf e ρ σ fun v σ' => match iterV σ' v with | some (items, src) => forGo items src (wT G.P cf (.loc i)) (wSL G.P cf b) items ρ σ' Q | none => False) :
    wpAny (MM G) A (eval y env) (fun v s₁ => wpAny (MM G) A (pyIter v) (ForEnd G A X L env φ s Q E x p bs) E s₁) E s := by
  refine wpAny_mono ((simE hG hcf e X y c L env A he hA s φ σ ρ ok lo).1 _ q) (fun w s' pp => ?_) fun _ _ z => z.elim
  refine pp.elim fun φ' σ' v x1 x2 x3 x4 x5 x6 => ?_
  split at x4
  · rename_i items src hr
    have go : ∀ ob : Obj, ItAt s'.heap.objs.size src items φ' (s'.heap.push ob) 0 → ForEnd G A X L env φ s Q E x p bs (.ref s'.heap.objs.size) { s' with heap := s'.heap.push ob } := fun ob => for_start he hLB hA ih cb hx hk ok lo x1 x2 x4 x5 x6 ob
    have t1 : ∀ ob, TK s'.heap (s'.heap.push ob) := fun ob b ws' ⟨o, e, z⟩ => ⟨o, Heap.get?_push_of_some _ e, z⟩
    cases v with
    | tup vs =>
      cases hr
      obtain ⟨a, ws, rfl, ht, rl⟩ := x3
      exact iter_tuple ht (go _ ⟨a, ws, ⟨_, Heap.get?_push_size _ rfl, rfl, rfl⟩, t1 _ _ _ ht, rl.mono (List.prefix_refl _) (t1 _)⟩)
    | obj o =>
      simp only [iterV] at hr
      split at hr
      · rename_i xs e1
        split at hr
        · cases hr
          obtain ⟨a, rfl, ea, ws, m, hl, rl⟩ := rel_obj x2 x3 e1
          exact wpAny_pyIter_list (PySem.IsL.isList (n := m) hl) (go _ ⟨a, ea, ⟨_, Heap.get?_push_size _ rfl, rfl, rfl⟩⟩)
        · cases hr
      · cases hr
    | _ => cases hr
  · exact x4.elim

include hG in
theorem sim_for (hcf : SimCf G cf n) {t : T} {e : E} {b : SL} (ih : SimSL G cf n b) : SimS G cf n (.for_ t e b) := by
  intro X x c L env A he hLB hA s φ σ ρ ok lo Q q E hE
  refine atFor_elim c fun tg y bs els pos c => ?_
  have c4 := and_r c
  have c := and_l c
  have c3 := and_r c
  have c := and_l c
  have c1 := and_r c
  have c := and_l c
  obtain rfl := List.isEmpty_iff.mp c
  cases t with
  | loc i =>
    refine onName_elim c1 fun x p c => ?_
    have c2 := and_r c
    have c1 := and_l c
    refine wpAny_For ?_ (folded_ix (ckE_ix c3))
    rcases wS_for q with ⟨es, rfl, q⟩ | q
    · exact for_rng hG hcf he hLB hA ih c4 (beq_iff_eq.mp c1) c2 ok lo c3 q
    · exact for_plain hG hcf he hLB hA ih c4 (beq_iff_eq.mp c1) c2 ok lo c3 q
  | _ => exact Bool.noConfusion (show false = true from c1)

mutual
theorem simS (hG : GloOk G) (hcf : SimCf G cf n) : ∀ t : S, SimS G cf n t
  | .assign t e => sim_assign hG hcf
  | .augLoc i op e => sim_augLoc hG hcf
  | .augSub e i op r => sim_augSub hG hcf
  | .expr e => sim_expr hG hcf
  | .ite c a b => sim_ite hG hcf (simSL hG hcf a) (simSL hG hcf b)
  | .while c b => sim_while hG hcf (simSL hG hcf b)
  | .for_ t e b => sim_for hG hcf (simSL hG hcf b)
  | .ret e => sim_ret hG hcf
  | .retN => sim_retN
  | .cont => sim_cont
  | .pass => sim_pass
  | .delFrom i j => sim_delFrom
  | .raise e => sim_raise hG hcf
  | .tryRet m e es => sim_tryRet hG hcf
  | .stuck => fun _ _ _ _ _ _ _ _ _ _ _ _ _ _ _ _ q _ _ => (show False from q).elim
theorem simSL (hG : GloOk G) (hcf : SimCf G cf n) : ∀ t : SL, SimSL G cf n t
  | .nil => simSL_nil
  | .cons s ss => simSL_cons (simS hG hcf s) (simSL hG hcf ss)
end
end

end Mine
end

/-! N15 -/
noncomputable section
set_option maxHeartbeats 200000
open PyProof.Rows PySem PySem.Calls PySem.W
namespace Mine

structure FnOk (G : Glo) (f : Nat) (fn : Fn) (o : Obj) (fd : FuncData) (body : List Stmt) (names : List PySem.Str) (dws : List Value) : Prop where
  ho : G.C.hB.get? (G.faddr f) = some o
  hd : o.data = .func fd
  cd : G.C.hB.CodeRec fd.code fd.qualname
  hb : fd.body = .stmts body
  co : fd.scope.isCoroutine = false
  gen : fd.scope.isGenerator = false
  kind : fd.scope.kind = .function
  clo : fd.closure = []
  ndn : (fd.scope.names.map (·.1)).Nodup
  glob : fd.globals = mainGlobals
  bu : fd.builtins = builtinsNs
  nd : names.Nodup
  loc : ∀ x ∈ names.take (fn.arity + fn.dflt.length), fd.scope.names.lookup x = some .local
  many : fn.arity + fn.dflt.length ≤ names.length
  dflt : RelL G.C.hB [] fn.dflt dws
  bind : ∀ (s : Shared) (ws : List Value), G.C.hB.StaysIn s.heap → ws.length = fn.arity → BindsTo s fd ⟨ws, []⟩ (names.zip (ws ++ dws))
  ck : ckSL G ⟨fd.scope, names⟩ fn.body body = true

theorem bindE_get {vs : List V} : ∀ {k j : Nat} {v : V}, bindE k vs j = some v → ∃ i, j = k + i ∧ vs[i]? = some v := by
  induction vs with
  | nil => intro k j v e; cases e
  | cons u vs ih =>
    intro k j v e
    simp only [bindE] at e
    by_cases q : j = k
    · rw [if_pos q] at e
      exact ⟨0, by exact Om56 q, by simpa using e⟩
    · rw [if_neg q] at e
      obtain ⟨i, e1, e2⟩ := ih e
      exact ⟨i + 1, by exact Om57 e1, by simpa using e2⟩

theorem lookup_of_mem {K W : Type} [BEq K] [LawfulBEq K] : ∀ {l : List (K × W)} {x : K} {w : W}, (l.map (·.1)).Nodup → (x, w) ∈ l → l.lookup x = some w
  | (y, u) :: l, x, w, nd, m => by
    rw [List.map_cons, List.nodup_cons] at nd
    rw [List.lookup_cons]
    rcases List.mem_cons.mp m with m | m
    · cases m; simp
    · have : x ≠ y := fun e => nd.1 (List.mem_map.mpr ⟨(x, w), m, e⟩)
      rw [beq_eq_false_iff_ne.mpr this]
      exact lookup_of_mem nd.2 m

theorem zip_take {A B : Type} : ∀ {l : List A} {k : Nat} {ws : List B}, ws.length = k → l.zip ws = (l.take k).zip ws
  | [], _, _, _ => by simp
  | _ :: _, _, [], _ => by simp
  | x :: l, 0, _ :: _, h => by simp at h
  | x :: l, k + 1, w :: ws, h => by rw [List.take_succ_cons, List.zip_cons_cons, List.zip_cons_cons, ← zip_take (by simpa using h)]
theorem zip_keys : ∀ {names : List PySem.Str} {ws : List Value}, names.Nodup → ((names.zip ws).map (·.1)).Nodup
  | [], _, _ => by simp
  | _ :: _, [], _ => by simp
  | x :: xs, w :: ws, nd => by
    rw [List.nodup_cons] at nd
    rw [List.zip_cons_cons, List.map_cons, List.nodup_cons]
    refine ⟨fun m => ?_, zip_keys nd.2⟩
    obtain ⟨⟨y, u⟩, m1, e⟩ := List.mem_map.mp m
    have e : y = x := e
    subst e
    exact nd.1 (List.of_mem_zip m1).1

theorem bindL_miss {k : PySem.Str → Option NameKind} : ∀ {r : List (PySem.Str × Value)} {m : PySem.Str → Option Value} {x : PySem.Str}, x ∉ r.map (·.1) → bindL k r m x = m x
  | [], _, _, _ => rfl
  | (n, v) :: r, m, x, h => by
    have h1 : x ≠ n := fun e => h (e ▸ .head _)
    have h2 : x ∉ r.map (·.1) := fun e => h (.tail _ e)
    show bindL k r (if k n = some .local then fun y => if y = n then some v else m y else m) x = m x
    rw [bindL_miss h2]
    split
    · exact if_neg h1
    · rfl
theorem bindL_hit {k : PySem.Str → Option NameKind} : ∀ {r : List (PySem.Str × Value)} {m : PySem.Str → Option Value} {x : PySem.Str} {w : Value}, (r.map (·.1)).Nodup → (∀ y ∈ r, k y.1 = some .local) → (x, w) ∈ r → bindL k r m x = some w
  | (n, v) :: r, m, x, w, nd, hl, h => by
    have nd := List.nodup_cons.mp nd
    show bindL k r (if k n = some .local then fun y => if y = n then some v else m y else m) x = some w
    rw [if_pos (hl _ (.head _))]
    rcases List.mem_cons.mp h with e | h
    · cases e
      rw [bindL_miss nd.1]
      exact if_pos rfl
    · exact bindL_hit nd.2 (fun y m => hl y (.tail _ m)) h
theorem bindC_none {k : PySem.Str → Option NameKind} : ∀ {r : List (PySem.Str × Value)} {m : PySem.Str → Option Value}, (∀ y ∈ r, k y.1 = some .local) → bindC k r m = m
  | [], _, _ => rfl
  | (n, v) :: r, m, hl => by
    show bindC k r (if k n = some .local then m else fun y => if y = n then some v else m y) = m
    rw [if_pos (hl _ (.head _))]
    exact bindC_none fun y m => hl y (.tail _ m)
set_option tactic.hygienic true in
theorem cells_some : ∀ {names : List (PySem.Str × NameKind)} {n : Nat} {acc : List (PySem.Str × Addr)} {x : PySem.Str}, (acc.lookup x).isSome = true ∨ (x, NameKind.cell) ∈ names → ((cellsFrom n names acc).lookup x).isSome = true
  | [], n, acc, x, h => h.elim id fun m => nomatch m
  | (y, k) :: r, n, acc, x, h => by
    unfold cellsFrom
    have up : ((y, n) :: acc).lookup x = some n ∨ ((y, n) :: acc).lookup x = acc.lookup x := by
      rw [List.lookup_cons]
      cases q : x == y with
      | true => exact .inl rfl
      | false => exact .inr rfl
    split
    · refine cells_some ?_
      rcases h with h | h
      · left
        rcases up with u | u <;> rw [u]
        · rfl
        · exact h
      · rcases List.mem_cons.mp h with e | h
        · cases e
          left
          rw [List.lookup_cons, beq_self_eq_true]; rfl
        · exact .inr h
    · rename_i hk
      refine cells_some (h.imp id fun h => (List.mem_cons.mp h).resolve_left fun e => hk (by cases e; rfl))

theorem cells_nodup : ∀ {names : List (PySem.Str × NameKind)} {n : Nat} {acc : List (PySem.Str × Addr)}, (names.map (·.1)).Nodup → (acc.map (·.1)).Nodup → (∀ x ∈ names.map (·.1), x ∉ acc.map (·.1)) → ((cellsFrom n names acc).map (·.1)).Nodup
  | [], _, _, _, h, _ => h
  | (y, k) :: r, n, acc, h1, h2, h3 => by
    have h1 := List.nodup_cons.mp h1
    unfold cellsFrom
    split
    · refine cells_nodup h1.2 (List.nodup_cons.mpr ⟨h3 y (.head _), h2⟩) fun x m z => ?_
      rcases List.mem_cons.mp z with rfl | z
      · exact h1.1 m
      · exact h3 x (.tail _ m) z
    · exact cells_nodup h1.2 h2 fun x m => h3 x (.tail _ m)
/-- a def is called -/
theorem call_def {prog : Program} {w : World} {A : Around} {R : Result → Shared → Prop} {s : Shared} {a : Addr} {o : Obj} {fd : FuncData} {body : List Stmt} {args : Args} {binds : List (PySem.Str × Value)} (hroom : A.depth < recursionLimit) (ho : s.heap.get? a = some o) (hdata : o.data = .func fd) (hlim : s.heap.NoLimit) (hcd : s.heap.CodeRec fd.code fd.qualname)
    (hbody : fd.body = .stmts body) (hbind : BindsTo s fd args binds) (hclo : fd.closure = []) (hloc : ∀ x ∈ binds, fd.scope.names.lookup x.1 = some .local)
    (h : ∀ s₁, InCallC s s.heap.objs.size (bindL (callEnvC fd s.heap.objs.size a).kindOf binds fun _ => none) (callEnvC fd s.heap.objs.size a).cells (fun _ => none) s₁ →
      wpAny (model prog w) (A.deeper (callEnvC fd s.heap.objs.size a)) (execs body (callEnvC fd s.heap.objs.size a)) (fun f s' => R (.ok (.ret (match f with | .ret v => v | _ => .none))) s')
        (fun e s' => wpAny (model prog w) (A.deeper (callEnvC fd s.heap.objs.size a)) (leaving (callEnvC fd s.heap.objs.size a) e) (fun _ s'' => R (.error e) s'') (fun e' s'' => R (.error e') s'') s') s₁)
    (hco : fd.scope.isCoroutine = false) (hgen : fd.scope.isGenerator = false) (hk : fd.scope.kind = .function) : codeAny (model prog w) A (.call (.ref a) args) R s := by
  refine codeAny_call_function hroom ho hdata hco hgen hbody hcd (hbind _ _ _ _ ?_)
  rw [hclo]
  refine wpAny_newFunctionEnv_cells hk (fun x m => .inl (hloc x m)) fun env he s' x => ?_
  subst he
  rw [bindC_none fun y m => hloc y m] at x
  exact ⟨hlim.keeps x.toInCall.keep, codeAny_func (h s' x)⟩

set_option tactic.hygienic true in
theorem simCf_step {G : Glo} (hG : GloOk G) {fns : Nat → Option Fn} (hfn : ∀ f fn, fns f = some fn → ∃ o fd body names dws, FnOk G f fn o fd body names dws) {m g : Nat} (hcf : SimCf G (callX G.P fns m) g) : SimCf G (callX G.P fns (m + 1)) (g + 2) := by
  intro f vs σ Q R q A hA fs hfs s φ ws fr0 ok r
  have q : match fns f with
    | some fn => vs.length = fn.arity ∧ wSL G.P (callX G.P fns m) fn.body (bindE 0 (vs ++ fn.dflt)) σ fun fl _ σ' => (match fl with | .ret v => Q v σ' | .exc => R σ' | _ => Q .none σ')
    | none => False := q
  split at q
  · rename_i fn e
    obtain ⟨o, fd, body, names, dws, F⟩ := hfn f fn e
    obtain ⟨hlen, q⟩ := q
    have hws : ws.length = fn.arity := by rw [r.length, hlen]
    have hA' := hA.depth
    have hloc : ∀ x ∈ names.zip (ws ++ dws), fd.scope.names.lookup x.1 = some .local := fun x hx => F.loc _ (by rw [zip_take (k := fn.arity + fn.dflt.length) (by rw [List.length_append, hws, ← F.dflt.length])] at hx; exact (List.of_mem_zip hx).1)
    refine call_def (by exact Om58 hA') (ok.base _ _ F.ho) F.hd (hG.lim.keeps ok.base) (F.cd.keeps ok.base) F.hb (F.bind s ws ok.base hws) F.clo hloc (fun s₁ I => ?_) F.co F.gen F.kind
    have hk := I.toInCall.keep
    obtain ⟨h₁, tk₁, es⟩ := I.toInCall.same
    have x0 : Ext [] φ s.heap φ s₁.heap := .of_keep hk
    have t0 : TK s.heap s₁.heap := fun b ws' ⟨o, e, z⟩ => ⟨o, hk _ _ e, z⟩
    have ok0 : Ok G.C φ σ s₁.heap := ok.ext (fun b o e => hk b o (ok.base b o e)) t0 fun b m => by obtain ⟨ob, e, _⟩ := ok.live m; rw [e]; exact hk b ob e
    have fr := fresh_size s.heap
    let env := callEnvC fd s.heap.objs.size (G.faddr f)
    let L : Fm := ⟨s.heap.objs.size, env.cells, env :: fs⟩
    have own : ∀ a ∈ L.own, s.heap.get? a = none := fun a m => by
      rcases List.mem_cons.mp m with rfl | m
      · exact fr
      · obtain ⟨p, mp, e0⟩ := List.mem_map.mp m
        subst e0
        exact Heap.get?_none_of_le (Nat.le_of_lt (I.above p.1 p.2 mp))
    have hLB : ∀ a ∈ L.own, G.C.hB.get? a = none := fun a m => by
      cases q : G.C.hB.get? a with
      | none => rfl
      | some o => have := ok.base _ _ q; rw [own a m] at this; cases this
    have hφ : ∀ a ∈ L.own, a ∉ φ := fun a m z => by
      obtain ⟨ob, e, _⟩ := ok.live z
      rw [own a m] at e; cases e
    have rr : RelL s₁.heap φ (vs ++ fn.dflt) (ws ++ dws) := (r.mono (List.prefix_refl _) t0).append (F.dflt.mono ⟨φ, rfl⟩ fun a ws' ⟨o, e, z⟩ => ⟨o, hk _ _ (ok.base _ _ e), z⟩)
    have lo : Loc G.C.hB ⟨fd.scope, names⟩ (bindE 0 (vs ++ fn.dflt)) φ s₁.heap L := by
      refine ⟨⟨_, I.toInCall.ns, fun i v e => ?_⟩, fun p mp => ?_, hφ, fun en me => ?_⟩
      · obtain ⟨j, e1, e2⟩ := bindE_get e
        obtain rfl : i = j := by exact Om59 e1
        obtain ⟨w, e3, rw'⟩ := rr.get e2
        have hi : i < names.length := by
          have h1 := (List.getElem?_eq_some_iff.mp e2).1
          rw [List.length_append, hlen] at h1
          exact Nat.lt_of_lt_of_le h1 F.many
        refine ⟨names[i], w, List.getElem?_eq_getElem hi, ?_, rw'⟩
        unfold Lies
        rw [show (Ck.mk fd.scope names).sc.names.lookup names[i] = some .local from F.loc _ (by rw [List.mem_take_iff_getElem]; exact ⟨i, by rw [Nat.lt_min]; exact ⟨by have h1 := (List.getElem?_eq_some_iff.mp e2).1; rw [List.length_append, hlen] at h1; exact h1, hi⟩, rfl⟩)]
        exact bindL_hit (zip_keys F.nd) hloc (List.mem_iff_getElem?.mpr ⟨i, by rw [List.getElem?_zip_eq_some]; exact ⟨List.getElem?_eq_getElem hi, e3⟩⟩)
      · obtain ⟨o, e, d⟩ := I.cell p.1 p.2 (lookup_of_mem (cells_nodup F.ndn List.nodup_nil fun _ _ m => nomatch m) mp)
        exact ⟨o, _, e, d⟩
      · rcases List.mem_cons.mp me with rfl | me
        · obtain ⟨o, es', ep, e, d, _⟩ := I.toInCall.ns
          exact ⟨by show fd.scope.kind ≠ .module; rw [F.kind]; decide, _, o, es', ep, rfl, hLB _ (.head _), hφ _ (.head _), e, d⟩
        · exact fr0.ext x0 en me
    have he : EnvOk (A.deeper env) ⟨fd.scope, names⟩ L env := by
      refine ⟨rfl, F.nd, F.kind, rfl, rfl, ?_, fun x e => ?_, F.glob, F.bu, Around.frames_deeper hfs, ⟨fs, rfl⟩, rfl⟩
      · refine List.nodup_cons.mpr ⟨fun m => ?_, ?_⟩
        · obtain ⟨p, mp, e0⟩ := List.mem_map.mp m
          have := I.above p.1 p.2 mp
          rw [e0] at this
          exact Nat.lt_irrefl _ this
        · exact List.pairwise_map.mpr I.apart
      · exact Option.isSome_iff_exists.mp (cells_some (.inr (Mine.lookup_mem e)))
    have hgo : s₁.gens = s.gens ∧ s₁.os = s.os := by rw [es]; exact ⟨rfl, rfl⟩
    have hE : Ex G (A.deeper env) ⟨fd.scope, names⟩ L env φ s₁ (fun ρ σ' => R σ') (fun e s' => wpAny (MM G) (A.deeper env) (leaving env e) (fun _ s'' => PostX G.C φ s R e s'') (fun e' s'' => PostX G.C φ s R e' s'') s') :=
      ⟨PassesOwn.leaving, fun e s' p => leave_exc (R := fun ρ σ' => R σ') (R' := R) (s := s) (s₀ := s₁) (fun _ _ z => z) he p x0 own hgo.1 hgo.2⟩
    refine wpAny_mono (simSL hG hcf fn.body ⟨fd.scope, names⟩ body F.ck L env _ he hLB (hA.deeper _) s₁ φ σ _ ok0 lo _ q _ hE) (fun fl s' p => ?_) fun _ _ z => z
    refine p.elim fun φ' σ' ρ' fl' x1 x2 x3 x4 x5 x6 x7 => ?_
    have w : Ext [] φ s.heap φ' s'.heap := ((x0.weak fun _ m => nomatch m).trans x1).strong fun a m => .inr (own a m)
    cases x4 with
    | next => exact ⟨φ', σ', .none, w, x2, rfl, x5, x6.trans hgo.1, x7.trans hgo.2⟩
    | cont => exact ⟨φ', σ', .none, w, x2, rfl, x5, x6.trans hgo.1, x7.trans hgo.2⟩
    | ret rv => exact ⟨φ', σ', _, w, x2, rv, x5, x6.trans hgo.1, x7.trans hgo.2⟩
  · exact q.elim

theorem simCf {G : Glo} (hG : GloOk G) {fns : Nat → Option Fn} (hfn : ∀ f fn, fns f = some fn → ∃ o fd body names dws, FnOk G f fn o fd body names dws) : ∀ m, SimCf G (callX G.P fns m) (2 * m)
  | 0 => fun f vs σ Q R q => (show False from q).elim
  | m + 1 => simCf_step hG hfn (simCf hG hfn m)

end Mine
end

/-! B1 -/
noncomputable section
set_option maxHeartbeats 200000
open PyProof.Rows PySem PySem.Calls PySem.W
namespace Mine
/-! printed by print_ast.py -/
noncomputable def f_fixed_atoms : Fn := ⟨0, (.cons (.ret (.tup (.cons (.kstr (PySem.Str.ofString "[]")) (.cons (.kstr (PySem.Str.ofString ".")) (.cons (.kstr (PySem.Str.ofString "{}")) (.cons (.kstr (PySem.Str.ofString "-")) (.cons (.kstr (PySem.Str.ofString "+")) (.cons (.kstr (PySem.Str.ofString "*")) (.cons (.kstr (PySem.Str.ofString "/")) (.cons (.kstr (PySem.Str.ofString ",")) (.cons (.kstr (PySem.Str.ofString "|")) (.cons (.kstr (PySem.Str.ofString ";")) (.cons (.kstr (PySem.Str.ofString "->")) (.cons (.kstr (PySem.Str.ofString "\\+")) (.cons (.kstr (PySem.Str.ofString ":-")) (.cons (.kstr (PySem.Str.ofString "?-")) (.cons (.kstr (PySem.Str.ofString "-->")) (.cons (.kstr (PySem.Str.ofString "!")) (.cons (.kstr (PySem.Str.ofString "true")) (.cons (.kstr (PySem.Str.ofString "fail")) (.cons (.kstr (PySem.Str.ofString "false")) (.cons (.kstr (PySem.Str.ofString "call")) (.cons (.kstr (PySem.Str.ofString "=")) (.cons (.kstr (PySem.Str.ofString "^")) (.cons (.kstr (PySem.Str.ofString "error")) (.cons (.kstr (PySem.Str.ofString "")) (.cons (.kstr (PySem.Str.ofString "end_of_file")) (.cons (.kstr (PySem.Str.ofString "system")) (.cons (.kstr (PySem.Str.ofString "$VAR")) (.cons (.kstr (PySem.Str.ofString "catch")) (.cons (.kstr (PySem.Str.ofString "throw")) .nil))))))))))))))))))))))))))))))) .nil), []⟩
noncomputable def n_fixed_atoms : List PySem.Str := ([] : List String).map PySem.Str.ofString
noncomputable def f_fixed_functors : Fn := ⟨0, (.cons (.ret (.tup (.cons (.tup (.cons (.kstr (PySem.Str.ofString ".")) (.cons (.kint 2) .nil))) (.cons (.tup (.cons (.kstr (PySem.Str.ofString ",")) (.cons (.kint 2) .nil))) (.cons (.tup (.cons (.kstr (PySem.Str.ofString ";")) (.cons (.kint 2) .nil))) (.cons (.tup (.cons (.kstr (PySem.Str.ofString "->")) (.cons (.kint 2) .nil))) (.cons (.tup (.cons (.kstr (PySem.Str.ofString "\\+")) (.cons (.kint 1) .nil))) (.cons (.tup (.cons (.kstr (PySem.Str.ofString ":-")) (.cons (.kint 2) .nil))) (.cons (.tup (.cons (.kstr (PySem.Str.ofString ":-")) (.cons (.kint 1) .nil))) (.cons (.tup (.cons (.kstr (PySem.Str.ofString "?-")) (.cons (.kint 1) .nil))) (.cons (.tup (.cons (.kstr (PySem.Str.ofString "-->")) (.cons (.kint 2) .nil))) (.cons (.tup (.cons (.kstr (PySem.Str.ofString "{}")) (.cons (.kint 1) .nil))) (.cons (.tup (.cons (.kstr (PySem.Str.ofString "=")) (.cons (.kint 2) .nil))) (.cons (.tup (.cons (.kstr (PySem.Str.ofString "^")) (.cons (.kint 2) .nil))) (.cons (.tup (.cons (.kstr (PySem.Str.ofString "-")) (.cons (.kint 1) .nil))) (.cons (.tup (.cons (.kstr (PySem.Str.ofString "-")) (.cons (.kint 2) .nil))) (.cons (.tup (.cons (.kstr (PySem.Str.ofString "+")) (.cons (.kint 2) .nil))) (.cons (.tup (.cons (.kstr (PySem.Str.ofString "/")) (.cons (.kint 2) .nil))) (.cons (.tup (.cons (.kstr (PySem.Str.ofString "error")) (.cons (.kint 2) .nil))) (.cons (.tup (.cons (.kstr (PySem.Str.ofString "$VAR")) (.cons (.kint 1) .nil))) (.cons (.tup (.cons (.kstr (PySem.Str.ofString "catch")) (.cons (.kint 3) .nil))) (.cons (.tup (.cons (.kstr (PySem.Str.ofString "throw")) (.cons (.kint 1) .nil))) (.cons (.tup (.cons (.kstr (PySem.Str.ofString "!")) (.cons (.kint 0) .nil))) (.cons (.tup (.cons (.kstr (PySem.Str.ofString "true")) (.cons (.kint 0) .nil))) (.cons (.tup (.cons (.kstr (PySem.Str.ofString "fail")) (.cons (.kint 0) .nil))) (.cons (.tup (.cons (.kstr (PySem.Str.ofString "false")) (.cons (.kint 0) .nil))) (.cons (.tup (.cons (.kstr (PySem.Str.ofString "call")) (.cons (.kint 1) .nil))) (.cons (.tup (.cons (.kstr (PySem.Str.ofString "call")) (.cons (.kint 2) .nil))) (.cons (.tup (.cons (.kstr (PySem.Str.ofString "call")) (.cons (.kint 3) .nil))) (.cons (.tup (.cons (.kstr (PySem.Str.ofString "call")) (.cons (.kint 4) .nil))) (.cons (.tup (.cons (.kstr (PySem.Str.ofString "call")) (.cons (.kint 5) .nil))) (.cons (.tup (.cons (.kstr (PySem.Str.ofString "call")) (.cons (.kint 6) .nil))) (.cons (.tup (.cons (.kstr (PySem.Str.ofString "call")) (.cons (.kint 7) .nil))) (.cons (.tup (.cons (.kstr (PySem.Str.ofString "call")) (.cons (.kint 8) .nil))) .nil)))))))))))))))))))))))))))))))))) .nil), []⟩
noncomputable def n_fixed_functors : List PySem.Str := ([] : List String).map PySem.Str.ofString
noncomputable def f_Symbols___init__ : Fn := ⟨1, (.cons (.assign (.attr (.loc 0) 0) (.list .nil)) (.cons (.assign (.attr (.loc 0) 1) (.dict0 1)) (.cons (.assign (.attr (.loc 0) 2) (.list .nil)) (.cons (.assign (.attr (.loc 0) 3) (.dict0 2)) (.cons (.for_ (.loc 1) (.callF 0 .nil) (.cons (.expr (.callM 0 (.loc 0) (.cons (.loc 1) .nil))) .nil)) (.cons (.for_ (.loc 2) (.callF 1 .nil) (.cons (.expr (.callM 2 (.loc 0) (.cons (.sub (.loc 2) (.kint 0)) (.cons (.sub (.loc 2) (.kint 1)) .nil)))) .nil)) .nil)))))), []⟩
noncomputable def n_Symbols___init__ : List PySem.Str := (["self", "text", "row"] : List String).map PySem.Str.ofString
noncomputable def f_Symbols_atom : Fn := ⟨2, (.cons (.assign (.loc 2) (.meth 2 (.attr (.loc 0) 1) (.cons (.loc 1) (.cons (.neg (.kint 1)) .nil)))) (.cons (.ite (.cmp .ge (.loc 2) (.kint 0)) (.cons (.ret (.loc 2)) .nil) .nil) (.cons (.assign (.loc 3) (.blt 0 (.cons (.attr (.loc 0) 0) .nil))) (.cons (.expr (.meth 0 (.attr (.loc 0) 0) (.cons (.loc 1) .nil))) (.cons (.assign (.sub (.attr (.loc 0) 1) (.loc 1)) (.loc 3)) (.cons (.ret (.loc 3)) .nil)))))), []⟩
noncomputable def n_Symbols_atom : List PySem.Str := (["self", "text", "found", "number"] : List String).map PySem.Str.ofString
noncomputable def f_Symbols_functor : Fn := ⟨3, (.cons (.assign (.loc 3) (.tup (.cons (.loc 1) (.cons (.loc 2) .nil)))) (.cons (.assign (.loc 4) (.meth 2 (.attr (.loc 0) 3) (.cons (.loc 3) (.cons (.neg (.kint 1)) .nil)))) (.cons (.ite (.cmp .ge (.loc 4) (.kint 0)) (.cons (.ret (.loc 4)) .nil) .nil) (.cons (.assign (.loc 5) (.blt 0 (.cons (.attr (.loc 0) 2) .nil))) (.cons (.expr (.meth 0 (.attr (.loc 0) 2) (.cons (.loc 3) .nil))) (.cons (.assign (.sub (.attr (.loc 0) 3) (.loc 3)) (.loc 5)) (.cons (.ret (.loc 5)) .nil))))))), []⟩
noncomputable def n_Symbols_functor : List PySem.Str := (["self", "atom", "arity", "key", "found", "number"] : List String).map PySem.Str.ofString
noncomputable def f_Symbols_func : Fn := ⟨3, (.cons (.ret (.callM 1 (.loc 0) (.cons (.callM 0 (.loc 0) (.cons (.loc 1) .nil)) (.cons (.loc 2) .nil)))) .nil), []⟩
noncomputable def n_Symbols_func : List PySem.Str := (["self", "text", "arity"] : List String).map PySem.Str.ofString
noncomputable def f_Symbols_name : Fn := ⟨2, (.cons (.ret (.sub (.sub (.attr (.loc 0) 2) (.loc 1)) (.kint 0))) .nil), []⟩
noncomputable def n_Symbols_name : List PySem.Str := (["self", "functor"] : List String).map PySem.Str.ofString
noncomputable def f_Symbols_arity : Fn := ⟨2, (.cons (.ret (.sub (.sub (.attr (.loc 0) 2) (.loc 1)) (.kint 1))) .nil), []⟩
noncomputable def n_Symbols_arity : List PySem.Str := (["self", "functor"] : List String).map PySem.Str.ofString
noncomputable def f_system_error : Fn := ⟨1, (.cons (.ret (.newX (.cons (.tup (.cons (.kstr (PySem.Str.ofString "s")) (.cons (.glob 12) (.cons (.tup (.cons (.loc 0) (.cons (.tup (.cons (.kstr (PySem.Str.ofString "a")) (.cons (.glob 13) .nil))) .nil))) .nil)))) .nil))) .nil), []⟩
noncomputable def n_system_error : List PySem.Str := (["formal"] : List String).map PySem.Str.ofString
noncomputable def f_formal_of : Fn := ⟨3, (.cons (.assign (.loc 3) (.list .nil)) (.cons (.for_ (.loc 4) (.loc 2) (.cons (.expr (.meth 0 (.loc 3) (.cons (.ife (.isStr (.loc 4)) (.tup (.cons (.kstr (PySem.Str.ofString "a")) (.cons (.callM 0 (.loc 0) (.cons (.loc 4) .nil)) .nil))) (.loc 4)) .nil))) .nil)) (.cons (.ret (.tup (.cons (.kstr (PySem.Str.ofString "s")) (.cons (.callM 2 (.loc 0) (.cons (.loc 1) (.cons (.blt 0 (.cons (.loc 3) .nil)) .nil))) (.cons (.blt 6 (.cons (.loc 3) .nil)) .nil))))) .nil))), []⟩
noncomputable def n_formal_of : List PySem.Str := (["symbols", "name", "parts", "args", "part"] : List String).map PySem.Str.ofString
noncomputable def f_resource_error : Fn := ⟨2, (.cons (.ret (.callF 8 (.cons (.callF 9 (.cons (.loc 0) (.cons (.kstr (PySem.Str.ofString "resource_error")) (.cons (.tup (.cons (.loc 1) .nil)) .nil)))) .nil))) .nil), []⟩
noncomputable def n_resource_error : List PySem.Str := (["symbols", "what"] : List String).map PySem.Str.ofString
noncomputable def f_Cells___init__ : Fn := ⟨2, (.cons (.assign (.attr (.loc 0) 4) (.loc 1)) (.cons (.assign (.attr (.loc 0) 5) (.loc 2)) (.cons (.assign (.attr (.loc 0) 6) (.list .nil)) (.cons (.assign (.attr (.loc 0) 7) (.list .nil)) (.cons (.assign (.attr (.loc 0) 8) (.list .nil)) (.cons (.assign (.attr (.loc 0) 9) (.kint 0)) (.cons (.assign (.attr (.loc 0) 10) (.kint 0)) .nil))))))), [.int 100000]⟩
noncomputable def n_Cells___init__ : List PySem.Str := (["self", "symbols", "max_heap"] : List String).map PySem.Str.ofString
noncomputable def f_Cells_push : Fn := ⟨2, (.cons (.assign (.loc 2) (.blt 0 (.cons (.attr (.loc 0) 6) .nil))) (.cons (.ite (.cmp .ge (.loc 2) (.attr (.loc 0) 5)) (.cons (.raise (.callF 10 (.cons (.attr (.loc 0) 4) (.cons (.kstr (PySem.Str.ofString "memory")) .nil)))) .nil) .nil) (.cons (.expr (.meth 0 (.attr (.loc 0) 6) (.cons (.loc 1) .nil))) (.cons (.ret (.loc 2)) .nil)))), []⟩
noncomputable def n_Cells_push : List PySem.Str := (["self", "cell", "address"] : List String).map PySem.Str.ofString
noncomputable def f_Cells_new_var : Fn := ⟨1, (.cons (.assign (.loc 1) (.tup (.cons (.glob 0) (.cons (.blt 0 (.cons (.attr (.loc 0) 6) .nil)) .nil)))) (.cons (.expr (.callM 5 (.loc 0) (.cons (.loc 1) .nil))) (.cons (.ret (.loc 1)) .nil))), []⟩
noncomputable def n_Cells_new_var : List PySem.Str := (["self", "cell"] : List String).map PySem.Str.ofString
noncomputable def f_Cells_reserve : Fn := ⟨2, (.cons (.assign (.loc 2) (.blt 0 (.cons (.attr (.loc 0) 6) .nil))) (.cons (.ite (.cmp .gt (.bin .add (.loc 2) (.loc 1)) (.attr (.loc 0) 5)) (.cons (.raise (.callF 10 (.cons (.attr (.loc 0) 4) (.cons (.kstr (PySem.Str.ofString "memory")) .nil)))) .nil) .nil) (.cons (.for_ (.loc 3) (.blt 1 (.cons (.loc 1) .nil)) (.cons (.expr (.meth 0 (.attr (.loc 0) 6) (.cons (.tup (.cons (.glob 0) (.cons (.bin .add (.loc 2) (.loc 3)) .nil))) .nil))) .nil)) (.cons (.ret (.loc 2)) .nil)))), []⟩
noncomputable def n_Cells_reserve : List PySem.Str := (["self", "count", "first", "step"] : List String).map PySem.Str.ofString
noncomputable def f_Cells_deref : Fn := ⟨2, (.cons (.while (.kbool true) (.cons (.assign (.loc 2) (.sub (.loc 1) (.kint 0))) (.cons (.ite (.cmp .eq (.loc 2) (.glob 0)) (.cons (.assign (.loc 3) (.sub (.attr (.loc 0) 6) (.sub (.loc 1) (.kint 1)))) .nil) (.cons (.ite (.cmp .eq (.loc 2) (.glob 1)) (.cons (.assign (.loc 3) (.sub (.attr (.loc 0) 7) (.sub (.loc 1) (.kint 1)))) .nil) (.cons (.ret (.loc 1)) .nil)) .nil)) (.cons (.ite (.cmp .eq (.loc 3) (.loc 1)) (.cons (.ret (.loc 1)) .nil) .nil) (.cons (.assign (.loc 1) (.loc 3)) .nil))))) .nil), []⟩
noncomputable def n_Cells_deref : List PySem.Str := (["self", "cell", "tag", "found"] : List String).map PySem.Str.ofString
noncomputable def f_Cells_bind : Fn := ⟨3, (.cons (.assign (.loc 3) (.sub (.loc 1) (.kint 1))) (.cons (.ite (.cmp .eq (.sub (.loc 1) (.kint 0)) (.glob 0)) (.cons (.assign (.sub (.attr (.loc 0) 6) (.loc 3)) (.loc 2)) (.cons (.ite (.cmp .lt (.loc 3) (.attr (.loc 0) 9)) (.cons (.expr (.meth 0 (.attr (.loc 0) 8) (.cons (.loc 3) .nil))) .nil) .nil) .nil)) (.cons (.assign (.sub (.attr (.loc 0) 7) (.loc 3)) (.loc 2)) (.cons (.ite (.cmp .lt (.loc 3) (.attr (.loc 0) 10)) (.cons (.expr (.meth 0 (.attr (.loc 0) 8) (.cons (.bin .sub (.neg (.kint 1)) (.loc 3)) .nil))) .nil) .nil) .nil))) .nil)), []⟩
noncomputable def n_Cells_bind : List PySem.Str := (["self", "cell", "value", "place"] : List String).map PySem.Str.ofString
noncomputable def f_Cells_bind_pair : Fn := ⟨3, (.cons (.ite (.cmp .eq (.loc 1) (.loc 2)) (.cons .retN .nil) .nil) (.cons (.ite (.cmp .eq (.sub (.loc 1) (.kint 0)) (.sub (.loc 2) (.kint 0))) (.cons (.ite (.cmp .lt (.sub (.loc 1) (.kint 1)) (.sub (.loc 2) (.kint 1))) (.cons (.expr (.callM 9 (.loc 0) (.cons (.loc 2) (.cons (.loc 1) .nil)))) .nil) (.cons (.expr (.callM 9 (.loc 0) (.cons (.loc 1) (.cons (.loc 2) .nil)))) .nil)) .nil) (.cons (.ite (.cmp .eq (.sub (.loc 1) (.kint 0)) (.glob 1)) (.cons (.expr (.callM 9 (.loc 0) (.cons (.loc 1) (.cons (.loc 2) .nil)))) .nil) (.cons (.expr (.callM 9 (.loc 0) (.cons (.loc 2) (.cons (.loc 1) .nil)))) .nil)) .nil)) .nil)), []⟩
noncomputable def n_Cells_bind_pair : List PySem.Str := (["self", "c1", "c2"] : List String).map PySem.Str.ofString
noncomputable def f_Cells_globalise : Fn := ⟨2, (.cons (.assign (.loc 1) (.callM 8 (.loc 0) (.cons (.loc 1) .nil))) (.cons (.ite (.cmp .eq (.sub (.loc 1) (.kint 0)) (.glob 1)) (.cons (.assign (.loc 2) (.callM 6 (.loc 0) .nil)) (.cons (.expr (.callM 9 (.loc 0) (.cons (.loc 1) (.cons (.loc 2) .nil)))) (.cons (.ret (.loc 2)) .nil))) .nil) (.cons (.ret (.loc 1)) .nil))), []⟩
noncomputable def n_Cells_globalise : List PySem.Str := (["self", "cell", "fresh"] : List String).map PySem.Str.ofString
noncomputable def f_Cells_mark : Fn := ⟨1, (.cons (.ret (.blt 0 (.cons (.attr (.loc 0) 8) .nil))) .nil), []⟩
noncomputable def n_Cells_mark : List PySem.Str := (["self"] : List String).map PySem.Str.ofString
noncomputable def f_Cells_undo_to : Fn := ⟨2, (.cons (.while (.cmp .gt (.blt 0 (.cons (.attr (.loc 0) 8) .nil)) (.loc 1)) (.cons (.assign (.loc 2) (.meth 1 (.attr (.loc 0) 8) .nil)) (.cons (.ite (.cmp .ge (.loc 2) (.kint 0)) (.cons (.assign (.sub (.attr (.loc 0) 6) (.loc 2)) (.tup (.cons (.glob 0) (.cons (.loc 2) .nil)))) .nil) (.cons (.assign (.loc 3) (.bin .sub (.neg (.kint 1)) (.loc 2))) (.cons (.assign (.sub (.attr (.loc 0) 7) (.loc 3)) (.tup (.cons (.glob 1) (.cons (.loc 3) .nil)))) .nil))) .nil))) .nil), []⟩
noncomputable def n_Cells_undo_to : List PySem.Str := (["self", "mark", "entry", "slot"] : List String).map PySem.Str.ofString
noncomputable def f_Cells_is_compound : Fn := ⟨2, (.cons (.ret (.boolop false (.cons (.cmp .eq (.sub (.loc 1) (.kint 0)) (.glob 2)) (.cons (.cmp .eq (.sub (.loc 1) (.kint 0)) (.glob 3)) .nil)))) .nil), []⟩
noncomputable def n_Cells_is_compound : List PySem.Str := (["self", "cell"] : List String).map PySem.Str.ofString
noncomputable def f_Cells_functor_of : Fn := ⟨2, (.cons (.assign (.loc 2) (.sub (.loc 1) (.kint 0))) (.cons (.ite (.cmp .eq (.loc 2) (.glob 2)) (.cons (.ret (.sub (.sub (.attr (.loc 0) 6) (.sub (.loc 1) (.kint 1))) (.kint 1))) .nil) .nil) (.cons (.ite (.cmp .eq (.loc 2) (.glob 3)) (.cons (.ret (.glob 8)) .nil) .nil) (.cons (.ite (.cmp .eq (.loc 2) (.glob 4)) (.cons (.ret (.callM 1 (.attr (.loc 0) 4) (.cons (.sub (.loc 1) (.kint 1)) (.cons (.kint 0) .nil)))) .nil) .nil) (.cons (.ret (.neg (.kint 1))) .nil))))), []⟩
noncomputable def n_Cells_functor_of : List PySem.Str := (["self", "cell", "tag"] : List String).map PySem.Str.ofString
noncomputable def f_Cells_width : Fn := ⟨2, (.cons (.assign (.loc 2) (.sub (.loc 1) (.kint 0))) (.cons (.ite (.cmp .eq (.loc 2) (.glob 3)) (.cons (.ret (.kint 2)) .nil) .nil) (.cons (.ite (.cmp .eq (.loc 2) (.glob 2)) (.cons (.ret (.callM 4 (.attr (.loc 0) 4) (.cons (.sub (.sub (.attr (.loc 0) 6) (.sub (.loc 1) (.kint 1))) (.kint 1)) .nil))) .nil) .nil) (.cons (.ret (.kint 0)) .nil)))), []⟩
noncomputable def n_Cells_width : List PySem.Str := (["self", "cell", "tag"] : List String).map PySem.Str.ofString
noncomputable def f_Cells_base : Fn := ⟨2, (.cons (.ite (.cmp .eq (.sub (.loc 1) (.kint 0)) (.glob 3)) (.cons (.ret (.sub (.loc 1) (.kint 1))) .nil) .nil) (.cons (.ret (.bin .add (.sub (.loc 1) (.kint 1)) (.kint 1))) .nil)), []⟩
noncomputable def n_Cells_base : List PySem.Str := (["self", "cell"] : List String).map PySem.Str.ofString
noncomputable def f_Cells_new_block : Fn := ⟨2, (.cons (.ite (.cmp .eq (.loc 1) (.glob 8)) (.cons (.ret (.tup (.cons (.glob 3) (.cons (.callM 7 (.loc 0) (.cons (.kint 2) .nil)) .nil)))) .nil) .nil) (.cons (.assign (.loc 2) (.callM 7 (.loc 0) (.cons (.bin .add (.kint 1) (.callM 4 (.attr (.loc 0) 4) (.cons (.loc 1) .nil))) .nil))) (.cons (.assign (.sub (.attr (.loc 0) 6) (.loc 2)) (.tup (.cons (.glob 6) (.cons (.loc 1) .nil)))) (.cons (.ret (.tup (.cons (.glob 2) (.cons (.loc 2) .nil)))) .nil)))), []⟩
noncomputable def n_Cells_new_block : List PySem.Str := (["self", "f", "start"] : List String).map PySem.Str.ofString
noncomputable def f_Store_new_struct : Fn := ⟨3, (.cons (.ite (.cmp .eq (.blt 0 (.cons (.loc 2) .nil)) (.kint 0)) (.cons (.ret (.tup (.cons (.glob 4) (.cons (.callM 3 (.attr (.loc 0) 4) (.cons (.loc 1) .nil)) .nil)))) .nil) .nil) (.cons (.assign (.loc 3) (.list .nil)) (.cons (.for_ (.loc 4) (.loc 2) (.cons (.expr (.meth 0 (.loc 3) (.cons (.callM 11 (.loc 0) (.cons (.loc 4) .nil)) .nil))) .nil)) (.cons (.assign (.loc 5) (.callM 18 (.loc 0) (.cons (.loc 1) .nil))) (.cons (.assign (.loc 6) (.callM 17 (.loc 0) (.cons (.loc 5) .nil))) (.cons (.for_ (.loc 7) (.loc 3) (.cons (.assign (.sub (.attr (.loc 0) 6) (.loc 6)) (.loc 7)) (.cons (.augLoc 6 .add (.kint 1)) .nil))) (.cons (.ret (.loc 5)) .nil))))))), []⟩
noncomputable def n_Store_new_struct : List PySem.Str := (["self", "f", "cells", "values", "cell", "made", "place", "value"] : List String).map PySem.Str.ofString
noncomputable def f_Store_whole_size : Fn := ⟨3, (.cons (.assign (.loc 3) (.kint 1)) (.cons (.assign (.loc 4) (.callM 17 (.loc 0) (.cons (.loc 1) .nil))) (.cons (.for_ (.loc 5) (.blt 1 (.cons (.callM 16 (.loc 0) (.cons (.loc 1) .nil)) .nil)) (.cons (.assign (.loc 6) (.callM 8 (.loc 0) (.cons (.sub (.attr (.loc 0) 6) (.bin .add (.loc 4) (.loc 5))) .nil))) (.cons (.ite (.callM 14 (.loc 0) (.cons (.loc 6) .nil)) (.cons (.augLoc 3 .add (.sub (.loc 2) (.sub (.loc 6) (.kint 1)))) .nil) (.cons (.augLoc 3 .add (.kint 1)) .nil)) .nil))) (.cons (.ret (.loc 3)) .nil)))), []⟩
noncomputable def n_Store_whole_size : List PySem.Str := (["self", "cell", "sizes", "size", "place", "step", "part"] : List String).map PySem.Str.ofString
noncomputable def f_Store_take_term : Fn := ⟨3, (.cons (.assign (.loc 3) (.dict0 0)) (.cons (.assign (.loc 4) (.dict0 0)) (.cons (.assign (.loc 5) (.list .nil)) (.cons (.assign (.loc 6) (.list (.cons (.tup (.cons (.glob 10) (.cons (.callM 11 (.loc 0) (.cons (.loc 1) .nil)) .nil))) .nil))) (.cons (.while (.cmp .gt (.blt 0 (.cons (.loc 6) .nil)) (.kint 0)) (.cons (.assign (.tup [7, 1]) (.meth 1 (.loc 6) .nil)) (.cons (.ite (.cmp .eq (.loc 7) (.glob 11)) (.cons (.assign (.loc 8) (.callM 15 (.loc 0) (.cons (.loc 1) .nil))) (.cons (.assign (.loc 9) (.bin .sub (.blt 0 (.cons (.loc 5) .nil)) (.callM 16 (.loc 0) (.cons (.loc 1) .nil)))) (.cons (.assign (.loc 10) (.tup (.cons (.kstr (PySem.Str.ofString "s")) (.cons (.loc 8) (.cons (.blt 6 (.cons (.slFrom 5 9) .nil)) .nil))))) (.cons (.delFrom 5 9) (.cons (.assign (.sub (.loc 3) (.sub (.loc 1) (.kint 1))) (.loc 10)) (.cons (.assign (.sub (.loc 4) (.sub (.loc 1) (.kint 1))) (.callM 20 (.loc 0) (.cons (.loc 1) (.cons (.loc 4) .nil)))) (.cons (.ite (.cmp .gt (.sub (.loc 4) (.sub (.loc 1) (.kint 1))) (.bin .add (.attr (.loc 0) 5) (.kint 1))) (.cons (.raise (.callF 10 (.cons (.attr (.loc 0) 4) (.cons (.kstr (PySem.Str.ofString "memory")) .nil)))) .nil) .nil) (.cons (.expr (.meth 0 (.loc 5) (.cons (.loc 10) .nil))) (.cons .cont .nil))))))))) .nil) (.cons (.assign (.loc 1) (.callM 8 (.loc 0) (.cons (.loc 1) .nil))) (.cons (.assign (.loc 11) (.sub (.loc 1) (.kint 0))) (.cons (.ite (.cmp .eq (.loc 11) (.glob 0)) (.cons (.ite (.cmp .notIn (.sub (.loc 1) (.kint 1)) (.loc 2)) (.cons (.assign (.sub (.loc 2) (.sub (.loc 1) (.kint 1))) (.blt 0 (.cons (.loc 2) .nil))) .nil) .nil) (.cons (.expr (.meth 0 (.loc 5) (.cons (.tup (.cons (.kstr (PySem.Str.ofString "v")) (.cons (.sub (.loc 2) (.sub (.loc 1) (.kint 1))) .nil))) .nil))) .nil)) (.cons (.ite (.cmp .eq (.loc 11) (.glob 4)) (.cons (.expr (.meth 0 (.loc 5) (.cons (.tup (.cons (.kstr (PySem.Str.ofString "a")) (.cons (.sub (.loc 1) (.kint 1)) .nil))) .nil))) .nil) (.cons (.ite (.cmp .eq (.loc 11) (.glob 5)) (.cons (.expr (.meth 0 (.loc 5) (.cons (.tup (.cons (.kstr (PySem.Str.ofString "i")) (.cons (.sub (.loc 1) (.kint 1)) .nil))) .nil))) .nil) (.cons (.ite (.cmp .isIn (.sub (.loc 1) (.kint 1)) (.loc 3)) (.cons (.assign (.loc 10) (.sub (.loc 3) (.sub (.loc 1) (.kint 1)))) (.cons (.ite (.isNone (.loc 10)) (.cons (.raise (.callF 10 (.cons (.attr (.loc 0) 4) (.cons (.kstr (PySem.Str.ofString "memory")) .nil)))) .nil) .nil) (.cons (.expr (.meth 0 (.loc 5) (.cons (.loc 10) .nil))) .nil))) (.cons (.assign (.sub (.loc 3) (.sub (.loc 1) (.kint 1))) .knone) (.cons (.expr (.meth 0 (.loc 6) (.cons (.tup (.cons (.glob 11) (.cons (.loc 1) .nil))) .nil))) (.cons (.assign (.loc 12) (.callM 17 (.loc 0) (.cons (.loc 1) .nil))) (.cons (.for_ (.loc 13) (.blt 1 (.cons (.bin .sub (.callM 16 (.loc 0) (.cons (.loc 1) .nil)) (.kint 1)) (.cons (.neg (.kint 1)) (.cons (.neg (.kint 1)) .nil)))) (.cons (.expr (.meth 0 (.loc 6) (.cons (.tup (.cons (.glob 10) (.cons (.sub (.attr (.loc 0) 6) (.bin .add (.loc 12) (.loc 13))) .nil))) .nil))) .nil)) .nil))))) .nil)) .nil)) .nil)) .nil)))))) (.cons (.ret (.sub (.loc 5) (.kint 0))) .nil)))))), []⟩
noncomputable def n_Store_take_term : List PySem.Str := (["self", "cell", "table", "known", "sizes", "results", "work", "what", "f", "first", "term", "tag", "place", "step"] : List String).map PySem.Str.ofString
noncomputable def f_PairSet___init__ : Fn := ⟨2, (.cons (.assign (.attr (.loc 0) 11) (.bin .add (.blt 0 (.cons (.attr (.loc 1) 6) .nil)) (.kint 1))) (.cons (.assign (.attr (.loc 0) 12) (.blt 3 .nil)) .nil)), []⟩
noncomputable def n_PairSet___init__ : List PySem.Str := (["self", "store"] : List String).map PySem.Str.ofString
noncomputable def f_PairSet_add : Fn := ⟨3, (.cons (.assign (.loc 3) (.bin .add (.bin .mul (.sub (.loc 1) (.kint 1)) (.attr (.loc 0) 11)) (.sub (.loc 2) (.kint 1)))) (.cons (.ite (.cmp .isIn (.loc 3) (.attr (.loc 0) 12)) (.cons (.ret (.kbool false)) .nil) .nil) (.cons (.expr (.meth 3 (.attr (.loc 0) 12) (.cons (.loc 3) .nil))) (.cons (.ret (.kbool true)) .nil)))), []⟩
noncomputable def n_PairSet_add : List PySem.Str := (["self", "left", "right", "number"] : List String).map PySem.Str.ofString
noncomputable def f_push_arguments : Fn := ⟨3, (.cons (.assign (.loc 3) (.callM 17 (.loc 0) (.cons (.loc 1) .nil))) (.cons (.for_ (.loc 4) (.blt 1 (.cons (.bin .sub (.callM 16 (.loc 0) (.cons (.loc 1) .nil)) (.kint 1)) (.cons (.neg (.kint 1)) (.cons (.neg (.kint 1)) .nil)))) (.cons (.expr (.meth 0 (.loc 2) (.cons (.sub (.attr (.loc 0) 6) (.bin .add (.loc 3) (.loc 4))) .nil))) .nil)) .nil)), []⟩
noncomputable def n_push_arguments : List PySem.Str := (["store", "cell", "work", "place", "step"] : List String).map PySem.Str.ofString
noncomputable def f_push_pairs : Fn := ⟨4, (.cons (.assign (.loc 4) (.callM 17 (.loc 0) (.cons (.loc 1) .nil))) (.cons (.assign (.loc 5) (.callM 17 (.loc 0) (.cons (.loc 2) .nil))) (.cons (.for_ (.loc 6) (.blt 1 (.cons (.bin .sub (.callM 16 (.loc 0) (.cons (.loc 1) .nil)) (.kint 1)) (.cons (.neg (.kint 1)) (.cons (.neg (.kint 1)) .nil)))) (.cons (.expr (.meth 0 (.loc 3) (.cons (.tup (.cons (.sub (.attr (.loc 0) 6) (.bin .add (.loc 4) (.loc 6))) (.cons (.sub (.attr (.loc 0) 6) (.bin .add (.loc 5) (.loc 6))) .nil))) .nil))) .nil)) .nil))), []⟩
noncomputable def n_push_pairs : List PySem.Str := (["store", "left", "right", "work", "left_place", "right_place", "step"] : List String).map PySem.Str.ofString
noncomputable def f_same_shape : Fn := ⟨3, (.cons (.ite (.cmp .ne (.sub (.loc 1) (.kint 0)) (.sub (.loc 2) (.kint 0))) (.cons (.ret (.kbool false)) .nil) .nil) (.cons (.ite (.cmp .eq (.sub (.loc 1) (.kint 0)) (.glob 3)) (.cons (.ret (.kbool true)) .nil) .nil) (.cons (.ret (.cmp .eq (.sub (.attr (.loc 0) 6) (.sub (.loc 1) (.kint 1))) (.sub (.attr (.loc 0) 6) (.sub (.loc 2) (.kint 1))))) .nil))), []⟩
noncomputable def n_same_shape : List PySem.Str := (["store", "left", "right"] : List String).map PySem.Str.ofString
noncomputable def f_is_variable : Fn := ⟨1, (.cons (.ret (.boolop false (.cons (.cmp .eq (.sub (.loc 0) (.kint 0)) (.glob 0)) (.cons (.cmp .eq (.sub (.loc 0) (.kint 0)) (.glob 1)) .nil)))) .nil), []⟩
noncomputable def n_is_variable : List PySem.Str := (["cell"] : List String).map PySem.Str.ofString
noncomputable def f_unify : Fn := ⟨4, (.cons (.assign (.loc 4) (.new 3 (.cons (.loc 0) .nil))) (.cons (.assign (.loc 5) (.list (.cons (.tup (.cons (.loc 1) (.cons (.loc 2) .nil))) .nil))) (.cons (.while (.cmp .gt (.blt 0 (.cons (.loc 5) .nil)) (.kint 0)) (.cons (.assign (.tup [6, 7]) (.meth 1 (.loc 5) .nil)) (.cons (.assign (.loc 6) (.callM 8 (.loc 0) (.cons (.loc 6) .nil))) (.cons (.assign (.loc 7) (.callM 8 (.loc 0) (.cons (.loc 7) .nil))) (.cons (.ite (.cmp .eq (.loc 6) (.loc 7)) (.cons .cont .nil) .nil) (.cons (.ite (.callF 34 (.cons (.loc 6) .nil)) (.cons (.ite (.callF 34 (.cons (.loc 7) .nil)) (.cons (.expr (.callM 10 (.loc 0) (.cons (.loc 6) (.cons (.loc 7) .nil)))) .nil) (.cons (.ite (.not (.callF 36 (.cons (.loc 0) (.cons (.loc 6) (.cons (.loc 7) (.cons (.loc 3) .nil)))))) (.cons (.ret (.kbool false)) .nil) .nil) .nil)) .nil) (.cons (.ite (.callF 34 (.cons (.loc 7) .nil)) (.cons (.ite (.not (.callF 36 (.cons (.loc 0) (.cons (.loc 7) (.cons (.loc 6) (.cons (.loc 3) .nil)))))) (.cons (.ret (.kbool false)) .nil) .nil) .nil) (.cons (.ite (.boolop true (.cons (.callM 14 (.loc 0) (.cons (.loc 6) .nil)) (.cons (.callF 33 (.cons (.loc 0) (.cons (.loc 6) (.cons (.loc 7) .nil)))) .nil))) (.cons (.ite (.callM 22 (.loc 4) (.cons (.loc 6) (.cons (.loc 7) .nil))) (.cons (.expr (.callF 32 (.cons (.loc 0) (.cons (.loc 6) (.cons (.loc 7) (.cons (.loc 5) .nil)))))) .nil) .nil) .nil) (.cons (.ret (.kbool false)) .nil)) .nil)) .nil)) .nil)))))) (.cons (.ret (.kbool true)) .nil)))), []⟩
noncomputable def n_unify : List PySem.Str := (["store", "c1", "c2", "occurs", "met", "work", "left", "right"] : List String).map PySem.Str.ofString
noncomputable def f_bind_checked : Fn := ⟨4, (.cons (.ite (.boolop true (.cons (.loc 3) (.cons (.callF 38 (.cons (.loc 0) (.cons (.loc 1) (.cons (.loc 2) .nil)))) .nil))) (.cons (.ret (.kbool false)) .nil) .nil) (.cons (.expr (.callM 9 (.loc 0) (.cons (.loc 1) (.cons (.loc 2) .nil)))) (.cons (.ret (.kbool true)) .nil))), []⟩
noncomputable def n_bind_checked : List PySem.Str := (["store", "variable", "value", "occurs"] : List String).map PySem.Str.ofString
noncomputable def f_trial : Fn := ⟨4, (.cons (.assign (.loc 4) (.attr (.loc 0) 9)) (.cons (.assign (.loc 5) (.attr (.loc 0) 10)) (.cons (.assign (.loc 6) (.callM 12 (.loc 0) .nil)) (.cons (.assign (.attr (.loc 0) 9) (.blt 0 (.cons (.attr (.loc 0) 6) .nil))) (.cons (.assign (.attr (.loc 0) 10) (.blt 0 (.cons (.attr (.loc 0) 7) .nil))) (.cons (.assign (.loc 7) (.callF 35 (.cons (.loc 0) (.cons (.loc 1) (.cons (.loc 2) (.cons (.loc 3) .nil)))))) (.cons (.expr (.callM 13 (.loc 0) (.cons (.loc 6) .nil))) (.cons (.assign (.attr (.loc 0) 9) (.loc 4)) (.cons (.assign (.attr (.loc 0) 10) (.loc 5)) (.cons (.ret (.loc 7)) .nil)))))))))), []⟩
noncomputable def n_trial : List PySem.Str := (["store", "c1", "c2", "occurs", "hb", "bb", "mark", "found"] : List String).map PySem.Str.ofString
noncomputable def f_occurs_in : Fn := ⟨3, (.cons (.assign (.loc 2) (.callM 8 (.loc 0) (.cons (.loc 2) .nil))) (.cons (.ite (.cmp .eq (.loc 2) (.loc 1)) (.cons (.ret (.kbool true)) .nil) .nil) (.cons (.ite (.boolop false (.cons (.cmp .eq (.sub (.loc 1) (.kint 0)) (.glob 1)) (.cons (.not (.callM 14 (.loc 0) (.cons (.loc 2) .nil))) .nil))) (.cons (.ret (.kbool false)) .nil) .nil) (.cons (.assign (.loc 3) (.blt 3 .nil)) (.cons (.assign (.loc 4) (.list (.cons (.loc 2) .nil))) (.cons (.while (.cmp .gt (.blt 0 (.cons (.loc 4) .nil)) (.kint 0)) (.cons (.assign (.loc 2) (.callM 8 (.loc 0) (.cons (.meth 1 (.loc 4) .nil) .nil))) (.cons (.ite (.cmp .eq (.loc 2) (.loc 1)) (.cons (.ret (.kbool true)) .nil) .nil) (.cons (.ite (.boolop true (.cons (.callM 14 (.loc 0) (.cons (.loc 2) .nil)) (.cons (.cmp .notIn (.sub (.loc 2) (.kint 1)) (.loc 3)) .nil))) (.cons (.expr (.meth 3 (.loc 3) (.cons (.sub (.loc 2) (.kint 1)) .nil))) (.cons (.expr (.callF 31 (.cons (.loc 0) (.cons (.loc 2) (.cons (.loc 4) .nil))))) .nil)) .nil) .nil)))) (.cons (.ret (.kbool false)) .nil))))))), []⟩
noncomputable def n_occurs_in : List PySem.Str := (["store", "variable", "cell", "met", "work"] : List String).map PySem.Str.ofString
noncomputable def f__law_pick : Fn := ⟨2, (.cons (.ite (.boolop true (.cons (.cmp .eq (.sub (.loc 0) (.kint 0)) (.kint 0)) (.cons (.cmp .lt (.sub (.loc 0) (.kint 2)) (.blt 0 (.cons (.sub (.loc 0) (.kint 1)) .nil))) .nil))) (.cons (.assign (.sub (.loc 0) (.kint 0)) (.blt 4 (.cons (.blt 5 (.cons (.sub (.sub (.loc 0) (.kint 1)) (.sub (.loc 0) (.kint 2))) .nil)) .nil))) (.cons (.augSub (.loc 0) (.kint 2) .add (.kint 1)) .nil)) .nil) (.cons (.assign (.loc 2) (.bin .mod (.sub (.loc 0) (.kint 0)) (.loc 1))) (.cons (.augSub (.loc 0) (.kint 0) .fdiv (.loc 1)) (.cons (.ret (.loc 2)) .nil)))), []⟩
noncomputable def n__law_pick : List PySem.Str := (["urn", "faces", "face"] : List String).map PySem.Str.ofString
noncomputable def f__law_things : Fn := ⟨4, (.cons (.assign (.loc 4) (.list .nil)) (.cons (.assign (.loc 5) (.list .nil)) (.cons (.for_ (.loc 6) (.blt 1 (.cons (.bin .add (.kint 3) (.callF 39 (.cons (.loc 0) (.cons (.loc 3) .nil)))) .nil)) (.cons (.assign (.loc 7) (.ife (.cmp .lt (.loc 6) (.kint 2)) (.kint 6) (.callF 39 (.cons (.loc 0) (.cons (.kint 7) .nil))))) (.cons (.assign (.loc 8) (.list .nil)) (.cons (.ite (.cmp .lt (.loc 7) (.kint 4)) (.cons (.for_ (.loc 9) (.blt 1 (.cons (.sub (.list (.cons (.kint 1) (.cons (.kint 2) (.cons (.kint 2) (.cons (.kint 2) .nil))))) (.loc 7)) .nil)) (.cons (.expr (.meth 0 (.loc 8) (.cons (.callF 39 (.cons (.loc 0) (.cons (.loc 6) .nil))) .nil))) .nil)) (.cons (.assign (.loc 10) (.sub (.list (.cons (.callM 2 (.loc 2) (.cons (.kstr (PySem.Str.ofString "g")) (.cons (.kint 1) .nil))) (.cons (.callM 2 (.loc 2) (.cons (.kstr (PySem.Str.ofString "h")) (.cons (.kint 2) .nil))) (.cons (.glob 8) (.cons (.callM 2 (.loc 2) (.cons (.kstr (PySem.Str.ofString "f")) (.cons (.kint 2) .nil))) .nil))))) (.loc 7))) (.cons (.expr (.meth 0 (.loc 4) (.cons (.callM 19 (.loc 1) (.cons (.loc 10) (.cons (.comp 4 8) .nil))) .nil))) .nil))) (.cons (.ite (.cmp .eq (.loc 7) (.kint 4)) (.cons (.expr (.meth 0 (.loc 4) (.cons (.tup (.cons (.glob 4) (.cons (.glob 9) .nil))) .nil))) .nil) (.cons (.ite (.cmp .eq (.loc 7) (.kint 5)) (.cons (.expr (.meth 0 (.loc 4) (.cons (.tup (.cons (.glob 5) (.cons (.callF 39 (.cons (.loc 0) (.cons .pow .nil))) .nil))) .nil))) .nil) (.cons (.expr (.meth 0 (.loc 4) (.cons (.callM 6 (.loc 1) .nil) .nil))) .nil)) .nil)) .nil)) (.cons (.expr (.meth 0 (.loc 5) (.cons (.list (.cons (.sub (.list (.cons (.kstr (PySem.Str.ofString "g")) (.cons (.kstr (PySem.Str.ofString "h")) (.cons (.kstr (PySem.Str.ofString ".")) (.cons (.kstr (PySem.Str.ofString "f")) (.cons (.kstr (PySem.Str.ofString "[]")) (.cons (.sub (.loc 4) (.neg (.kint 1))) (.cons (.kstr (PySem.Str.ofString "")) .nil)))))))) (.loc 7)) (.cons (.loc 8) .nil))) .nil))) .nil))))) (.cons (.ret (.tup (.cons (.loc 4) (.cons (.loc 5) .nil)))) .nil)))), []⟩
noncomputable def n__law_things : List PySem.Str := (["urn", "store", "book", "most", "cells", "nodes", "number", "way", "parts", "turn", "f"] : List String).map PySem.Str.ofString
noncomputable def f__law_is_finite : Fn := ⟨2, (.cons (.tryRet 21 (.loc 0) (.cons (.loc 1) (.cons (.dict0 0) .nil))) (.cons (.ret (.kbool true)) .nil)), []⟩
noncomputable def n__law_is_finite : List PySem.Str := (["store", "cell"] : List String).map PySem.Str.ofString
noncomputable def f_law : Fn := ⟨1, (.cons (.assign (.loc 1) (.list (.cons (.kint 0) (.cons (.slTo (.loc 0) 60) (.cons (.kint 0) .nil))))) (.cons (.assign (.loc 2) (.new 0 .nil)) (.cons (.assign (.loc 3) (.new 2 (.cons (.loc 2) .nil))) (.cons (.assign (.tup [4, 5]) (.callF 40 (.cons (.loc 1) (.cons (.loc 3) (.cons (.loc 2) (.cons (.kint 6) .nil)))))) (.cons (.assign (.loc 6) (.new 2 (.cons (.loc 2) .nil))) (.cons (.assign (.tup [7, 5]) (.callF 40 (.cons (.list (.cons (.kint 0) (.cons (.slTo (.loc 0) 60) (.cons (.kint 0) .nil)))) (.cons (.loc 6) (.cons (.loc 2) (.cons (.kint 6) .nil)))))) (.cons (.ite (.boolop false (.cons (.cmp .ne (.loc 7) (.loc 4)) (.cons (.cmp .ne (.attr (.loc 6) 6) (.attr (.loc 3) 6)) .nil))) (.cons (.ret (.kbool false)) .nil) .nil) (.cons (.for_ (.loc 8) (.blt 1 (.cons (.bin .add (.kint 1) (.callF 39 (.cons (.loc 1) (.cons (.kint 3) .nil)))) .nil)) (.cons (.assign (.loc 9) (.callF 39 (.cons (.loc 1) (.cons (.blt 0 (.cons (.loc 4) .nil)) .nil)))) (.cons (.assign (.loc 10) (.callF 39 (.cons (.loc 1) (.cons (.blt 0 (.cons (.loc 4) .nil)) .nil)))) (.cons (.assign (.loc 11) (.list (.cons (.callF 37 (.cons (.loc 3) (.cons (.sub (.loc 4) (.loc 9)) (.cons (.sub (.loc 4) (.loc 10)) (.cons (.kbool false) .nil))))) (.cons (.callF 37 (.cons (.loc 6) (.cons (.sub (.loc 4) (.loc 9)) (.cons (.sub (.loc 4) (.loc 10)) (.cons (.kbool true) .nil))))) .nil)))) (.cons (.assign (.loc 12) (.list (.cons (.callF 35 (.cons (.loc 3) (.cons (.sub (.loc 4) (.loc 9)) (.cons (.sub (.loc 4) (.loc 10)) (.cons (.kbool false) .nil))))) (.cons (.callF 35 (.cons (.loc 6) (.cons (.sub (.loc 4) (.loc 9)) (.cons (.sub (.loc 4) (.loc 10)) (.cons (.kbool true) .nil))))) .nil)))) (.cons (.ite (.cmp .ne (.loc 11) (.loc 12)) (.cons (.ret (.kbool false)) .nil) .nil) (.cons (.assign (.loc 13) (.boolop true (.cons (.sub (.loc 12) (.kint 0)) (.cons (.callF 41 (.cons (.loc 3) (.cons (.sub (.loc 4) (.loc 9)) .nil))) (.cons (.callF 41 (.cons (.loc 3) (.cons (.sub (.loc 4) (.loc 10)) .nil))) .nil))))) (.cons (.ite (.cmp .ne (.sub (.loc 12) (.kint 1)) (.loc 13)) (.cons (.ret (.kbool false)) .nil) .nil) (.cons (.ite (.not (.loc 13)) (.cons (.ret (.kbool true)) .nil) .nil) (.cons (.ite (.boolop false (.cons (.cmp .ne (.attr (.loc 3) 6) (.attr (.loc 6) 6)) (.cons (.cmp .ne (.attr (.loc 3) 8) (.attr (.loc 6) 8)) .nil))) (.cons (.ret (.kbool false)) .nil) .nil) .nil)))))))))) (.cons (.ret (.kbool true)) .nil))))))))), []⟩
noncomputable def n_law : List PySem.Str := (["script", "urn", "book", "free", "cells", "nodes", "strict", "others", "turn", "one", "two", "hopes", "told", "finite"] : List String).map PySem.Str.ofString
noncomputable def f_PrologError___init__ : Fn := ⟨2, (.cons (.assign (.attr (.loc 0) 13) (.loc 1)) .nil), []⟩
noncomputable def n_PrologError___init__ : List PySem.Str := (["self", "ball"] : List String).map PySem.Str.ofString
noncomputable def fns2 : Nat → Option Fn
  | 0 => some f_fixed_atoms
  | 1 => some f_fixed_functors
  | 2 => some f_Symbols___init__
  | 3 => some f_Symbols_atom
  | 4 => some f_Symbols_functor
  | 5 => some f_Symbols_func
  | 6 => some f_Symbols_name
  | 7 => some f_Symbols_arity
  | 8 => some f_system_error
  | 9 => some f_formal_of
  | 10 => some f_resource_error
  | 11 => some f_Cells___init__
  | 12 => some f_Cells_push
  | 13 => some f_Cells_new_var
  | 14 => some f_Cells_reserve
  | 15 => some f_Cells_deref
  | 16 => some f_Cells_bind
  | 17 => some f_Cells_bind_pair
  | 18 => some f_Cells_globalise
  | 19 => some f_Cells_mark
  | 20 => some f_Cells_undo_to
  | 21 => some f_Cells_is_compound
  | 22 => some f_Cells_functor_of
  | 23 => some f_Cells_width
  | 24 => some f_Cells_base
  | 25 => some f_Cells_new_block
  | 26 => some f_Store_new_struct
  | 27 => some f_Store_whole_size
  | 28 => some f_Store_take_term
  | 29 => some f_PairSet___init__
  | 30 => some f_PairSet_add
  | 31 => some f_push_arguments
  | 32 => some f_push_pairs
  | 33 => some f_same_shape
  | 34 => some f_is_variable
  | 35 => some f_unify
  | 36 => some f_bind_checked
  | 37 => some f_trial
  | 38 => some f_occurs_in
  | 39 => some f__law_pick
  | 40 => some f__law_things
  | 41 => some f__law_is_finite
  | 42 => some f_law
  | 43 => some f_PrologError___init__
  | _ => none
noncomputable def fnNames : List (List PySem.Str) := [n_fixed_atoms, n_fixed_functors, n_Symbols___init__, n_Symbols_atom, n_Symbols_functor, n_Symbols_func, n_Symbols_name, n_Symbols_arity, n_system_error, n_formal_of, n_resource_error, n_Cells___init__, n_Cells_push, n_Cells_new_var, n_Cells_reserve, n_Cells_deref, n_Cells_bind, n_Cells_bind_pair, n_Cells_globalise, n_Cells_mark, n_Cells_undo_to, n_Cells_is_compound, n_Cells_functor_of, n_Cells_width, n_Cells_base, n_Cells_new_block, n_Store_new_struct, n_Store_whole_size, n_Store_take_term, n_PairSet___init__, n_PairSet_add, n_push_arguments, n_push_pairs, n_same_shape, n_is_variable, n_unify, n_bind_checked, n_trial, n_occurs_in, n__law_pick, n__law_things, n__law_is_finite, n_law, n_PrologError___init__]
/-- the defs at the top -/
noncomputable def topFns : List (Nat × String) := [(0, "fixed_atoms"), (1, "fixed_functors"), (8, "system_error"), (9, "formal_of"), (10, "resource_error"), (31, "push_arguments"), (32, "push_pairs"), (33, "same_shape"), (34, "is_variable"), (35, "unify"), (36, "bind_checked"), (37, "trial"), (38, "occurs_in"), (39, "_law_pick"), (40, "_law_things"), (41, "_law_is_finite"), (42, "law")]
noncomputable def methNames : List String := ["atom", "functor", "func", "name", "arity", "push", "new_var", "reserve", "deref", "bind", "bind_pair", "globalise", "mark", "undo_to", "is_compound", "functor_of", "width", "base", "new_block", "new_struct", "whole_size", "take_term", "add"]
noncomputable def methTab : List (Nat × Nat × Nat) := [(0, 0, 3), (0, 1, 4), (0, 2, 5), (0, 3, 6), (0, 4, 7), (1, 5, 12), (1, 6, 13), (1, 7, 14), (1, 8, 15), (1, 9, 16), (1, 10, 17), (1, 11, 18), (1, 12, 19), (1, 13, 20), (1, 14, 21), (1, 15, 22), (1, 16, 23), (1, 17, 24), (1, 18, 25), (2, 5, 12), (2, 6, 13), (2, 7, 14), (2, 8, 15), (2, 9, 16), (2, 10, 17), (2, 11, 18), (2, 12, 19), (2, 13, 20), (2, 14, 21), (2, 15, 22), (2, 16, 23), (2, 17, 24), (2, 18, 25), (2, 19, 26), (2, 20, 27), (2, 21, 28), (3, 22, 30)]
noncomputable def xinit2 : Nat := 43
noncomputable def initTab : List (Nat × Nat) := [(0, 2), (1, 11), (2, 11), (3, 29)]

noncomputable def faddrs : List Nat := [60, 67, 81, 88, 102, 109, 116, 123, 165, 172, 179, 194, 201, 208, 215, 229, 243, 250, 257, 264, 271, 285, 292, 299, 306, 320, 341, 370, 377, 396, 403, 417, 424, 431, 438, 445, 452, 459, 466, 473, 478, 485, 492, 48]
noncomputable def clss : List Nat := [154, 323, 380, 406]
noncomputable def kAt : List Nat := [0, 1, 3, 30, 31, 47, 48, 50, 51, 59, 60, 66, 67, 80, 81, 87, 88, 101, 102, 108, 109, 115, 116, 122, 123, 153, 154, 164, 165, 171, 172, 178, 179, 187, 193, 194, 200, 201, 207, 208, 214, 215, 228, 229, 242, 243, 249, 250, 256, 257, 263, 264, 270, 271, 284, 285, 291, 292, 298, 299, 305, 306, 319, 320, 322, 323, 340, 341, 369, 370, 376, 377, 379, 380, 395, 396, 402, 403, 405, 406, 416, 417, 423, 424, 430, 431, 437, 438, 444, 445, 451, 452, 458, 459, 465, 466, 472, 473, 477, 478, 484, 485, 491, 492]
noncomputable def excAt : Nat := 51
noncomputable def excUp : Nat := 31
noncomputable def globTab : List (Nat × String × V) := [(0, "REF", .int 0), (1, "SRF", .int 1), (2, "STR", .int 2), (3, "LIS", .int 3), (4, "CON", .int 4), (5, "INT", .int 5), (6, "FUN", .int 6), (8, "F_DOT", .int 0), (9, "A_NIL", .int 0), (10, "VISIT", .int 0), (11, "BUILD", .int 1), (12, "F_ERROR", .int 16), (13, "A_SYSTEM", .int 25)]
noncomputable def clsNames : List String := ["Symbols", "Cells", "Store", "PairSet"]

noncomputable def P2 : Prg where
  xinit := xinit2
  glob := fun g => (globTab.lookup g).map (·.2)
  meth := fun c m => (methTab.find? fun r => r.1 == c && r.2.1 == m).map (·.2.2)
  init := fun c => initTab.lookup c
noncomputable def nm2 : Nm where
  xname := PySem.Str.ofString "PrologError"
  gname := fun g => (globTab.lookup g).map fun r => PySem.Str.ofString r.1
  fname := fun f => (topFns.lookup f).map PySem.Str.ofString
  mname := fun m => (methNames[m]?).map PySem.Str.ofString
  cname := fun c => (clsNames[c]?).map PySem.Str.ofString
noncomputable def faddr1 (f : Nat) : Addr := faddrs.getD f 0
noncomputable def cls1 (c : Nat) : Addr := clss.getD c 0

noncomputable def nsOf (K : Frag) (a : Addr) (x : PySem.Str) : Option Value := match K.lookup a with
  | some ⟨_, _, .dict es _, _⟩ => nsFind es x
  | _ => none
noncomputable def strKeysB (K : Frag) (a : Addr) : Bool := match K.lookup a with
  | some ⟨_, _, .dict es _, _⟩ => es.toList.all fun e => match e.key with | .str .. => true | _ => false
  | _ => false

noncomputable def isInt : V → Value → Bool
  | .int i, x => (match x with
    | .int j _ => decide (i = j)
    | _ => false)
  | _, _ => false
noncomputable def areInts : List V → List Value → Bool
  | [], [] => true
  | a :: as, x :: xs => isInt a x && areInts as xs
  | _, _ => false
noncomputable def relB (K : Frag) : V → Value → Bool
  | .none, w => w == .none
  | .tup vs, w => (match w with
    | .ref r => (match K.lookup r with
      | some ob => ob.cls == .type "tuple" && (match ob.data with
        | .seq ws _ => areInts vs ws.toList
        | _ => false)
      | none => false)
    | _ => false)
  | v, w => isInt v w

noncomputable def dfltGood (K : Frag) (fn : Fn) (fd : FuncData) : Bool := match fn.dflt with
  | [] => fd.defaults == .none
  | [d] => decide (fn.arity = 2) && (match fd.defaults with
    | .ref t => (match K.lookup t with
      | some o => (match o.data with
        | .seq ws _ => (match ws.toList with
          | [w] => relB K d w
          | _ => false)
        | _ => false)
      | none => false)
    | _ => false)
  | _ => false
noncomputable def fnL (K : Frag) (fn : Fn) (names : List PySem.Str) (fd : FuncData) (body : List Stmt) : List Bool :=
  [codeIn K fd.code fd.qualname, !fd.scope.isCoroutine, !fd.scope.isGenerator, fd.scope.kind == .function, decide (fd.closure = []), decide (fd.scope.names.map (·.1)).Nodup, decide (fd.globals = mainGlobals), decide (fd.builtins = builtinsNs),
   decide names.Nodup, (names.take (fn.arity + fn.dflt.length)).all (fun x => fd.scope.names.lookup x == some .local), decide (fn.arity + fn.dflt.length ≤ names.length),
   fd.params.posonlyargs.isEmpty, fd.params.kwonlyargs.isEmpty, fd.params.vararg.isNone, fd.params.kwarg.isNone, decide (fd.params.args.map (·.arg) = names.take (fn.arity + fn.dflt.length)),
   dfltGood K fn fd, ckSL nm2 ⟨fd.scope, names⟩ fn.body body]
noncomputable def fnGood (K : Frag) (f : Nat) (fn : Fn) (names : List PySem.Str) : Bool := match K.lookup (faddr1 f) with
  | some o => (match o.data with
    | .func fd => (match fd.body with
      | .stmts body => allT (fnL K fn names fd body)
      | _ => false)
    | _ => false)
  | none => false

noncomputable def excL (K : Frag) (o : Obj) (cd : ClassData) : List Bool :=
  [o.cls == .type "type", !cd.hasDel, decide (o.slots.toList.length = 6), o.slots.toList[4]? == some (some (.builtin "Exception.__new__")), decide (cd.mro = [.ref excAt, .ref excUp, .type "Exception", .type "BaseException", .type "object"]), cd.hasDict, strKeysB K cd.ns, nsOf K cd.ns "__init__" == some (.ref (faddr1 xinit2))]
noncomputable def excGood (K : Frag) : Bool := match K.lookup excAt with
  | some o => (match o.data with
    | .cls cd => allT (excL K o cd)
    | _ => false)
  | none => false
noncomputable def excUpGood (K : Frag) : Bool := match K.lookup excUp with
  | some o => (match o.data with
    | .cls cd => strKeysB K cd.ns && (nsOf K cd.ns "__init__" == none)
    | _ => false)
  | none => false
noncomputable def exc2L (K : Frag) : List Bool := [excUpGood K, findIn K (.ref excAt) "__setattr__" == some (some (.builtin "object.__setattr__")), takerIn K excAt "ball" == some none, (match K.lookup (faddr1 xinit2) with
  | some ob => ob.cls == .type "function"
  | none => false), nsOf K mainGlobals (PySem.Str.ofString "PrologError") == some (.ref excAt), keepIn K (.ref excAt)]
noncomputable def clsL (K : Frag) (p : String × Nat) : List Bool := [nsOf K mainGlobals (PySem.Str.ofString p.1) == some (.ref (cls1 p.2)), keepIn K (.ref (cls1 p.2)), plainGet K (cls1 p.2) PySem.Str.empty, hasDictIn K (cls1 p.2),
    findIn K (.ref (cls1 p.2)) "__setattr__" == some (some (.builtin "object.__setattr__")), plainOver K (cls1 p.2), attrNames.all fun a => findIn K (.ref (cls1 p.2)) a == some none && takerIn K (cls1 p.2) a == some none]
noncomputable def goodL (K : Frag) : List Bool :=
  [excGood K, allT (exc2L K), (K.lookup sysModules).isSome, strKeysB K mainGlobals, strKeysB K builtinsNs,
  bltNames.zipIdx.all fun p => nsOf K mainGlobals (PySem.Str.ofString p.1) == none && nsOf K builtinsNs (PySem.Str.ofString p.1) == some (bltVal p.2),
  globTab.all fun r => match nsOf K mainGlobals (PySem.Str.ofString r.2.1) with | some w => relB K r.2.2 w | none => false,
  topFns.all fun r => nsOf K mainGlobals (PySem.Str.ofString r.2) == some (.ref (faddr1 r.1)) && keepIn K (.ref (faddr1 r.1)),
  clsNames.zipIdx.all fun p => allT (clsL K p),
  methTab.all fun r => match methNames[r.2.1]? with
    | some n => findIn K (.ref (cls1 r.1)) (PySem.Str.ofString n) == some (some (.ref (faddr1 r.2.2))) && isFn K (.ref (faddr1 r.2.2)) && keepIn K (.ref (faddr1 r.2.2)) && !attrNames.contains (PySem.Str.ofString n)
    | none => false,
  initTab.all fun r => makesIn K (cls1 r.1) && findIn K (.ref (cls1 r.1)) "__init__" == some (some (.ref (faddr1 r.2))) && isFn K (.ref (faddr1 r.2)),
  (List.range fnNames.length).all fun f => match fns2 f, fnNames[f]? with
    | some fn, some names => fnGood K f fn names
    | _, _ => false]
noncomputable def good (K : Frag) : Bool := allT (goodL K)

noncomputable def kOf (h : Heap) : List Addr → Option Frag
  | [] => some []
  | a :: as => match h.get? a, kOf h as with
    | some o, some K => some ((a, o) :: K)
    | _, _ => none
set_option tactic.hygienic true in
theorem kOf_in {h : Heap} : ∀ {as : List Addr} {K : Frag}, kOf h as = some K → K.In h
  | [], K, e => by cases e; exact fun a o e => by cases e
  | a :: as, K, e => by
    simp only [kOf] at e
    split at e
    · rename_i o K' e1 e2
      cases e
      intro b ob eb
      rw [List.lookup_cons] at eb
      by_cases q : b = a
      · subst q; simp at eb; subst eb; exact e1
      · rw [beq_eq_false_iff_ne.mpr q] at eb
        exact kOf_in e2 b ob eb
    · cases e
noncomputable def goodAt (h : Heap) : Bool := match kOf h kAt with
  | some K => good K
  | none => false
set_option tactic.hygienic true in
theorem goodAt_of {h : Heap} (e : goodAt h = true) : ∃ K : Frag, K.In h ∧ good K = true := by
  unfold goodAt at e
  split at e
  · rename_i K q; exact ⟨K, kOf_in q, e⟩
  · cases e
noncomputable def hook2 : Hook := ⟨Bool, fun s => goodAt s.heap, fun _ => true, fun _ h => (∃ K : Frag, K.In h ∧ good K = true), fun _ _ e => goodAt_of e, fun _ _ _ ⟨K, a, b⟩ k => ⟨K, a.keeps k, b⟩⟩

end Mine
end

/-! B2 -/
noncomputable section
set_option maxHeartbeats 200000
open PyProof.Rows PySem PySem.Calls PySem.W
namespace Mine

theorem lookup_zip : ∀ {ps : List PySem.Str} {ws : List Value} {x : PySem.Str} {i : Nat}, ps.Nodup → ps[i]? = some x → ∀ {w : Value}, ws[i]? = some w → (ps.zip ws).lookup x = some w
  | [], _, _, _, _, e, _, _ => by simp at e
  | p :: ps, [], _, _, _, _, _, e => by simp at e
  | p :: ps, w :: ws, x, 0, nd, e, w', e' => by
    simp at e e'
    subst e; subst e'
    rw [List.zip_cons_cons, List.lookup_cons]; simp
  | p :: ps, w :: ws, x, i + 1, nd, e, w', e' => by
    simp at e e'
    rw [List.nodup_cons] at nd
    have : x ≠ p := fun z => nd.1 (z ▸ List.mem_of_getElem? e)
    rw [List.zip_cons_cons, List.lookup_cons, beq_eq_false_iff_ne.mpr this]
    exact lookup_zip nd.2 e e'
theorem filterMap_zip {qs : List (PySem.Str × Value)} : ∀ {ps : List PySem.Str} {ws : List Value}, ps.length = ws.length → (∀ (i : Nat) (x : PySem.Str) (w : Value), ps[i]? = some x → ws[i]? = some w → qs.lookup x = some w) → (ps.filterMap fun n => (qs.lookup n).map fun x => (n, x)) = ps.zip ws
  | [], [], _, _ => rfl
  | p :: ps, w :: ws, hl, h => by
    have e := h 0 p w rfl rfl
    rw [List.filterMap_cons, e, List.zip_cons_cons]
    show (p, w) :: _ = _
    rw [filterMap_zip (by simpa using hl) fun i x w e1 e2 => h (i + 1) x w (by simpa using e1) (by simpa using e2)]
  | [], _ :: _, hl, _ => by simp at hl
  | _ :: _, [], hl, _ => by simp at hl

section
variable {α β : Type} {M : Model} {A : Around} {E : Value → Shared → Prop} {s : Shared}
theorem wp_ifn {c : Prop} [Decidable c] {a b : Sem α} {Q : α → Shared → Prop} (h : ¬ c) (k : wpAny M A b Q E s) : wpAny M A (if c then a else b) Q E s := by rw [if_neg h]; exact k
theorem wp_for0 {l : List β} {b : α} {f : β → α → Sem (ForInStep α)} {Q : α → Shared → Prop} (h : l = []) (k : Q b s) : wpAny M A (forIn l b f) Q E s := by subst h; exact wpAny_pure k
theorem wp_ifp {c : Prop} [Decidable c] {a b : Sem α} {Q : α → Shared → Prop} (h : c) (k : wpAny M A a Q E s) : wpAny M A (if c then a else b) Q E s := by rw [if_pos h]; exact k
theorem wp_for1 {x : β} {b : α} {f : β → α → Sem (ForInStep α)} {Q : α → Shared → Prop} (k : wpAny M A (f x b) (fun r s => match r with | .done c => Q c s | .yield c => Q c s) E s) : wpAny M A (forIn [x] b f) Q E s := by
  rw [List.forIn_cons]
  refine wpAny_bind (wpAny_mono k (fun r s h => ?_) fun _ _ h => h)
  cases r with
  | done c => exact wpAny_pure h
  | yield c => exact wpAny_pure h
end
theorem cons_of {α : Type} {l : List α} {n : Nat} (h : l.length = n + 1) : ∃ a t, l = a :: t ∧ t.length = n := by
  cases l with
  | nil => cases h
  | cons a t => exact ⟨a, t, rfl, Nat.succ.inj h⟩
theorem two_of {α : Type} {l : List α} (h : l.length = 2) : ∃ a b, l = [a, b] := by
  obtain ⟨a, l, rfl, h1⟩ := cons_of h
  obtain ⟨b, l, rfl, h2⟩ := cons_of h1
  cases List.length_eq_zero_iff.mp h2
  exact ⟨a, b, rfl⟩
theorem three_of {α : Type} {l : List α} (h : l.length = 3) : ∃ a b c, l = [a, b, c] := by
  obtain ⟨a, l, rfl, h1⟩ := cons_of h
  obtain ⟨b, c, rfl⟩ := two_of h1
  exact ⟨a, b, c, rfl⟩
theorem six {α : Type} {l : List α} (h : l.length = 6) : ∃ a b c d e f, l = [a, b, c, d, e, f] := by
  obtain ⟨a, l, rfl, h1⟩ := cons_of h
  obtain ⟨b, l, rfl, h2⟩ := cons_of h1
  obtain ⟨c, l, rfl, h3⟩ := cons_of h2
  obtain ⟨d, e, f, rfl⟩ := three_of h3
  exact ⟨a, b, c, d, e, f, rfl⟩
theorem binds0 {fd : FuncData} {ps : List PySem.Str} {ws : List Value} {s : Shared} (h1 : fd.params.posonlyargs = []) (h2 : fd.params.kwonlyargs = []) (h3 : fd.params.vararg = none) (h4 : fd.params.kwarg = none) (h5 : fd.params.args.map (·.arg) = ps)
    (hd : fd.defaults = .none) (nd : ps.Nodup) (hl : ps.length = ws.length) : BindsTo s fd ⟨ws, []⟩ (ps.zip ws) := by
  have hlk : ∀ (i : Nat) (x : PySem.Str) (w : Value), ps[i]? = some x → ws[i]? = some w → (ps.zip ws).lookup x = some w := fun i x w e1 e2 => lookup_zip nd e1 e2
  have hx : List.filter (fun n => ((ps.zip ws).lookup n).isNone) ps = [] := List.filter_eq_nil_iff.mpr fun x m => by
    obtain ⟨i, e⟩ := List.mem_iff_getElem?.mp m
    have hi : i < ws.length := hl ▸ (List.getElem?_eq_some_iff.mp e).1
    rw [hlk i x ws[i] e (List.getElem?_eq_getElem hi)]
    exact Bool.noConfusion
  have hfm := filterMap_zip hl hlk
  obtain ⟨name, qn, ⟨po, ar, va, ko, kd, kw, df⟩, body, sc, gl, cl, dd, kdd, doc, pm, an, co, ct, bu⟩ := fd
  dsimp only at h1 h2 h3 h4 h5 hd
  subst h1; subst h2; subst h3; subst h4; subst hd; subst h5
  intro M A E Q hq
  refine wpAny_bind (wpAny_pure (wpAny_bind (wpAny_pure (wp_ifn ?_ (wp_ifn ?_ (wpAny_bind (wp_for0 ?_ (wpAny_bind (wpAny_pure (wp_ifn ?_ (wpAny_pure ?_)))))))))))
  · show ¬ (decide (ws.length > (ar.map (·.arg)).length) && true) = true
    rw [hl, Bool.and_true, decide_eq_true_iff]; exact Nat.lt_irrefl _
  · show ¬ (!(List.filter _ (List.take ((ar.map (·.arg)).length - (List.drop (0 - _) []).length) (ar.map (·.arg)))).isEmpty) = true
    rw [List.drop_nil, List.length_nil, Nat.sub_zero, List.take_length]
    exact fun h => absurd (show (!(List.filter (fun n => (List.lookup n ((ar.map (·.arg)).zip ws)).isNone) (ar.map (·.arg))).isEmpty) = true from h) (by rw [hx]; exact Bool.noConfusion)
  · show List.zip _ (List.drop _ []) = []
    rw [List.drop_nil, List.zip_nil_right]
  · exact Bool.noConfusion
  · show Q (List.filterMap (fun n => (List.lookup n ((ar.map (·.arg)).zip ws)).map fun x => (n, x)) ((ar.map (·.arg)) ++ [])) s
    rw [List.append_nil, hfm]
    exact hq
theorem binds1 {fd : FuncData} {p q r : PySem.Str} {a b d : Value} {t : Addr} {o : Obj} {n : Nat} {s : Shared} (h1 : fd.params.posonlyargs = []) (h2 : fd.params.kwonlyargs = []) (h3 : fd.params.vararg = none) (h4 : fd.params.kwarg = none) (h5 : fd.params.args.map (·.arg) = [p, q, r])
    (hd : fd.defaults = .ref t) (ho : s.heap.get? t = some o) (hs : o.data = .seq #[d] n) (nd : [p, q, r].Nodup) : BindsTo s fd ⟨[a, b], []⟩ [(p, a), (q, b), (r, d)] := by
  obtain ⟨name, qn, ⟨po, ar, va, ko, kd, kw, df⟩, body, sc, gl, cl, dd, kdd, doc, pm, an, co, ct, bu⟩ := fd
  dsimp only at h1 h2 h3 h4 h5 hd
  subst h1; subst h2; subst h3; subst h4; subst hd
  obtain ⟨x, y, z, rfl⟩ := three_of ((List.length_map _).symm.trans (congrArg List.length h5))
  injection h5 with e1 h5; injection h5 with e2 h5; injection h5 with e3 h5
  subst e1; subst e2; subst e3
  intro M A E Q hq
  have nd : [x.arg, y.arg, z.arg].Nodup := nd
  have ne := List.nodup_cons.mp nd
  have npq : (y.arg == x.arg) = false := beq_eq_false_iff_ne.mpr fun h => ne.1 (List.mem_cons.mpr (.inl h.symm))
  have npr : (z.arg == x.arg) = false := beq_eq_false_iff_ne.mpr fun h => ne.1 (.tail _ (List.mem_singleton.mpr h.symm))
  have nqr : (z.arg == y.arg) = false := beq_eq_false_iff_ne.mpr fun h => (List.nodup_cons.mp ne.2).1 (List.mem_singleton.mpr h.symm)
  have lk : ∀ {k j : PySem.Str} {v : Value} {l : List (PySem.Str × Value)}, (k == j) = false → List.lookup k ((j, v) :: l) = List.lookup k l := fun h => by rw [List.lookup_cons, h]
  have lh : ∀ {k : PySem.Str} {v : Value} {l : List (PySem.Str × Value)}, List.lookup k ((k, v) :: l) = some v := by intros; rw [List.lookup_cons, beq_self_eq_true]
  refine wpAny_bind (wpAny_pure (wpAny_bind (wpAny_seqItems ho hs (wp_ifn (fun h => Bool.noConfusion (show false = true from h)) (wp_ifn ?_ (wpAny_bind (wp_for1 (wp_ifp ?_ (wpAny_pure (wpAny_bind (wpAny_pure (wp_ifn ?_ (wpAny_pure ?_))))))))))))) 
  · show ¬ (!(List.filter (fun n => (List.lookup n [(x.arg, a), (y.arg, b)]).isNone) [x.arg, y.arg]).isEmpty) = true
    rw [List.filter_cons_of_neg (by rw [lh]; exact Bool.noConfusion), List.filter_cons_of_neg (by rw [lk npq, lh]; exact Bool.noConfusion)]
    exact Bool.noConfusion
  · show (List.lookup z.arg [(x.arg, a), (y.arg, b)]).isNone = true
    rw [lk npr, lk nqr]; rfl
  · exact Bool.noConfusion
  · show Q (List.filterMap (fun n => (List.lookup n [(x.arg, a), (y.arg, b), (z.arg, d)]).map fun x => (n, x)) [x.arg, y.arg, z.arg]) s
    rw [List.filterMap_cons, lh, List.filterMap_cons, lk npq, lh, List.filterMap_cons, lk npr, lk nqr, lh]
    exact hq
noncomputable def G2 (prog : Program) (w : World) (K : Frag) (hB : Heap) : Glo := { nm2 with C := { prog, w, K, hB, cls := cls1, nc := 4, exc := excAt }, P := P2, mg := nsOf K mainGlobals, mb := nsOf K builtinsNs, faddr := faddr1 }

theorem mem_of_lookup {K W : Type} [BEq K] [LawfulBEq K] : ∀ {l : List (K × W)} {x : K} {w : W}, l.lookup x = some w → (x, w) ∈ l
  | (y, u) :: l, x, w, e => by
    rw [List.lookup_cons] at e
    by_cases q : x = y
    · subst q; simp at e; subst e; exact .head _
    · rw [beq_eq_false_iff_ne.mpr q] at e; exact .tail _ (mem_of_lookup e)

set_option tactic.hygienic true in
theorem ns_of {K : Frag} {h : Heap} (X : K.In h) {a : Addr} (e : strKeysB K a = true) : h.Ns a (nsOf K a) := by
  unfold strKeysB at e
  split at e
  · rename_i c d es ep sl q
    refine ⟨_, es, ep, X _ _ q, rfl, fun en m => ?_, fun x => ?_⟩
    · have := List.all_eq_true.mp e en (Array.mem_toList_iff.mpr m)
      revert this
      cases hk : en.key <;> simp
    · unfold nsOf; rw [q]
  · cases e

theorem isInt_rel {h : Heap} {φ : List Addr} {v : V} {w : Value} (e : isInt v w = true) : Rel h φ v w := by
  cases v with
  | int i =>
    cases w with
    | int j t => exact ⟨t, by rw [of_decide_eq_true (show decide (i = j) = true from e)]⟩
    | _ => exact Bool.noConfusion (show false = true from e)
  | _ => exact Bool.noConfusion (show false = true from e)
theorem areInts_rel {h : Heap} {φ : List Addr} : ∀ {vs : List V} {ws : List Value}, areInts vs ws = true → RelL h φ vs ws
  | [], [], _ => RelL.nil
  | v :: vs, w :: ws, e => by
    have b := and_r (show (isInt v w && areInts vs ws) = true from e)
    have a := and_l (show (isInt v w && areInts vs ws) = true from e)
    exact RelL.cons (isInt_rel a) (areInts_rel b)
  | [], _ :: _, e => Bool.noConfusion (show false = true from e)
  | _ :: _, [], e => Bool.noConfusion (show false = true from e)
theorem relB_of {K : Frag} {h : Heap} (X : K.In h) {v : V} {w : Value} (e : relB K v w = true) : Rel h [] v w := by
  cases v with
  | none => exact beq_iff_eq.mp (show (w == Value.none) = true from e)
  | tup vs =>
    cases w with
    | ref r =>
      have e : (match K.lookup r with
        | some ob => ob.cls == .type "tuple" && (match ob.data with
          | .seq ws _ => areInts vs ws.toList
          | _ => false)
        | none => false) = true := e
      cases hk : K.lookup r with
      | none => rw [hk] at e; cases e
      | some ob =>
        rw [hk] at e
        have e2 := and_r e
        have e1 := and_l e
        obtain ⟨c, d, da, sl⟩ := ob
        cases da with
        | seq ws n => exact ⟨r, ws, rfl, ⟨_, X _ _ hk, beq_iff_eq.mp e1, n, rfl⟩, areInts_rel e2⟩
        | _ => exact Bool.noConfusion (show false = true from e2)
    | _ => exact Bool.noConfusion (show false = true from e)
  | int i => exact isInt_rel (show isInt (.int i) w = true from e)
  | _ => exact Bool.noConfusion (show false = true from e)

theorem initTab_lt : ∀ r ∈ initTab, r.1 < 4 := by decide
theorem methTab_lt : ∀ r ∈ methTab, r.1 < 4 := by decide

theorem exc_cd {K : Frag} (x : excGood K = true) : ∃ cl dd cd sl, K.lookup excAt = some ⟨cl, dd, .cls cd, sl⟩ ∧ allT (excL K ⟨cl, dd, .cls cd, sl⟩ cd) = true := by
  unfold excGood at x
  cases ho : K.lookup excAt with
  | none => rw [ho] at x; cases x
  | some o =>
    rw [ho] at x
    obtain ⟨cl, dd, da, sl⟩ := o
    cases da with
    | cls cd => exact ⟨cl, dd, cd, sl, rfl, x⟩
    | _ => exact Bool.noConfusion (show false = true from x)
theorem exc_up {K : Frag} (x : excUpGood K = true) : ∃ cl dd cd sl, K.lookup excUp = some ⟨cl, dd, .cls cd, sl⟩ ∧ strKeysB K cd.ns = true ∧ nsOf K cd.ns "__init__" = none := by
  unfold excUpGood at x
  cases ho : K.lookup excUp with
  | none => rw [ho] at x; cases x
  | some o =>
    rw [ho] at x
    obtain ⟨cl, dd, da, sl⟩ := o
    cases da with
    | cls cd => exact ⟨cl, dd, cd, sl, rfl, and_l x, beq_iff_eq.mp (and_r x)⟩
    | _ => exact Bool.noConfusion (show false = true from x)
theorem exc_fn {K : Frag} (x : (match K.lookup (faddr1 xinit2) with | some ob => ob.cls == .type "function" | none => false) = true) : ∃ o, K.lookup (faddr1 xinit2) = some o ∧ o.cls = .type "function" := by
  cases ho : K.lookup (faddr1 xinit2) with
  | none => rw [ho] at x; cases x
  | some o => rw [ho] at x; exact ⟨o, rfl, beq_iff_eq.mp x⟩
theorem exc_ok {K : Frag} {hB : Heap} (X : K.In hB) (x1 : excGood K = true) (x2 : allT (exc2L K) = true) : ExcCls K hB excAt (faddr1 xinit2) := by
  obtain ⟨cl, dd, cd, sl, ho, c⟩ := exc_cd x1
  have at' : ∀ {k b}, (excL K ⟨cl, dd, .cls cd, sl⟩ cd)[k]? = some b → b = true := fun e => all_at c e
  have at2 : ∀ {k b}, (exc2L K)[k]? = some b → b = true := fun e => all_at x2 e
  have a4 := of_decide_eq_true (at' (k := 4) rfl)
  have a1 : cl = .type "type" := beq_iff_eq.mp (at' (k := 0) rfl)
  have hcd : clsIn K excAt = some cd := by unfold clsIn; rw [ho]
  refine ⟨?_, ⟨cd, hcd, at' (k := 5) rfl, by rw [a4]; decide, by rw [a4]; decide, by rw [a4]; decide, fun self => by rw [a4]; exact exc_refuse self _ _⟩, by show (K.lookup excAt).map (·.cls) = _; rw [ho]; exact congrArg some a1, beq_iff_eq.mp (at2 (k := 1) rfl), beq_iff_eq.mp (at2 (k := 2) rfl), ?_⟩
  · obtain ⟨k0, k1, k2, k3, k4, k5, hs⟩ := six (of_decide_eq_true (at' (k := 2) rfl))
    have a3 : sl.toList[4]? = some (some (.builtin "Exception.__new__")) := beq_iff_eq.mp (at' (k := 3) rfl)
    have a2 : (!cd.hasDel) = true := at' (k := 1) rfl
    have a6 : strKeysB K cd.ns = true := at' (k := 6) rfl
    have a7 : nsOf K cd.ns "__init__" = some (.ref (faddr1 xinit2)) := beq_iff_eq.mp (at' (k := 7) rfl)
    obtain ⟨u1, u2, u3, u4, ho', b1, b2⟩ := exc_up (at2 (k := 0) rfl)
    clear at' at2 c x1 x2 hcd
    rw [hs] at a3
    obtain ⟨nm, bs, mro, ns, q, hdct, sn, sub, ab, col, hdel⟩ := cd
    dsimp only at a2 a4 a6 a7
    have a2 : hdel = false := by cases hdel with | false => rfl | true => cases a2
    have a3 : k4 = some (.builtin "Exception.__new__") := Option.some.inj a3
    subst a1; subst a4; subst a3; subst a2
    obtain rfl : sl = #[k0, k1, k2, k3, some (.builtin "Exception.__new__"), k5] := by rw [← Array.toArray_toList (xs := sl), hs]
    exact ⟨nm, q, ns, bs, _, hdct, sn, sub, ab, col, dd, k0, k1, k2, k3, k5, nsOf K ns, X _ _ ho, ns_of X a6, a7, .own (X _ _ ho') (ns_of X b1) b2 .base⟩
  · obtain ⟨o, h1, h2⟩ := exc_fn (at2 (k := 3) rfl)
    exact ⟨o, X _ _ h1, h2⟩
theorem exc_nm {K : Frag} (x2 : allT (exc2L K) = true) : nsOf K mainGlobals (PySem.Str.ofString "PrologError") = some (.ref excAt) ∧ keepIn K (.ref excAt) = true :=
  ⟨beq_iff_eq.mp (all_at (l := exc2L K) (k := 4) x2 rfl), all_at (l := exc2L K) (k := 5) x2 rfl⟩

theorem glob_at {K : Frag} {hB : Heap} (X : K.In hB) {x : PySem.Str} {v : V} (c : (match nsOf K mainGlobals x with | some w => relB K v w | none => false) = true) : ∃ w, nsOf K mainGlobals x = some w ∧ Rel hB [] v w := by
  cases q : nsOf K mainGlobals x with
  | none => rw [q] at c; cases c
  | some w => rw [q] at c; exact ⟨w, rfl, relB_of X c⟩
theorem gloOk2 {prog : Program} {w : World} {K : Frag} {hB : Heap} (X : K.In hB) (g : good K = true) (lim : hB.NoLimit) : GloOk (G2 prog w K hB) := by
  have at' : ∀ {k b}, (goodL K)[k]? = some b → b = true := fun e => all_at g e
  have cls : ∀ {n c}, (n, c) ∈ clsNames.zipIdx → allT (clsL K (n, c)) = true := fun h => List.all_eq_true.mp (at' (k := 8) rfl) _ h
  have hcls : ∀ {c}, c < 4 → ∃ n, allT (clsL K (n, c)) = true := fun {c} hc => by
    refine ⟨clsNames[c]'(by exact hc), cls ?_⟩
    rw [List.mk_mem_zipIdx_iff_getElem?]
    exact List.getElem?_eq_getElem _
  refine { hK := X, g := ns_of X (at' (k := 3) rfl), b := ns_of X (at' (k := 4) rfl), lim := lim, sm := ?_, bi := ?_, glob := ?_, fn := ?_, cn := ?_, meth := ?_, attr := ?_, sets := ?_, init := ?_, xn := exc_nm (at' (k := 1) rfl), xc := exc_ok X (at' (k := 0) rfl) (at' (k := 1) rfl) }
  · obtain ⟨o, e⟩ := Option.isSome_iff_exists.mp (at' (k := 2) rfl)
    exact fun h => nomatch (X _ _ e).symm.trans h
  · intro i n e
    have c := List.all_eq_true.mp (at' (k := 5) rfl) (n, i) (List.mk_mem_zipIdx_iff_getElem?.mpr e)
    exact ⟨beq_iff_eq.mp (and_l c), beq_iff_eq.mp (and_r c)⟩
  · intro gg x v e1 e2
    have e1 : (globTab.lookup gg).map (fun r => PySem.Str.ofString r.1) = some x := e1
    have e2 : (globTab.lookup gg).map (·.2) = some v := e2
    obtain ⟨⟨n, u⟩, e3, rfl⟩ := Option.map_eq_some_iff.mp e1
    rw [e3] at e2
    cases e2
    exact glob_at X (List.all_eq_true.mp (at' (k := 6) rfl) (gg, n, u) (mem_of_lookup e3))
  · intro f x e
    have e : (topFns.lookup f).map PySem.Str.ofString = some x := e
    obtain ⟨n, e3, rfl⟩ := Option.map_eq_some_iff.mp e
    have c := List.all_eq_true.mp (at' (k := 7) rfl) (f, n) (mem_of_lookup e3)
    exact ⟨beq_iff_eq.mp (and_l c), and_r c⟩
  · intro c x e
    have e : (clsNames[c]?).map PySem.Str.ofString = some x := e
    obtain ⟨n, e3, rfl⟩ := Option.map_eq_some_iff.mp e
    have c' := cls (List.mk_mem_zipIdx_iff_getElem?.mpr e3)
    exact ⟨beq_iff_eq.mp (all_at (l := clsL K (n, c)) (k := 0) c' rfl), all_at (l := clsL K (n, c)) (k := 1) c' rfl⟩
  · intro c m f x e1 e2
    have e1 : (methTab.find? fun r => r.1 == c && r.2.1 == m).map (·.2.2) = some f := e1
    have e2 : (methNames[m]?).map PySem.Str.ofString = some x := e2
    obtain ⟨⟨c', m', f'⟩, e3, rfl⟩ := Option.map_eq_some_iff.mp e1
    have hm := List.mem_of_find?_eq_some e3
    have hp := List.find?_some e3
    have hp : (c' == c && m' == m) = true := hp
    obtain rfl := beq_iff_eq.mp (and_l hp)
    obtain rfl := beq_iff_eq.mp (and_r hp)
    obtain ⟨n, e4, rfl⟩ := Option.map_eq_some_iff.mp e2
    have c := List.all_eq_true.mp (at' (k := 9) rfl) _ hm
    dsimp only at c
    rw [e4] at c
    have d : (!attrNames.contains (PySem.Str.ofString n)) = true := and_r c
    obtain ⟨nn, hc⟩ := hcls (methTab_lt _ hm)
    exact ⟨all_at (l := clsL K (nn, c')) (k := 2) hc rfl, beq_iff_eq.mp (and_l (and_l (and_l c))), and_r (and_l (and_l c)), and_r (and_l c), fun h => by rw [List.contains_iff_mem.mpr h] at d; cases d⟩
  · intro c a hc ha
    obtain ⟨nn, hc⟩ := hcls hc
    have hm : attrName a ∈ attrNames := by unfold attrName; rw [List.getD_eq_getElem?_getD, List.getElem?_eq_getElem ha]; exact List.getElem_mem ha
    have d := List.all_eq_true.mp (all_at (l := clsL K (nn, c)) (k := 6) hc rfl) _ hm
    exact ⟨all_at (l := clsL K (nn, c)) (k := 2) hc rfl, all_at (l := clsL K (nn, c)) (k := 3) hc rfl, beq_iff_eq.mp (and_l d), beq_iff_eq.mp (and_r d)⟩
  · intro c hc
    obtain ⟨nn, hc⟩ := hcls hc
    exact ⟨beq_iff_eq.mp (all_at (l := clsL K (nn, c)) (k := 4) hc rfl), all_at (l := clsL K (nn, c)) (k := 5) hc rfl⟩
  · intro c f e
    have hm := mem_of_lookup (show initTab.lookup c = some f from e)
    have c := List.all_eq_true.mp (at' (k := 10) rfl) _ hm
    exact ⟨initTab_lt _ hm, and_l (and_l c), beq_iff_eq.mp (and_r (and_l c)), and_r c⟩

theorem dflt_of {K : Frag} {fd : FuncData} {d : V} (c : (match fd.defaults with
    | .ref t => (match K.lookup t with
      | some o => (match o.data with
        | .seq ws _ => (match ws.toList with
          | [w] => relB K d w
          | _ => false)
        | _ => false)
      | none => false)
    | _ => false) = true) : ∃ t o n w, fd.defaults = .ref t ∧ K.lookup t = some o ∧ o.data = .seq #[w] n ∧ relB K d w = true := by
  cases ht : fd.defaults with
  | ref t =>
    rw [ht] at c
    have c : (match K.lookup t with | some o => (match o.data with | .seq ws _ => (match ws.toList with | [w] => relB K d w | _ => false) | _ => false) | none => false) = true := c
    cases ho : K.lookup t with
    | none => rw [ho] at c; cases c
    | some o =>
      rw [ho] at c
      obtain ⟨_, _, da, _⟩ := o
      cases da with
      | seq ws n =>
        have c : (match ws.toList with | [w] => relB K d w | _ => false) = true := c
        cases hw : ws.toList with
        | nil => rw [hw] at c; cases c
        | cons w l =>
          cases l with
          | nil =>
            rw [hw] at c
            obtain rfl : ws = #[w] := by rw [← Array.toArray_toList (xs := ws), hw]
            exact ⟨t, _, n, w, rfl, ho, rfl, c⟩
          | cons => rw [hw] at c; cases c
      | _ => exact Bool.noConfusion (show false = true from c)
  | _ => rw [ht] at c; cases c
theorem fn_body {prog : Program} {w : World} {K : Frag} {hB : Heap} (X : K.In hB) {f : Nat} {fn : Fn} {names : List PySem.Str} {o : Obj} {fd : FuncData} {body : List Stmt} (ho : K.lookup (faddr1 f) = some o) (hd : o.data = .func fd) (hb : fd.body = .stmts body) (c : allT (fnL K fn names fd body) = true) :
    ∃ dws, FnOk (G2 prog w K hB) f fn o fd body names dws := by
  have at' : ∀ {k b}, (fnL K fn names fd body)[k]? = some b → b = true := fun e => all_at c e
  have ff : ∀ {b : Bool}, (!b) = true → b = false := fun h => by rwa [Bool.not_eq_true'] at h
  have nd : names.Nodup := of_decide_eq_true (at' (k := 8) rfl)
  have many := of_decide_eq_true (at' (k := 10) rfl)
  have p1 := List.isEmpty_iff.mp (at' (k := 11) rfl)
  have p2 := List.isEmpty_iff.mp (at' (k := 12) rfl)
  have p3 : fd.params.vararg = none := Option.isNone_iff_eq_none.mp (at' (k := 13) rfl)
  have p4 : fd.params.kwarg = none := Option.isNone_iff_eq_none.mp (at' (k := 14) rfl)
  have p5 := of_decide_eq_true (at' (k := 15) rfl)
  have a16 : dfltGood K fn fd = true := at' (k := 16) rfl
  have base : ∀ dws, RelL hB [] fn.dflt dws → (∀ (s : Shared) (ws : List Value), hB.StaysIn s.heap → ws.length = fn.arity → BindsTo s fd ⟨ws, []⟩ (names.zip (ws ++ dws))) → FnOk (G2 prog w K hB) f fn o fd body names dws := fun dws r1 r2 =>
    { ho := X _ _ ho, hd := hd, cd := codeRec_of X (at' (k := 0) rfl), hb := hb, co := ff (at' (k := 1) rfl), gen := ff (at' (k := 2) rfl), kind := beq_iff_eq.mp (at' (k := 3) rfl),
      clo := of_decide_eq_true (at' (k := 4) rfl), ndn := of_decide_eq_true (at' (k := 5) rfl)
      glob := of_decide_eq_true (at' (k := 6) rfl), bu := of_decide_eq_true (at' (k := 7) rfl), nd := nd, loc := fun x m => beq_iff_eq.mp (List.all_eq_true.mp (at' (k := 9) rfl) x m), many := many, dflt := r1, bind := r2, ck := at' (k := 17) rfl }
  clear at' c
  unfold dfltGood at a16
  cases hd0 : fn.dflt with
  | nil =>
    rw [hd0] at a16 p5 many
    refine ⟨[], base [] (by rw [hd0]; rfl) fun s ws hs hl => ?_⟩
    rw [List.append_nil, zip_take hl]
    exact binds0 p1 p2 p3 p4 p5 (beq_iff_eq.mp a16) (nd.sublist (List.take_sublist _ _)) (by rw [List.length_take, hl]; exact Nat.min_eq_left many)
  | cons dv r =>
    cases r with
    | cons => rw [hd0] at a16; cases a16
    | nil =>
      rw [hd0] at a16 p5 many
      obtain ⟨b1, b2⟩ := Bool.and_eq_true_iff.mp a16
      have b1 := of_decide_eq_true b1
      obtain ⟨t, o', n', wv, ht, ho', hw, b2⟩ := dflt_of b2
      rw [b1] at p5 many
      refine ⟨[wv], base [wv] (by rw [hd0]; exact RelL.cons (relB_of X b2) RelL.nil) fun s ws hs hl => ?_⟩
      rw [b1] at hl
      obtain ⟨x, y, rfl⟩ := two_of hl
      obtain ⟨p, q, r, hp⟩ := three_of (l := names.take 3) (by rw [List.length_take]; exact Nat.min_eq_left many)
      rw [zip_take (k := 3) (ws := [x, y] ++ [wv]) rfl, hp]
      refine binds1 p1 p2 p3 p4 (p5.trans hp) ht (hs _ _ (X _ _ ho')) hw ?_
      rw [← hp]; exact nd.sublist (List.take_sublist _ _)
theorem fn_ok {prog : Program} {w : World} {K : Frag} {hB : Heap} (X : K.In hB) {f : Nat} {fn : Fn} {names : List PySem.Str} (c : fnGood K f fn names = true) : ∃ o fd body names dws, FnOk (G2 prog w K hB) f fn o fd body names dws := by
  unfold fnGood at c
  cases ho : K.lookup (faddr1 f) with
  | none => rw [ho] at c; cases c
  | some o =>
    rw [ho] at c
    obtain ⟨cl, dd, da, sl⟩ := o
    cases da with
    | func fd =>
      have c : (match fd.body with | .stmts body => allT (fnL K fn names fd body) | _ => false) = true := c
      cases hb : fd.body with
      | stmts body =>
        rw [hb] at c
        obtain ⟨dws, h⟩ := fn_body (prog := prog) (w := w) X ho rfl hb c
        exact ⟨_, fd, body, names, dws, h⟩
      | _ => rw [hb] at c; cases c
    | _ => exact Bool.noConfusion (show false = true from c)
theorem fnOk2 {prog : Program} {w : World} {K : Frag} {hB : Heap} (X : K.In hB) (g : good K = true) : ∀ f fn, fns2 f = some fn → ∃ o fd body names dws, FnOk (G2 prog w K hB) f fn o fd body names dws := by
  intro f fn e
  have hf : f < fnNames.length := by
    by_cases h : f < 44
    · exact h
    · obtain ⟨n, rfl⟩ : ∃ n, f = n + 44 := ⟨f - 44, by exact Om60 h⟩
      cases e
  have c := List.all_eq_true.mp (all_at (l := goodL K) (k := 11) g rfl) f (List.mem_range.mpr hf)
  rw [e, List.getElem?_eq_getElem hf] at c
  exact fn_ok X c

end Mine
end

/-! R1 -/
noncomputable section
set_option maxHeartbeats 200000
open PySem
namespace Mine

/-! rules that step through a body without simp -/
/-- an expression's value, where no def is called -/
noncomputable def Ev (ρ : En) (σ : AH) (e : E) (v : V) (τ : AH) : Prop := ∀ (cf : Cf) (Q : V → AH → Prop), Q v τ → wE P2 cf e ρ σ Q
noncomputable def Evl (ρ : En) (σ : AH) (es : EL) (vs : List V) (τ : AH) : Prop := ∀ (cf : Cf) (Q : List V → AH → Prop), Q vs τ → wL P2 cf es ρ σ Q
noncomputable def Evb (ρ : En) (σ : AH) (d : Bool) (es : EL) (v : V) (τ : AH) : Prop := ∀ (cf : Cf) (Q : V → AH → Prop), Q v τ → wB P2 cf d es ρ σ Q
/-- one body behind another -/
noncomputable def cat : SL → SL → SL
  | .nil, t => t
  | .cons s ss, t => .cons s (cat ss t)
noncomputable def br (A B : Prop) : V → Prop
  | .bool t => if t = true then A else B
  | _ => False
section
variable {ρ : En} {σ τ υ : AH} {e e' : E} {es : EL} {v u w o : V} {vs : List V} {i a : Nat}
theorem Ev.loc (h : ρ i = some v) : Ev ρ σ (.loc i) v σ := fun cf Q q => by
  show (match ρ i with | some v => Q v σ | none => False)
  rw [h]; exact q
theorem Ev.kint {k : Int} : Ev ρ σ (.kint k) (.int k) σ := fun cf Q q => q
theorem Ev.kstr {k : PySem.Str} : Ev ρ σ (.kstr k) (.str k) σ := fun cf Q q => q
theorem Ev.kbool {k : Bool} : Ev ρ σ (.kbool k) (.bool k) σ := fun cf Q q => q
theorem Ev.knone : Ev ρ σ .knone .none σ := fun cf Q q => q
theorem Ev.glob (h : P2.glob i = some v) : Ev ρ σ (.glob i) v σ := fun cf Q q => by
  show (match P2.glob i with | some v => Q v σ | none => False)
  rw [h]; exact q
theorem Ev.dict0 : Ev ρ σ (.dict0 i) (.obj σ.length) (σ ++ [match i with | 0 => .dictI [] | 1 => .dictS [] | _ => .dictT []]) := fun cf Q q => q
theorem Ev.tup (h : Evl ρ σ es vs τ) : Ev ρ σ (.tup es) (.tup vs) τ := fun cf Q q => h cf _ q
theorem Ev.list (h : Evl ρ σ es vs τ) : Ev ρ σ (.list es) (.obj τ.length) (τ ++ [.list vs]) := fun cf Q q => h cf _ q
theorem Ev.attr (h : Ev ρ σ e o τ) (k : attrAt τ o a = some u) : Ev ρ σ (.attr e a) u τ := fun cf Q q => h cf _ (by
  show (match attrAt τ o a with | some u => Q u τ | none => False)
  rw [k]; exact q)
theorem Ev.sub (h : Ev ρ σ e o τ) (h' : Ev ρ τ e' w υ) (k : itemAt υ o w = some u) : Ev ρ σ (.sub e e') u υ := fun cf Q q => h cf _ (h' cf _ (by
  show (match itemAt υ o w with | some u => Q u υ | none => False)
  rw [k]; exact q))
theorem Ev.slTo {xs : List V} (h : Ev ρ σ e o τ) (k : listAt τ o = some xs) (l : xs.length < 1000000) : Ev ρ σ (.slTo e i) (.obj τ.length) (τ ++ [.list (xs.take i)]) := fun cf Q q => h cf _ (by
  show (match listAt τ o with | some xs => if xs.length < 1000000 then Q (.obj τ.length) (τ ++ [.list (xs.take i)]) else False | none => False)
  rw [k]; show (if _ then _ else _); rw [if_pos l]; exact q)
theorem Ev.cmp {op : Cm} {b : Bool} (h : Ev ρ σ e o τ) (h' : Ev ρ τ e' w υ) (k : cmpV υ op o w = some b) : Ev ρ σ (.cmp op e e') (.bool b) υ := fun cf Q q => h cf _ (h' cf _ (by
  show (match cmpV υ op o w with | some c => Q (.bool c) υ | none => False)
  rw [k]; exact q))
theorem Ev.bin {op : Bo} (h : Ev ρ σ e o τ) (h' : Ev ρ τ e' w υ) (k : binV op o w = some u) : Ev ρ σ (.bin op e e') u υ := fun cf Q q => h cf _ (h' cf _ (by
  show (match binV op o w with | some v => Q v υ | none => False)
  rw [k]; exact q))
theorem Ev.bool {d : Bool} (h : Evb ρ σ d es v τ) : Ev ρ σ (.boolop d es) v τ := h
theorem Ev.not {b : Bool} (h : Ev ρ σ e (.bool b) τ) : Ev ρ σ (.not e) (.bool !b) τ := fun cf Q q => h cf _ q
theorem Ev.neg {k : Int} (h : Ev ρ σ e (.int k) τ) : Ev ρ σ (.neg e) (.int (-k)) τ := fun cf Q q => h cf _ q
theorem Ev.blt (h : Evl ρ σ es vs τ) (k : bltV τ i vs = some (u, υ)) : Ev ρ σ (.blt i es) u υ := fun cf Q q => h cf _ (by
  show (match bltV τ i vs with | some (v, σ'') => Q v σ'' | none => False)
  rw [k]; exact q)
theorem Ev.meth {χ : AH} (h : Ev ρ σ e o τ) (m : methOk τ i o = true) (h' : Evl ρ τ es vs υ) (k : methV υ i o vs = some (u, χ)) : Ev ρ σ (.meth i e es) u χ := fun cf Q q => h cf _ ⟨m, h' cf _ (by
  show (match methV υ i o vs with | some (v, σ'') => Q v σ'' | none => False)
  rw [k]; exact q)⟩
theorem Ev.isNone {b : Bool} (h : Ev ρ σ e o τ) (k : noneV o = some b) : Ev ρ σ (.isNone e) (.bool b) τ := fun cf Q q => h cf _ (by
  show (match noneV o with | some c => Q (.bool c) τ | none => False)
  rw [k]; exact q)
theorem Ev.isStr {b : Bool} (h : Ev ρ σ e o τ) (k : strV o = some b) : Ev ρ σ (.isStr e) (.bool b) τ := fun cf Q q => h cf _ (by
  show (match strV o with | some c => Q (.bool c) τ | none => False)
  rw [k]; exact q)
theorem Ev.slFrom {j : Nat} {xs : List V} (h : ρ i = some v) (h' : ρ j = some u) (k : dropV σ v u = some xs) : Ev ρ σ (.slFrom i j) (.obj σ.length) (σ ++ [.list xs]) := fun cf Q q => by
  rw [ZB, h, h']; show (match dropV σ v u with | some xs => Q (.obj σ.length) (σ ++ [.list xs]) | none => False); rw [k]; exact q
theorem Ev.comp {j : Nat} {l : V} {xs ks us : List V} (h : ρ i = some v) (h' : ρ j = some l) (k1 : listAt σ v = some xs) (k2 : listAt σ l = some ks) (k3 : pickV xs ks = some us) (k4 : ks.length < 1000) : Ev ρ σ (.comp i j) (.obj σ.length) (σ ++ [.list us]) := fun cf Q q => by
  rw [Zj, h, h']
  show (match listAt σ v with | some xs => (match listAt σ l with | some ks => (match pickV xs ks with | some us => if ks.length < 1000 then Q (.obj σ.length) (σ ++ [.list us]) else False | none => False) | none => False) | none => False)
  rw [k1, k2]
  show (match pickV xs ks with | some us => if ks.length < 1000 then Q (.obj σ.length) (σ ++ [.list us]) else False | none => False)
  rw [k3]
  show (if _ then _ else _)
  rw [if_pos k4]; exact q
theorem Ev.pow : Ev ρ σ .pow (.int (10 ^ 20)) σ := fun cf Q q => q
theorem Evl.nil : Evl ρ σ .nil [] σ := fun cf Q q => q
theorem Evl.cons (h : Ev ρ σ e v τ) (h' : Evl ρ τ es vs υ) : Evl ρ σ (.cons e es) (v :: vs) υ := fun cf Q q => h cf _ (h' cf _ q)
theorem Evl.one (h : Ev ρ σ e v τ) : Evl ρ σ (.cons e .nil) [v] τ := fun cf Q q => h cf _ q
theorem Evb.one {d : Bool} (h : Ev ρ σ e v τ) : Evb ρ σ d (.cons e .nil) v τ := h
theorem Evb.go {d : Bool} (h : Ev ρ σ e (.bool d) τ) (h' : Evb ρ τ d (.cons e' es) v υ) : Evb ρ σ d (.cons e (.cons e' es)) v υ := fun cf Q q => h cf _ (by
  show (if d = d then _ else _)
  rw [if_pos rfl]; exact h' cf Q q)
theorem Evb.stop {d b : Bool} (h : Ev ρ σ e (.bool b) τ) (n : b ≠ d) : Evb ρ σ d (.cons e (.cons e' es)) (.bool b) τ := fun cf Q q => h cf _ (by
  show (if b = d then _ else _)
  rw [if_neg n]; exact q)
/-- and / or of two things that do not change the heap -/
theorem Evb.and {p q : Prop} [Decidable p] [Decidable q] (h : Ev ρ σ e (.bool (decide p)) σ) (h' : p → Ev ρ σ e' (.bool (decide q)) σ) : Evb ρ σ true (.cons e (.cons e' .nil)) (.bool (decide (p ∧ q))) σ := by
  by_cases hp : p
  · have e1 : decide (p ∧ q) = decide q := decide_eq_decide.mpr ⟨And.right, And.intro hp⟩
    have e2 : decide p = true := decide_eq_true hp
    rw [e1]; rw [e2] at h; exact .go h (.one (h' hp))
  · have e1 : decide (p ∧ q) = false := decide_eq_false fun h => hp h.1
    have e2 : decide p = false := decide_eq_false hp
    rw [e1]; rw [e2] at h; exact .stop h Bool.noConfusion
theorem Evb.or {p q : Prop} [Decidable p] [Decidable q] (h : Ev ρ σ e (.bool (decide p)) σ) (h' : ¬ p → Ev ρ σ e' (.bool (decide q)) σ) : Evb ρ σ false (.cons e (.cons e' .nil)) (.bool (decide (p ∨ q))) σ := by
  by_cases hp : p
  · have e1 : decide (p ∨ q) = true := decide_eq_true (.inl hp)
    have e2 : decide p = true := decide_eq_true hp
    rw [e1]; rw [e2] at h; exact .stop h Bool.noConfusion
  · have e1 : decide (p ∨ q) = decide q := decide_eq_decide.mpr ⟨fun h => h.resolve_left hp, .inr⟩
    have e2 : decide p = false := decide_eq_false hp
    rw [e1]; rw [e2] at h; exact .go h (.one (h' hp))
theorem Ev.ifT {e'' : E} (h : Ev ρ σ e (.bool true) τ) (h' : Ev ρ τ e' v υ) : Ev ρ σ (.ife e e' e'') v υ := fun cf Q q => h cf _ (by
  show (if true = true then _ else _)
  rw [if_pos rfl]; exact h' cf Q q)
end

section
variable {cf : Cf} {Q : Fl → En → AH → Prop} {ρ ρ' : En} {σ τ υ χ : AH} {e e' : E} {es : EL} {v u w o : V} {vs : List V} {i a c m f : Nat} {ss s1 s2 : SL}
theorem cat_eq : ∀ (a t : SL) (ρ : En) (σ : AH) (Q : Fl → En → AH → Prop), wSL P2 cf (cat a t) ρ σ Q = wSL P2 cf a ρ σ (fun f ρ' σ' => match f with
    | .next => wSL P2 cf t ρ' σ' Q
    | f => Q f ρ' σ')
  | .nil, t, ρ, σ, Q => rfl
  | .cons s ss, t, ρ, σ, Q => congrArg (wS P2 cf s ρ σ) (funext fun f => funext fun ρ' => funext fun σ' => by
      cases f with
      | next => exact cat_eq ss t ρ' σ' Q
      | _ => rfl)
theorem s_loc (h : Ev ρ σ e v τ) (k : wSL P2 cf ss (ρ.put i v) τ Q) : wSL P2 cf (.cons (.assign (.loc i) e) ss) ρ σ Q := h _ _ k
theorem s_tup {is : List Nat} (h : Ev ρ σ e (.tup vs) τ) (p : putAll is vs ρ = some ρ') (k : wSL P2 cf ss ρ' τ Q) : wSL P2 cf (.cons (.assign (.tup is) e) ss) ρ σ Q := h _ _ (by
  show (match putAll is vs ρ with | some ρ' => wSL P2 cf ss ρ' τ Q | none => False)
  rw [p]; exact k)
theorem s_attr (h : Ev ρ σ e v τ) (h' : Ev ρ τ e' o υ) (p : attrPut υ o a v = some χ) (k : wSL P2 cf ss ρ χ Q) : wSL P2 cf (.cons (.assign (.attr e' a) e) ss) ρ σ Q := h _ _ (h' _ _ (by
  show (match attrPut υ o a v with | some σ' => wSL P2 cf ss ρ σ' Q | none => False)
  rw [p]; exact k))
theorem s_sub {e'' : E} {χ' : AH} (h : Ev ρ σ e v τ) (h' : Ev ρ τ e' o υ) (h'' : Ev ρ υ e'' w χ) (p : itemPut χ o w v = some χ') (k : wSL P2 cf ss ρ χ' Q) : wSL P2 cf (.cons (.assign (.sub e' e'') e) ss) ρ σ Q := h _ _ (h' _ _ (h'' _ _ (by
  show (match itemPut χ o w v with | some σ' => wSL P2 cf ss ρ σ' Q | none => False)
  rw [p]; exact k)))
theorem s_expr (h : Ev ρ σ e v τ) (k : wSL P2 cf ss ρ τ Q) : wSL P2 cf (.cons (.expr e) ss) ρ σ Q := h _ _ k
theorem s_ret (h : Ev ρ σ e v τ) (k : Q (.ret v) ρ τ) : wSL P2 cf (.cons (.ret e) ss) ρ σ Q := h _ _ k
theorem s_aug {op : Bo} (h : ρ i = some o) (h' : Ev ρ σ e w τ) (k : binV op o w = some v) (q : wSL P2 cf ss (ρ.put i v) τ Q) : wSL P2 cf (.cons (.augLoc i op e) ss) ρ σ Q := by
  show (match ρ i with | some x => wE P2 cf e ρ σ (fun y σ' => match binV op x y with | some v => wSL P2 cf ss (ρ.put i v) σ' Q | none => False) | none => False)
  rw [h]
  refine h' _ _ ?_
  show (match binV op o w with | some v => wSL P2 cf ss (ρ.put i v) τ Q | none => False)
  rw [k]; exact q
theorem s_del {j : Nat} (h : ρ i = some o) (h' : ρ j = some w) (k : cutV σ o w = some τ) (q : wSL P2 cf ss ρ τ Q) : wSL P2 cf (.cons (.delFrom i j) ss) ρ σ Q := by
  show (match ρ i with | some v => (match ρ j with | some k => (match cutV σ v k with | some σ' => wSL P2 cf ss ρ σ' Q | none => False) | none => False) | none => False)
  rw [h, h']
  show (match cutV σ o w with | some σ' => wSL P2 cf ss ρ σ' Q | none => False)
  rw [k]; exact q
theorem s_then (h : Ev ρ σ e (.bool true) τ) (k : wSL P2 cf (cat s1 ss) ρ τ Q) : wSL P2 cf (.cons (.ite e s1 s2) ss) ρ σ Q := h _ _ (by
  rw [cat_eq] at k
  show (if true = true then _ else _)
  rw [if_pos rfl]; exact k)
theorem s_else (h : Ev ρ σ e (.bool false) τ) (k : wSL P2 cf (cat s2 ss) ρ τ Q) : wSL P2 cf (.cons (.ite e s1 s2) ss) ρ σ Q := h _ _ (by
  rw [cat_eq] at k
  show (if false = true then _ else _)
  rw [if_neg Bool.noConfusion]; exact k)
theorem s_yes {p : Prop} [Decidable p] (h : Ev ρ σ e (.bool (decide p)) τ) (hp : p) (k : wSL P2 cf (cat s1 ss) ρ τ Q) : wSL P2 cf (.cons (.ite e s1 s2) ss) ρ σ Q := s_then (decide_eq_true hp ▸ h) k
theorem s_no {p : Prop} [Decidable p] (h : Ev ρ σ e (.bool (decide p)) τ) (hp : ¬ p) (k : wSL P2 cf (cat s2 ss) ρ τ Q) : wSL P2 cf (.cons (.ite e s1 s2) ss) ρ σ Q := s_else (decide_eq_false hp ▸ h) k
theorem s_if {p : Prop} [Decidable p] (h : Ev ρ σ e (.bool (decide p)) τ) (k : p → wSL P2 cf (cat s1 ss) ρ τ Q) (k' : ¬ p → wSL P2 cf (cat s2 ss) ρ τ Q) : wSL P2 cf (.cons (.ite e s1 s2) ss) ρ σ Q :=
  if hp : p then s_yes h hp (k hp) else s_no h hp (k' hp)
/-- a call decides -/
theorem br_ite (k : wE P2 cf e ρ σ fun v τ => br (wSL P2 cf (cat s1 ss) ρ τ Q) (wSL P2 cf (cat s2 ss) ρ τ Q) v) : wSL P2 cf (.cons (.ite e s1 s2) ss) ρ σ Q := by
  simp only [cat_eq] at k
  exact k
theorem br_yes {A B p : Prop} [Decidable p] (hp : p) (h : A) : br A B (.bool (decide p)) := by rw [decide_eq_true hp]; exact h
theorem br_no {A B p : Prop} [Decidable p] (hp : ¬ p) (h : B) : br A B (.bool (decide p)) := by rw [decide_eq_false hp]; exact h
theorem br_t {A B : Prop} (h : A) : br A B (.bool true) := h
theorem br_f {A B : Prop} (h : B) : br A B (.bool false) := h
theorem s_retN (k : Q (.ret .none) ρ σ) : wSL P2 cf (.cons .retN ss) ρ σ Q := k
theorem s_cont (k : Q .cont ρ σ) : wSL P2 cf (.cons .cont ss) ρ σ Q := k
theorem x_not (k : wE P2 cf e ρ σ fun v τ => match v with | .bool b => br (wSL P2 cf (cat s1 ss) ρ τ Q) (wSL P2 cf (cat s2 ss) ρ τ Q) (.bool !b) | _ => False) : wSL P2 cf (.cons (.ite (.not e) s1 s2) ss) ρ σ Q := br_ite k
variable {QV : V → AH → Prop}
theorem e_ev (h : Ev ρ σ e v τ) (k : QV v τ) : wE P2 cf e ρ σ QV := h _ _ k
theorem b_go {d : Bool} (h : Ev ρ σ e (.bool d) τ) (k : wE P2 cf e' ρ τ QV) : wE P2 cf (.boolop d (.cons e (.cons e' .nil))) ρ σ QV := h _ _ (by
  show (if d = d then _ else _)
  rw [if_pos rfl]; exact k)
theorem b_stop {d b : Bool} (h : Ev ρ σ e (.bool b) τ) (n : b ≠ d) (k : QV (.bool b) τ) : wE P2 cf (.boolop d (.cons e (.cons e' .nil))) ρ σ QV := h _ _ (by
  show (if b = d then _ else _)
  rw [if_neg n]; exact k)
noncomputable def nt (A : V → Prop) : V → Prop
  | .bool b => A (.bool !b)
  | _ => False
theorem nt_t {A : V → Prop} (h : A (.bool false)) : nt A (.bool true) := h
theorem nt_f {A : V → Prop} (h : A (.bool true)) : nt A (.bool false) := h
theorem x_nt (k : wE P2 cf e ρ σ fun v τ => nt (fun w => QV w τ) v) : wE P2 cf (.not e) ρ σ QV := by
  have : (fun (v : V) (τ : AH) => nt (fun w => QV w τ) v) = fun v τ => match v with
      | .bool b => QV (.bool !b) τ
      | _ => False := funext fun v => funext fun τ => by cases v <;> rfl
  rw [this] at k
  exact k
/-- for i in range(e - 1, -1, -1) -/
noncomputable def dnP (v : V) (A : List V → Prop) : Prop := match binV .sub v (.int 1) with
  | some w => (match rangeV [w, .int (-1), .int (-1)] with
    | some items => A items
    | none => False)
  | none => False
theorem dn_ok {k : Int} {items : List V} {A : List V → Prop} (h : rangeV [.int (k - 1), .int (-1), .int (-1)] = some items) (a : A items) : dnP (.int k) A := by
  show (match rangeV [.int (k - 1), .int (-1), .int (-1)] with | some items => A items | none => False)
  rw [h]; exact a
theorem s_down {b : SL} (k : wE P2 cf e ρ σ fun v τ => dnP v fun items => forGo items .range (wT P2 cf (.loc i)) (wSL P2 cf b) items ρ τ fun f ρ' σ' => match f with
    | .next => wSL P2 cf ss ρ' σ' Q
    | f => Q f ρ' σ') : wSL P2 cf (.cons (.for_ (.loc i) (.blt 1 (.cons (.bin .sub e (.kint 1)) (.cons (.neg (.kint 1)) (.cons (.neg (.kint 1)) .nil)))) b) ss) ρ σ Q := k
theorem x_F' (k : wL P2 cf es ρ σ fun vs τ => cf f vs τ QV noX) : wE P2 cf (.callF f es) ρ σ QV := k
theorem x_M' (h : Ev ρ σ e o τ) (hi : instOf τ o = some c) (hm : P2.meth c m = some f) (k : wL P2 cf es ρ τ fun vs υ => cf f (o :: vs) υ QV noX) : wE P2 cf (.callM m e es) ρ σ QV := h _ _ (by
  show (match instOf τ o with | some c => (match P2.meth c m with | some f => wL P2 cf es ρ τ (fun vs σ₂ => cf f (o :: vs) σ₂ QV noX) | none => False) | none => False)
  rw [hi]
  show (match P2.meth c m with | some f => wL P2 cf es ρ τ (fun vs σ₂ => cf f (o :: vs) σ₂ QV noX) | none => False)
  rw [hm]; exact k)
theorem x_ifT {e'' : E} (h : Ev ρ σ e (.bool true) τ) (k : wE P2 cf e' ρ τ QV) : wE P2 cf (.ife e e' e'') ρ σ QV := h _ _ (by
  show (if true = true then _ else _)
  rw [if_pos rfl]; exact k)
theorem x_ifF {e'' : E} (h : Ev ρ σ e (.bool false) τ) (k : wE P2 cf e'' ρ τ QV) : wE P2 cf (.ife e e' e'') ρ σ QV := h _ _ (by
  show (if false = true then _ else _)
  rw [if_neg Bool.noConfusion]; exact k)
noncomputable def isP (σ : AH) (v w : V) (A : V → Prop) : Prop := match itemAt σ v w with
  | some u => A u
  | none => False
theorem is_ok {A : V → Prop} (h : itemAt σ o w = some u) (a : A u) : isP σ o w A := by
  show (match itemAt σ o w with | some u => A u | none => False)
  rw [h]; exact a
theorem x_sub (k : wE P2 cf e ρ σ fun v τ => wE P2 cf e' ρ τ fun w υ => isP υ v w fun u => QV u υ) : wE P2 cf (.sub e e') ρ σ QV := k
theorem x_B {d : Bool} (k : wB P2 cf d es ρ σ QV) : wE P2 cf (.boolop d es) ρ σ QV := k
theorem bb_go {d : Bool} (h : Ev ρ σ e (.bool d) τ) (k : wB P2 cf d (.cons e' es) ρ τ QV) : wB P2 cf d (.cons e (.cons e' es)) ρ σ QV := h _ _ (by
  show (if d = d then _ else _)
  rw [if_pos rfl]; exact k)
theorem bb_stop {d b : Bool} (h : Ev ρ σ e (.bool b) τ) (n : b ≠ d) (k : QV (.bool b) τ) : wB P2 cf d (.cons e (.cons e' es)) ρ σ QV := h _ _ (by
  show (if b = d then _ else _)
  rw [if_neg n]; exact k)
theorem bb_call (k : wE P2 cf e ρ σ fun v τ => br (wB P2 cf true (.cons e' es) ρ τ QV) (QV (.bool false) τ) v) : wB P2 cf true (.cons e (.cons e' es)) ρ σ QV := by
  have : (fun (v : V) (τ : AH) => br (wB P2 cf true (.cons e' es) ρ τ QV) (QV (.bool false) τ) v) = fun v τ => match v with
      | .bool b => if b = true then wB P2 cf true (.cons e' es) ρ τ QV else QV (.bool b) τ
      | _ => False := funext fun v => funext fun τ => by
    cases v with
    | bool b => cases b <;> rfl
    | _ => rfl
  rw [this] at k
  exact k
theorem bb_one {d : Bool} (k : wE P2 cf e ρ σ QV) : wB P2 cf d (.cons e .nil) ρ σ QV := k
theorem c_tup {is : List Nat} (k : wE P2 cf e ρ σ fun v τ => wT P2 cf (.tup is) v ρ τ fun ρ' τ' => wSL P2 cf ss ρ' τ' Q) : wSL P2 cf (.cons (.assign (.tup is) e) ss) ρ σ Q := k
theorem t_tup {is : List Nat} {QT : En → AH → Prop} (p : putAll is vs ρ = some ρ') (k : QT ρ' σ) : wT P2 cf (.tup is) (.tup vs) ρ σ QT := by
  show (match putAll is vs ρ with | some ρ' => QT ρ' σ | none => False)
  rw [p]; exact k
theorem x_tup (k : wL P2 cf es ρ σ fun vs τ => QV (.tup vs) τ) : wE P2 cf (.tup es) ρ σ QV := k
theorem x_newX (h : Evl ρ σ es vs τ) (k : cf P2.xinit (.obj τ.length :: vs) (τ ++ [.exc 0]) (fun v σ'' => v = .none ∧ QV (.obj τ.length) σ'') noX) : wE P2 cf (.newX es) ρ σ QV := h _ _ k
noncomputable def bnP (op : Bo) (x y : V) (A : V → Prop) : Prop := match binV op x y with
  | some v => A v
  | none => False
theorem bn_ok {op : Bo} {A : V → Prop} (h : binV op o w = some v) (a : A v) : bnP op o w A := by
  show (match binV op o w with | some v => A v | none => False)
  rw [h]; exact a
theorem x_bin {op : Bo} (h : Ev ρ σ e v τ) (k : wE P2 cf e' ρ τ fun y υ => bnP op v y fun u => QV u υ) : wE P2 cf (.bin op e e') ρ σ QV := h _ _ k
variable {QL : List V → AH → Prop}
theorem l_ev (h : Evl ρ σ es vs τ) (k : QL vs τ) : wL P2 cf es ρ σ QL := h _ _ k
theorem l_cons (h : Ev ρ σ e v τ) (k : wL P2 cf es ρ τ fun vs υ => QL (v :: vs) υ) : wL P2 cf (.cons e es) ρ σ QL := h _ _ k
theorem l_call (k : wE P2 cf e ρ σ fun v τ => wL P2 cf es ρ τ fun vs υ => QL (v :: vs) υ) : wL P2 cf (.cons e es) ρ σ QL := k
theorem l_one (k : wE P2 cf e ρ σ fun v τ => QL [v] τ) : wL P2 cf (.cons e .nil) ρ σ QL := k
/-- o.append(f(..)) -/
noncomputable def mcP (σ : AH) (i : Nat) (o v : V) (A : AH → Prop) : Prop := match methV σ i o [v] with
  | some (_, τ) => A τ
  | none => False
theorem mc_ok {A : AH → Prop} (h : methV σ i o [v] = some (u, τ)) (a : A τ) : mcP σ i o v A := by
  show (match methV σ i o [v] with | some (_, τ) => A τ | none => False)
  rw [h]; exact a
theorem c_meth (h : Ev ρ σ e o τ) (hm : methOk τ i o = true) (k : wE P2 cf e' ρ τ fun v υ => mcP υ i o v fun χ => wSL P2 cf ss ρ χ Q) : wSL P2 cf (.cons (.expr (.meth i e (.cons e' .nil))) ss) ρ σ Q := h _ _ ⟨hm, k⟩
theorem c_assign {t : T} (k : wE P2 cf e ρ σ fun v τ => wT P2 cf t v ρ τ fun ρ' τ' => wSL P2 cf ss ρ' τ' Q) : wSL P2 cf (.cons (.assign t e) ss) ρ σ Q := k
theorem t_sub {QT : En → AH → Prop} (h' : Ev ρ σ e o υ) (h'' : Ev ρ υ e' w χ) (p : itemPut χ o w v = some τ) (k : QT ρ τ) : wT P2 cf (.sub e e') v ρ σ QT := h' _ _ (h'' _ _ (by
  show (match itemPut χ o w v with | some σ' => QT ρ σ' | none => False)
  rw [p]; exact k))
theorem s_augSub {op : Bo} {r : E} {x y : V} {χ' : AH} (h : Ev ρ σ e o τ) (h' : Ev ρ τ e' w υ) (it : itemAt υ o w = some x) (h'' : Ev ρ υ r y χ) (b : binV op x y = some v) (p : itemPut χ o w v = some χ') (k : wSL P2 cf ss ρ χ' Q) : wSL P2 cf (.cons (.augSub e e' op r) ss) ρ σ Q := h _ _ (h' _ _ (by
  show (match itemAt υ o w with | some x => wE P2 cf r ρ υ (fun y σ₃ => match binV op x y with | some v => (match itemPut σ₃ o w v with | some σ₄ => wSL P2 cf ss ρ σ₄ Q | none => False) | none => False) | none => False)
  rw [it]
  refine h'' _ _ ?_
  show (match binV op x y with | some v => (match itemPut χ o w v with | some σ₄ => wSL P2 cf ss ρ σ₄ Q | none => False) | none => False)
  rw [b]
  show (match itemPut χ o w v with | some σ₄ => wSL P2 cf ss ρ σ₄ Q | none => False)
  rw [p]; exact k))
noncomputable def rgP (vs : List V) (A : List V → Prop) : Prop := match rangeV vs with
  | some items => A items
  | none => False
theorem rg_ok {items : List V} {A : List V → Prop} (h : rangeV vs = some items) (a : A items) : rgP vs A := by
  show (match rangeV vs with | some items => A items | none => False)
  rw [h]; exact a
theorem s_range {b : SL} {t : T} (k : wL P2 cf es ρ σ fun vs τ => rgP vs fun items => forGo items .range (wT P2 cf t) (wSL P2 cf b) items ρ τ fun f ρ' σ' => match f with
    | .next => wSL P2 cf ss ρ' σ' Q
    | f => Q f ρ' σ') : wSL P2 cf (.cons (.for_ t (.blt 1 es) b) ss) ρ σ Q := k
noncomputable def itP (σ : AH) (v : V) (A : List V → Src → Prop) : Prop := match iterV σ v with
  | some (items, src) => A items src
  | none => False
theorem it_ok {items : List V} {src : Src} {A : List V → Src → Prop} (h : iterV σ v = some (items, src)) (a : A items src) : itP σ v A := by
  show (match iterV σ v with | some (items, src) => A items src | none => False)
  rw [h]; exact a
theorem s_forF {b : SL} {t : T} (k : wE P2 cf (.callF f es) ρ σ fun v τ => itP τ v fun items src => forGo items src (wT P2 cf t) (wSL P2 cf b) items ρ τ fun f ρ' σ' => match f with
    | .next => wSL P2 cf ss ρ' σ' Q
    | f => Q f ρ' σ') : wSL P2 cf (.cons (.for_ t (.callF f es) b) ss) ρ σ Q := k
theorem s_forL {b : SL} {t : T} {items : List V} {src : Src} (h : ρ i = some v) (hi : iterV σ v = some (items, src)) (k : forGo items src (wT P2 cf t) (wSL P2 cf b) items ρ σ fun f ρ' σ' => match f with
    | .next => wSL P2 cf ss ρ' σ' Q
    | f => Q f ρ' σ') : wSL P2 cf (.cons (.for_ t (.loc i) b) ss) ρ σ Q := (Ev.loc (σ := σ) h) cf (fun v τ => itP τ v fun items src => forGo items src (wT P2 cf t) (wSL P2 cf b) items ρ τ fun f ρ' σ' => match f with
    | .next => wSL P2 cf ss ρ' σ' Q
    | f => Q f ρ' σ') (it_ok hi k)
theorem g_end {b : SL} {all : List V} {src : Src} (hs : stays σ all src) (k : Q .next ρ σ) : forGo all src (wT P2 cf (.loc i)) (wSL P2 cf b) [] ρ σ Q := ⟨hs, k⟩
theorem g_go {b : SL} {all r : List V} {src : Src} (hs : stays σ all src) (k : wSL P2 cf b (ρ.put i v) σ fun f ρ'' σ'' => match f with
    | .ret u => Q (.ret u) ρ'' σ''
    | .exc => False
    | _ => forGo all src (wT P2 cf (.loc i)) (wSL P2 cf b) r ρ'' σ'' Q) : forGo all src (wT P2 cf (.loc i)) (wSL P2 cf b) (v :: r) ρ σ Q := ⟨hs, k⟩
theorem s_nil (k : Q .next ρ σ) : wSL P2 cf .nil ρ σ Q := k
theorem s_thn (h : Ev ρ σ e (.bool true) τ) (k : wSL P2 cf s1 ρ τ fun f ρ' σ' => match f with
    | .next => wSL P2 cf ss ρ' σ' Q
    | f => Q f ρ' σ') : wSL P2 cf (.cons (.ite e s1 s2) ss) ρ σ Q := h _ _ (by
  show (if true = true then _ else _)
  rw [if_pos rfl]; exact k)
theorem s_els (h : Ev ρ σ e (.bool false) τ) (k : wSL P2 cf s2 ρ τ fun f ρ' σ' => match f with
    | .next => wSL P2 cf ss ρ' σ' Q
    | f => Q f ρ' σ') : wSL P2 cf (.cons (.ite e s1 s2) ss) ρ σ Q := h _ _ (by
  show (if false = true then _ else _)
  rw [if_neg Bool.noConfusion]; exact k)
theorem x_list (k : wL P2 cf es ρ σ fun vs τ => QV (.obj τ.length) (τ ++ [.list vs])) : wE P2 cf (.list es) ρ σ QV := k
noncomputable def rsP (σ : AH) (v : V) (A : AH → Prop) : Prop := match raiseV σ v with
  | some τ => A τ
  | none => False
theorem rs_ok {A : AH → Prop} (h : raiseV σ v = some τ) (a : A τ) : rsP σ v A := by
  show (match raiseV σ v with | some τ => A τ | none => False)
  rw [h]; exact a
theorem c_raise (k : wE P2 cf e ρ σ fun v τ => rsP τ v fun υ => Q .exc ρ υ) : wSL P2 cf (.cons (.raise e) ss) ρ σ Q := k
theorem s_try (h : Ev ρ σ e o τ) (hi : instOf τ o = some c) (hm : P2.meth c m = some f) (h' : Evl ρ τ es vs υ) (k : cf f (o :: vs) υ (fun _ σ' => wSL P2 cf ss ρ σ' Q) fun σ' => Q (.ret (.bool false)) ρ σ') : wSL P2 cf (.cons (.tryRet m e es) ss) ρ σ Q := h _ _ (by
  show (match instOf τ o with | some c => (match P2.meth c m with | some f => wL P2 cf es ρ τ (fun vs σ₂ => cf f (o :: vs) σ₂ (fun _ σ' => wSL P2 cf ss ρ σ' Q) fun σ' => Q (.ret (.bool false)) ρ σ') | none => False) | none => False)
  rw [hi]
  show (match P2.meth c m with | some f => wL P2 cf es ρ τ (fun vs σ₂ => cf f (o :: vs) σ₂ (fun _ σ' => wSL P2 cf ss ρ σ' Q) fun σ' => Q (.ret (.bool false)) ρ σ') | none => False)
  rw [hm]; exact h' _ _ k)
theorem f_end {b : SL} {all : List V} (k : Q .next ρ σ) : forGo all .range (wT P2 cf (.loc i)) (wSL P2 cf b) [] ρ σ Q := ⟨trivial, k⟩
theorem f_go {b : SL} {all r : List V} (k : wSL P2 cf b (ρ.put i v) σ fun f ρ'' σ'' => match f with
    | .ret u => Q (.ret u) ρ'' σ''
    | .exc => False
    | _ => forGo all .range (wT P2 cf (.loc i)) (wSL P2 cf b) r ρ'' σ'' Q) : forGo all .range (wT P2 cf (.loc i)) (wSL P2 cf b) (v :: r) ρ σ Q := ⟨trivial, k⟩
theorem x_and (k : wE P2 cf e ρ σ fun v τ => br (wE P2 cf e' ρ τ QV) (QV (.bool false) τ) v) : wE P2 cf (.boolop true (.cons e (.cons e' .nil))) ρ σ QV := by
  have : (fun (v : V) (τ : AH) => br (wE P2 cf e' ρ τ QV) (QV (.bool false) τ) v) = fun v τ => match v with
      | .bool b => if b = true then wE P2 cf e' ρ τ QV else QV (.bool b) τ
      | _ => False := funext fun v => funext fun τ => by
    cases v with
    | bool b => cases b <;> rfl
    | _ => rfl
  rw [this] at k
  exact k
theorem x_F (h : Evl ρ σ es vs τ) (k : cf f vs τ QV noX) : wE P2 cf (.callF f es) ρ σ QV := h _ _ k
theorem x_M (h : Ev ρ σ e o τ) (hi : instOf τ o = some c) (hm : P2.meth c m = some f) (h' : Evl ρ τ es vs υ) (k : cf f (o :: vs) υ QV noX) : wE P2 cf (.callM m e es) ρ σ QV := h _ _ (by
  show (match instOf τ o with | some c => (match P2.meth c m with | some f => wL P2 cf es ρ τ (fun vs σ₂ => cf f (o :: vs) σ₂ QV noX) | none => False) | none => False)
  rw [hi]
  show (match P2.meth c m with | some f => wL P2 cf es ρ τ (fun vs σ₂ => cf f (o :: vs) σ₂ QV noX) | none => False)
  rw [hm]; exact h' _ _ k)
theorem x_new (h : Evl ρ σ es vs τ) (hc : P2.init c = some f) (k : cf f (.obj (τ.length + 1) :: vs) (τ ++ [.ns []] ++ [.inst c τ.length]) (fun v σ'' => v = .none ∧ QV (.obj (τ.length + 1)) σ'') noX) : wE P2 cf (.new c es) ρ σ QV := h _ _ (by
  show (match P2.init c with | some f => cf f (.obj (τ.length + 1) :: vs) (τ ++ [.ns []] ++ [.inst c τ.length]) (fun v σ'' => v = .none ∧ QV (.obj (τ.length + 1)) σ'') noX | none => False)
  rw [hc]; exact k)
theorem c_loc (k : wE P2 cf e ρ σ fun v τ => wSL P2 cf ss (ρ.put i v) τ Q) : wSL P2 cf (.cons (.assign (.loc i) e) ss) ρ σ Q := k
theorem c_expr (k : wE P2 cf e ρ σ fun _ τ => wSL P2 cf ss ρ τ Q) : wSL P2 cf (.cons (.expr e) ss) ρ σ Q := k
theorem c_ret (k : wE P2 cf e ρ σ fun v τ => Q (.ret v) ρ τ) : wSL P2 cf (.cons (.ret e) ss) ρ σ Q := k
/-- a turn of a while -/
theorem w_go {b : SL} {n : Nat} (h : Ev ρ σ e (.bool true) τ) (k : wSL P2 cf b ρ τ fun f ρ' σ'' => match f with
      | .ret u => Q (.ret u) ρ' σ''
      | .exc => Q .exc ρ' σ''
      | _ => whileGo (wE P2 cf e) (wSL P2 cf b) n ρ' σ'' Q) : whileGo (wE P2 cf e) (wSL P2 cf b) (n + 1) ρ σ Q := h _ _ (by
  show (if true = true then _ else _)
  rw [if_pos rfl]; exact k)
theorem w_end {b : SL} {n : Nat} (h : Ev ρ σ e (.bool false) τ) (k : Q .next ρ τ) : whileGo (wE P2 cf e) (wSL P2 cf b) (n + 1) ρ σ Q := h _ _ (by
  show (if false = true then _ else _)
  rw [if_neg Bool.noConfusion]; exact k)
end

end Mine
end

/-! D1 -/
noncomputable section
set_option maxHeartbeats 200000
open PySem
namespace Mine

noncomputable abbrev Cell := Int × Int
noncomputable def cV (c : Cell) : V := .tup [.int c.1, .int c.2]
structure St where
  H : List Cell
  S : List Cell
  T : List Int
  hb : Int
  bb : Int
structure Rc where
  d : Nat
  h : Nat
  s : Nat
  t : Nat
  sy : Nat
noncomputable def nsL (r : Rc) (st : St) : List (Nat × V) := [(4, .obj r.sy), (5, .int 100000), (6, .obj r.h), (7, .obj r.s), (8, .obj r.t), (9, .int st.hb), (10, .int st.bb)]
structure View (σ : AH) (so : Nat) (r : Rc) (st : St) : Prop where
  inst : σ[so]? = some (.inst 2 r.d)
  ns : σ[r.d]? = some (.ns (nsL r st))
  h : σ[r.h]? = some (.list (st.H.map cV))
  s : σ[r.s]? = some (.list (st.S.map cV))
  t : σ[r.t]? = some (.list (st.T.map .int))
  dhs : r.h ≠ r.s
  dht : r.h ≠ r.t
  dst : r.s ≠ r.t
  h0 : r.h ≠ 0
  s0 : r.s ≠ 0
  t0 : r.t ≠ 0
  hl : st.H.length < 60
  sl : st.S.length < 60
  tl : st.T.length < 900000

theorem g0 : P2.glob 0 = some (.int 0) := rfl
theorem g1 : P2.glob 1 = some (.int 1) := rfl
theorem g2 : P2.glob 2 = some (.int 2) := rfl
theorem g3 : P2.glob 3 = some (.int 3) := rfl
theorem g4 : P2.glob 4 = some (.int 4) := rfl
theorem g5 : P2.glob 5 = some (.int 5) := rfl
theorem g6 : P2.glob 6 = some (.int 6) := rfl
theorem g8 : P2.glob 8 = some (.int 0) := rfl
theorem g9 : P2.glob 9 = some (.int 0) := rfl
theorem g10 : P2.glob 10 = some (.int 0) := rfl
theorem g11 : P2.glob 11 = some (.int 1) := rfl
theorem g12 : P2.glob 12 = some (.int 16) := rfl
theorem g13 : P2.glob 13 = some (.int 25) := rfl
theorem ms0 : P2.meth 0 0 = some 3 := rfl
theorem ms1 : P2.meth 0 1 = some 4 := rfl
theorem ms2 : P2.meth 0 2 = some 5 := rfl
theorem ms4 : P2.meth 0 4 = some 7 := rfl
theorem me5 : P2.meth 2 5 = some 12 := rfl
theorem me6 : P2.meth 2 6 = some 13 := rfl
theorem me7 : P2.meth 2 7 = some 14 := rfl
theorem me8 : P2.meth 2 8 = some 15 := rfl
theorem me9 : P2.meth 2 9 = some 16 := rfl
theorem me10 : P2.meth 2 10 = some 17 := rfl
theorem me11 : P2.meth 2 11 = some 18 := rfl
theorem me12 : P2.meth 2 12 = some 19 := rfl
theorem me13 : P2.meth 2 13 = some 20 := rfl
theorem me14 : P2.meth 2 14 = some 21 := rfl
theorem me15 : P2.meth 2 15 = some 22 := rfl
theorem me16 : P2.meth 2 16 = some 23 := rfl
theorem me17 : P2.meth 2 17 = some 24 := rfl
theorem me18 : P2.meth 2 18 = some 25 := rfl
theorem me19 : P2.meth 2 19 = some 26 := rfl
theorem me20 : P2.meth 2 20 = some 27 := rfl
theorem me21 : P2.meth 2 21 = some 28 := rfl
theorem me22 : P2.meth 3 22 = some 30 := rfl
theorem eq_int (σ : AH) (x y : Int) : eqV σ (.int x) (.int y) = some (decide (x = y)) := by
  show (if (SeqAt.shaped (PyData.int x) && SeqAt.shaped (PyData.int y)) = true then some (PyData.eqv (.int x) (.int y)) else none) = _
  exact if_pos rfl
theorem eq_cell (σ : AH) (a b : Cell) : eqV σ (cV a) (cV b) = some (decide (a = b)) := by
  obtain ⟨a1, a2⟩ := a
  obtain ⟨b1, b2⟩ := b
  show (if (SeqAt.shaped (PyData.tuple [.int a1, .int a2]) && SeqAt.shaped (PyData.tuple [.int b1, .int b2])) = true then some (PyData.eqv (.tuple [.int a1, .int a2]) (.tuple [.int b1, .int b2])) else none) = _
  have h0 : (SeqAt.shaped (PyData.tuple [.int a1, .int a2]) && SeqAt.shaped (PyData.tuple [.int b1, .int b2])) = true := rfl
  rw [if_pos h0]
  congr 1
  by_cases h : a1 = b1 <;> by_cases h' : a2 = b2 <;> simp [PyData.eqv, PyData.eqvAll, h, h']
theorem cmp_int {σ : AH} {x y : Int} : cmpV σ .eq (.int x) (.int y) = some (decide (x = y)) := eq_int σ x y
theorem cmp_cell {σ : AH} {a b : Cell} : cmpV σ .eq (cV a) (cV b) = some (decide (a = b)) := eq_cell σ a b
theorem cmp_nint {σ : AH} {x y : Int} : cmpV σ .ne (.int x) (.int y) = some (decide (x ≠ y)) := by
  show (eqV σ (.int x) (.int y)).map (!·) = _
  rw [eq_int, decide_not]; rfl
theorem tup0 (σ : AH) (c : Cell) : itemAt σ (cV c) (.int 0) = some (.int c.1) := rfl
theorem tup1 (σ : AH) (c : Cell) : itemAt σ (cV c) (.int 1) = some (.int c.2) := rfl

theorem call_of {m f : Nat} {fn : Fn} {vs : List V} {σ : AH} {Q : V → AH → Prop} (e : fns2 f = some fn) (hl : vs.length = fn.arity)
    (h : wSL P2 (callX P2 fns2 m) fn.body (bindE 0 (vs ++ fn.dflt)) σ (fun fl _ σ' => match fl with | .ret v => Q v σ' | .exc => noX σ' | _ => Q .none σ')) : callN P2 fns2 (m + 1) f vs σ Q := by
  show (match fns2 f with | some fn => _ | none => _)
  rw [e]
  exact ⟨hl, h⟩

section
variable {σ : AH} {so : Nat} {r : Rc} {st : St}
theorem View.a4 (v : View σ so r st) : attrAt σ (.obj so) 4 = some (.obj r.sy) := by simp [attrAt, v.inst, v.ns, nsL, List.lookup]
theorem View.a5 (v : View σ so r st) : attrAt σ (.obj so) 5 = some (.int 100000) := by simp [attrAt, v.inst, v.ns, nsL, List.lookup]
theorem View.a6 (v : View σ so r st) : attrAt σ (.obj so) 6 = some (.obj r.h) := by simp [attrAt, v.inst, v.ns, nsL, List.lookup]
theorem View.a7 (v : View σ so r st) : attrAt σ (.obj so) 7 = some (.obj r.s) := by simp [attrAt, v.inst, v.ns, nsL, List.lookup]
theorem View.a8 (v : View σ so r st) : attrAt σ (.obj so) 8 = some (.obj r.t) := by simp [attrAt, v.inst, v.ns, nsL, List.lookup]
theorem View.a9 (v : View σ so r st) : attrAt σ (.obj so) 9 = some (.int st.hb) := by simp [attrAt, v.inst, v.ns, nsL, List.lookup]
theorem View.a10 (v : View σ so r st) : attrAt σ (.obj so) 10 = some (.int st.bb) := by simp [attrAt, v.inst, v.ns, nsL, List.lookup]
theorem View.cl (v : View σ so r st) : instOf σ (.obj so) = some 2 := by simp [instOf, v.inst, v.ns]

theorem list_item {o : Nat} {xs : List V} {k : Int} {v : V} (e : σ[o]? = some (.list xs)) (h0 : 0 ≤ k) (hl : xs.length < 1000000) (hv : xs[k.toNat]? = some v) : itemAt σ (.obj o) (.int k) = some v := by
  have h1 := (List.getElem?_eq_some_iff.mp hv).1
  have h2 : k < xs.length := by exact Om61 h0 hl h1
  simp only [itemAt, e, idxR]
  rw [if_pos ⟨h0, h2, hl⟩]
  exact hv

noncomputable def Valid (st : St) (c : Cell) : Prop := (c.1 = 0 → 0 ≤ c.2 ∧ c.2.toNat < st.H.length) ∧ (c.1 = 1 → 0 ≤ c.2 ∧ c.2.toNat < st.S.length)

theorem View.hget (v : View σ so r st) {k : Int} {c : Cell} (h0 : 0 ≤ k) (hk : st.H[k.toNat]? = some c) : itemAt σ (.obj r.h) (.int k) = some (cV c) :=
  list_item v.h h0 (by rw [List.length_map]; have := v.hl; exact Om62 this) (by rw [List.getElem?_map, hk]; rfl)
theorem View.sget (v : View σ so r st) {k : Int} {c : Cell} (h0 : 0 ≤ k) (hk : st.S[k.toNat]? = some c) : itemAt σ (.obj r.s) (.int k) = some (cV c) :=
  list_item v.s h0 (by rw [List.length_map]; have := v.sl; exact Om62 this) (by rw [List.getElem?_map, hk]; rfl)
end

noncomputable def nextC (st : St) (c : Cell) : Option Cell := if c.1 = 0 then st.H[c.2.toNat]? else if c.1 = 1 then st.S[c.2.toNat]? else none
noncomputable def derefP (st : St) : Nat → Cell → Cell
  | 0, c => c
  | n + 1, c => match nextC st c with
    | some f => if f = c then c else derefP st n f
    | none => c

noncomputable def derefBody : SL := (.cons (.assign (.loc 2) (.sub (.loc 1) (.kint 0))) (.cons (.ite (.cmp .eq (.loc 2) (.glob 0)) (.cons (.assign (.loc 3) (.sub (.attr (.loc 0) 6) (.sub (.loc 1) (.kint 1)))) .nil) (.cons (.ite (.cmp .eq (.loc 2) (.glob 1)) (.cons (.assign (.loc 3) (.sub (.attr (.loc 0) 7) (.sub (.loc 1) (.kint 1)))) .nil) (.cons (.ret (.loc 1)) .nil)) .nil)) (.cons (.ite (.cmp .eq (.loc 3) (.loc 1)) (.cons (.ret (.loc 1)) .nil) .nil) (.cons (.assign (.loc 1) (.loc 3)) .nil))))

theorem deref_body {σ : AH} {so : Nat} {r : Rc} {st : St} (v : View σ so r st) {cf : Cf} {Q : Fl → En → AH → Prop} {c : Cell} {ρ : En} (hv : Valid st c) (h0 : ρ 0 = some (.obj so)) (h1 : ρ 1 = some (cV c))
    (q : match nextC st c with | none => ∀ ρ', Q (.ret (cV c)) ρ' σ | some f => if f = c then ∀ ρ', Q (.ret (cV c)) ρ' σ else ∀ ρ', ρ' 0 = some (.obj so) → ρ' 1 = some (cV f) → Q .next ρ' σ) : wSL P2 cf derefBody ρ σ Q := by
  have tail : ∀ {f : Cell} {ρ' : En}, ρ' 0 = some (.obj so) → ρ' 1 = some (cV c) → ρ' 3 = some (cV f) → (if f = c then ∀ ρ', Q (.ret (cV c)) ρ' σ else ∀ ρ', ρ' 0 = some (.obj so) → ρ' 1 = some (cV f) → Q .next ρ' σ) → wSL P2 cf (.cons (.ite (.cmp .eq (.loc 3) (.loc 1)) (.cons (.ret (.loc 1)) .nil) .nil) (.cons (.assign (.loc 1) (.loc 3)) .nil)) ρ' σ Q := fun k0 k1 k3 q => s_if (.cmp (.loc k3) (.loc k1) cmp_cell) (fun e => by rw [if_pos e] at q; exact s_ret (.loc k1) (q _)) fun e => by rw [if_neg e] at q; exact s_loc (.loc k3) (q _ k0 rfl)
  refine s_loc (.sub (.loc h1) .kint (tup0 _ _)) ?_
  by_cases t0 : c.1 = 0
  · obtain ⟨a, b⟩ := hv.1 t0
    have e : nextC st c = some st.H[c.2.toNat] := (if_pos t0).trans (List.getElem?_eq_getElem b)
    rw [e] at q
    exact s_yes (.cmp (.loc rfl) (.glob g0) cmp_int) t0 (s_loc (.sub (.attr (.loc h0) v.a6) (.sub (.loc h1) .kint (tup1 _ _)) (v.hget a (List.getElem?_eq_getElem b))) (tail h0 h1 rfl q))
  · refine s_no (.cmp (.loc rfl) (.glob g0) cmp_int) t0 ?_
    by_cases t1 : c.1 = 1
    · obtain ⟨a, b⟩ := hv.2 t1
      have e : nextC st c = some st.S[c.2.toNat] := (if_neg t0).trans ((if_pos t1).trans (List.getElem?_eq_getElem b))
      rw [e] at q
      exact s_yes (.cmp (.loc rfl) (.glob g1) cmp_int) t1 (s_loc (.sub (.attr (.loc h0) v.a7) (.sub (.loc h1) .kint (tup1 _ _)) (v.sget a (List.getElem?_eq_getElem b))) (tail h0 h1 rfl q))
    · have e : nextC st c = none := (if_neg t0).trans (if_neg t1)
      rw [e] at q
      exact s_no (.cmp (.loc rfl) (.glob g1) cmp_int) t1 (s_ret (.loc h1) (q _))

/-- what is kept of the heap -/
structure Stay (X : List Nat) (σ σ' : AH) : Prop where
  len : σ.length ≤ σ'.length
  get : ∀ (i : Nat) (o : AObj), i ∉ X → σ[i]? = some o → σ'[i]? = some o

noncomputable def rank (st : St) (c : Cell) : Nat := if c.1 = 0 then c.2.toNat + 1 else if c.1 = 1 then st.H.length + c.2.toNat + 2 else 0
/-- the store's cells point down -/
structure WF (st : St) : Prop where
  heap : ∀ (a : Nat) (c : Cell), st.H[a]? = some c → Valid st c ∧ c.1 ≠ 1 ∧ (c.1 = 0 → c.2 ≤ a)
  stack : ∀ (a : Nat) (c : Cell), st.S[a]? = some c → Valid st c ∧ (c.1 = 1 → c.2 ≤ a)

set_option tactic.hygienic true in
theorem next_rank {st : St} (w : WF st) {c f : Cell} (hv : Valid st c) (e : nextC st c = some f) : Valid st f ∧ (f ≠ c → rank st f < rank st c) := by
  unfold nextC at e
  split at e
  · rename_i t0
    obtain ⟨a, b, d⟩ := w.heap _ _ e
    obtain ⟨h1, h2⟩ := hv.1 t0
    refine ⟨a, fun hne => ?_⟩
    unfold rank
    rw [if_pos t0]
    split
    · rename_i f0
      have h3 := d f0
      have h4 := (a.1 f0).1
      have : f.2 ≠ c.2 := fun z => hne (Prod.ext (f0.trans t0.symm) z)
      exact Om63 h1 h3 h4 this
    · omega
  · split at e
    · rename_i t0 t1
      obtain ⟨a, d⟩ := w.stack _ _ e
      obtain ⟨h1, h2⟩ := hv.2 t1
      refine ⟨a, fun hne => ?_⟩
      unfold rank
      rw [if_neg t0, if_pos t1]
      split
      · rename_i f0
        have := (a.1 f0).2
        exact Om64 this
      · split
        · rename_i f0 f1
          have h3 := d f1
          have h4 := (a.2 f1).1
          have : f.2 ≠ c.2 := fun z => hne (Prod.ext (f1.trans t1.symm) z)
          exact Om65 h1 f0 f1 h3 h4 this
        · omega
    · cases e

theorem deref_loop {σ : AH} {so : Nat} {r : Rc} {st : St} (v : View σ so r st) (w : WF st) {cf : Cf} {Q : Fl → En → AH → Prop} : ∀ (k : Nat) (c : Cell) (ρ : En), rank st c < k → Valid st c → ρ 0 = some (.obj so) → ρ 1 = some (cV c) →
    (∀ ρ', Q (.ret (cV (derefP st k c))) ρ' σ) → whileGo (wE P2 cf (.kbool true)) (wSL P2 cf derefBody) k ρ σ Q
  | 0, c, ρ, hk, _, _, _, _ => absurd hk (Nat.not_lt_zero _)
  | k + 1, c, ρ, hk, hv, h0, h1, q => by
    show wSL P2 cf derefBody ρ σ (fun f ρ' σ'' => match f with | .ret u => Q (.ret u) ρ' σ'' | .exc => Q .exc ρ' σ'' | _ => whileGo (wE P2 cf (.kbool true)) (wSL P2 cf derefBody) k ρ' σ'' Q)
    refine deref_body v hv h0 h1 ?_
    cases e : nextC st c with
    | none =>
      simp only [derefP, e] at q ⊢
      exact q
    | some f =>
      simp only [derefP, e] at q ⊢
      obtain ⟨hf, hlt⟩ := next_rank w hv e
      by_cases z : f = c
      · rw [if_pos z] at q ⊢; exact q
      · rw [if_neg z] at q ⊢
        have := hlt z
        exact fun ρ' r0 r1 => deref_loop v w k f ρ' (by exact Om66 hk this) hf r0 r1 q

/-- where a chain ends -/
noncomputable def der (st : St) (c : Cell) : Cell := derefP st (st.H.length + st.S.length + 3) c
set_option tactic.hygienic true in
theorem rank_lt {st : St} {c : Cell} (hv : Valid st c) : rank st c < st.H.length + st.S.length + 3 := by
  unfold rank
  split
  · rename_i h; have := (hv.1 h).2; exact Om67 this
  · split
    · rename_i h; have := (hv.2 h).2; exact Om68 this
    · exact Om69

theorem deref_ok {m : Nat} {σ : AH} {so : Nat} {r : Rc} {st : St} (v : View σ so r st) (w : WF st) {c : Cell} (hv : Valid st c) {Q : V → AH → Prop} (q : Q (cV (der st c)) σ) : callN P2 fns2 (m + 1) 15 [.obj so, cV c] σ Q := by
  refine call_of (fn := f_Cells_deref) rfl rfl ?_
  show wSL P2 _ (.cons (.while (.kbool true) derefBody) .nil) _ _ _
  simp only [↓ZI, ↓ZH, ↓ZK, ↓ZS, ↓ZZ, ↓ZW]
  exact ⟨_, deref_loop v w (st.H.length + st.S.length + 3) c _ (rank_lt hv) hv rfl rfl fun ρ' => q⟩

theorem derefP_end {st : St} (w : WF st) : ∀ (k : Nat) (c : Cell), rank st c < k → Valid st c → Valid st (derefP st k c) ∧ (nextC st (derefP st k c) = none ∨ nextC st (derefP st k c) = some (derefP st k c))
  | 0, c, hk, _ => absurd hk (Nat.not_lt_zero _)
  | k + 1, c, hk, hv => by
    unfold derefP
    cases e : nextC st c with
    | none => exact ⟨hv, .inl e⟩
    | some f =>
      dsimp only
      obtain ⟨hf, hlt⟩ := next_rank w hv e
      by_cases z : f = c
      · rw [if_pos z]; exact ⟨hv, .inr (z ▸ e)⟩
      · rw [if_neg z]
        have := hlt z
        exact derefP_end w k f (by exact Om66 hk this) hf
theorem der_end {st : St} (w : WF st) {c : Cell} (hv : Valid st c) : Valid st (der st c) ∧ (nextC st (der st c) = none ∨ nextC st (der st c) = some (der st c)) := derefP_end w _ c (rank_lt hv) hv
theorem der_end' {st : St} {c : Cell} (h : nextC st c = none ∨ nextC st c = some c) : der st c = c := by
  unfold der derefP
  rcases h with e | e
  · rw [e]
  · rw [e]; simp
theorem der_der {st : St} (w : WF st) {c : Cell} (hv : Valid st c) : der st (der st c) = der st c := der_end' (der_end w hv).2

end Mine
end

/-! D2 -/
noncomputable section
set_option maxHeartbeats 200000
open PySem
namespace Mine

theorem set_get {σ : AH} {i j : Nat} {o : AObj} : (σ.set i o)[j]? = if i = j then (if i < σ.length then some o else none) else σ[j]? := by
  rw [List.getElem?_set]

theorem Stay.refl (X : List Nat) (σ : AH) : Stay X σ σ := ⟨Nat.le_refl _, fun _ _ _ e => e⟩
theorem Stay.trans {X : List Nat} {σ σ₁ σ₂ : AH} (x : Stay X σ σ₁) (y : Stay X σ₁ σ₂) : Stay X σ σ₂ := ⟨Nat.le_trans x.len y.len, fun i o m e => y.get i o m (x.get i o m e)⟩
theorem Stay.weak {X Y : List Nat} {σ σ₁ : AH} (x : Stay X σ σ₁) (h : ∀ i ∈ X, i ∈ Y) : Stay Y σ σ₁ := ⟨x.len, fun i o m e => x.get i o (fun z => m (h i z)) e⟩
theorem Stay.set {X : List Nat} {σ : AH} {i : Nat} {o : AObj} (h : i ∈ X) : Stay X σ (σ.set i o) := ⟨by simp, fun j p m e => by
  rw [set_get, if_neg (fun z : i = j => m (z ▸ h))]; exact e⟩
theorem Stay.app {X : List Nat} {σ : AH} (l : AH) : Stay X σ (σ ++ l) := ⟨by simp, fun j p m e => by
  rw [List.getElem?_append_left (List.getElem?_eq_some_iff.mp e).1]; exact e⟩
/-- what lies above may be turned -/
theorem Stay.strong {X Y : List Nat} {σ σ₁ : AH} (x : Stay Y σ σ₁) (h : ∀ i ∈ Y, i ∈ X ∨ σ.length ≤ i) : Stay X σ σ₁ := ⟨x.len, fun i o m e => x.get i o (fun z => (h i z).elim m fun q => by
  have := (List.getElem?_eq_some_iff.mp e).1; exact Om70 q this) e⟩

section
variable {σ σ' : AH} {so : Nat} {r : Rc} {st : St}
theorem View.same (v : View σ so r st) {X : List Nat} (x : Stay X σ σ') (h1 : so ∉ X) (h2 : r.d ∉ X) (h3 : r.h ∉ X) (h4 : r.s ∉ X) (h5 : r.t ∉ X) : View σ' so r st :=
  ⟨x.get _ _ h1 v.inst, x.get _ _ h2 v.ns, x.get _ _ h3 v.h, x.get _ _ h4 v.s, x.get _ _ h5 v.t, v.dhs, v.dht, v.dst, v.h0, v.s0, v.t0, v.hl, v.sl, v.tl⟩
theorem ne_of_get {i j : Nat} {a b : AObj} (x : σ[i]? = some a) (y : σ[j]? = some b) (h : a ≠ b) : i ≠ j := fun z => by
  subst z; rw [x] at y; exact h (Option.some.inj y)
theorem View.d_so_h (v : View σ so r st) : r.h ≠ so := ne_of_get v.h v.inst (fun h => nomatch h)
theorem View.d_so_s (v : View σ so r st) : r.s ≠ so := ne_of_get v.s v.inst (fun h => nomatch h)
theorem View.d_so_t (v : View σ so r st) : r.t ≠ so := ne_of_get v.t v.inst (fun h => nomatch h)
theorem View.d_so_d (v : View σ so r st) : r.d ≠ so := ne_of_get v.ns v.inst (fun h => nomatch h)
theorem View.d_d_h (v : View σ so r st) : r.h ≠ r.d := ne_of_get v.h v.ns (fun h => nomatch h)
theorem View.d_d_s (v : View σ so r st) : r.s ≠ r.d := ne_of_get v.s v.ns (fun h => nomatch h)
theorem View.d_d_t (v : View σ so r st) : r.t ≠ r.d := ne_of_get v.t v.ns (fun h => nomatch h)
theorem lt_of_get {i : Nat} {a : AObj} (x : σ[i]? = some a) : i < σ.length := (List.getElem?_eq_some_iff.mp x).1

theorem snoc_get {σ : AH} {o : AObj} : (σ ++ [o])[σ.length]? = some o := by simp
theorem app_get {σ : AH} {l : AH} {i : Nat} {o : AObj} (e : σ[i]? = some o) : (σ ++ l)[i]? = some o := by
  rw [List.getElem?_append_left (lt_of_get e)]; exact e
theorem on1 {X : List Nat} {i : Nat} (h : i ∉ X) : ∀ j ∈ [i], j ∉ X := List.forall_mem_singleton.mpr h
theorem on1' {P : Nat → Prop} {i : Nat} (h : P i) : ∀ j ∈ [i], P j := List.forall_mem_singleton.mpr h
theorem no1 {i j : Nat} (h : i ≠ j) : i ∉ [j] := fun z => h (List.mem_singleton.mp z)
theorem Stay.nil {X : List Nat} (s : Stay [] σ σ') : Stay X σ σ' := s.weak nofun
theorem dI_get {o : Nat} {es : List (Int × V)} {k : Int} {u : V} (e : σ[o]? = some (.dictI es)) (h : vAt es k = some u) : itemAt σ (.obj o) (.int k) = some u := by
  show (match σ[o]?, V.int k with | some (.list xs), .int i => (idxR i xs.length).bind fun j => xs[j]? | some d, k => (dictAt d k).bind id | none, _ => none) = _
  rw [e]
  exact (congrArg (fun x => (some x).bind id) h :)
theorem get_set {i j : Nat} {o x : AObj} (e : σ[j]? = some x) (h : i ≠ j) : (σ.set i o)[j]? = some x := by rw [set_get, if_neg h]; exact e
theorem get_hit {i : Nat} {o x : AObj} (e : σ[i]? = some x) : (σ.set i o)[i]? = some o := by rw [set_get, if_pos rfl, if_pos (lt_of_get e)]
theorem View.off (v : View σ so r st) {i : Nat} (s : Stay [i] σ σ') (h : i ∉ [so, r.d, r.h, r.s, r.t]) : View σ' so r st :=
  v.same s (no1 fun z => h (z ▸ .head _)) (no1 fun z => h (z ▸ .tail _ (.head _))) (no1 fun z => h (z ▸ .tail _ (.tail _ (.head _)))) (no1 fun z => h (z ▸ .tail _ (.tail _ (.tail _ (.head _))))) (no1 fun z => h (z ▸ .tail _ (.tail _ (.tail _ (.tail _ (.head _))))))
theorem View.setH (v : View σ so r st) {H' : List Cell} (hl : H'.length < 60) : View (σ.set r.h (.list (H'.map cV))) so r { st with H := H' } := by
  refine ⟨?_, ?_, ?_, ?_, ?_, v.dhs, v.dht, v.dst, v.h0, v.s0, v.t0, hl, v.sl, v.tl⟩
  · rw [set_get, if_neg v.d_so_h]; exact v.inst
  · rw [set_get, if_neg v.d_d_h]; exact v.ns
  · rw [set_get, if_pos rfl, if_pos (lt_of_get v.h)]
  · rw [set_get, if_neg v.dhs]; exact v.s
  · rw [set_get, if_neg v.dht]; exact v.t
theorem View.setS (v : View σ so r st) {S' : List Cell} (hl : S'.length < 60) : View (σ.set r.s (.list (S'.map cV))) so r { st with S := S' } := by
  refine ⟨?_, ?_, ?_, ?_, ?_, v.dhs, v.dht, v.dst, v.h0, v.s0, v.t0, v.hl, hl, v.tl⟩
  · rw [set_get, if_neg v.d_so_s]; exact v.inst
  · rw [set_get, if_neg v.d_d_s]; exact v.ns
  · rw [set_get, if_neg (Ne.symm v.dhs)]; exact v.h
  · rw [set_get, if_pos rfl, if_pos (lt_of_get v.s)]
  · rw [set_get, if_neg v.dst]; exact v.t
theorem View.setT (v : View σ so r st) {T' : List Int} (hl : T'.length < 900000) : View (σ.set r.t (.list (T'.map .int))) so r { st with T := T' } := by
  refine ⟨?_, ?_, ?_, ?_, ?_, v.dhs, v.dht, v.dst, v.h0, v.s0, v.t0, v.hl, v.sl, hl⟩
  · rw [set_get, if_neg v.d_so_t]; exact v.inst
  · rw [set_get, if_neg v.d_d_t]; exact v.ns
  · rw [set_get, if_neg (Ne.symm v.dht)]; exact v.h
  · rw [set_get, if_neg (Ne.symm v.dst)]; exact v.s
  · rw [set_get, if_pos rfl, if_pos (lt_of_get v.t)]
theorem View.setD (v : View σ so r st) (st' : St) (e1 : st'.H = st.H) (e2 : st'.S = st.S) (e3 : st'.T = st.T) : View (σ.set r.d (.ns (nsL r st'))) so r st' := by
  refine ⟨?_, ?_, ?_, ?_, ?_, v.dhs, v.dht, v.dst, v.h0, v.s0, v.t0, by rw [e1]; exact v.hl, by rw [e2]; exact v.sl, by rw [e3]; exact v.tl⟩
  · rw [set_get, if_neg v.d_so_d]; exact v.inst
  · rw [set_get, if_pos rfl, if_pos (lt_of_get v.ns)]
  · rw [set_get, if_neg (Ne.symm v.d_d_h), e1]; exact v.h
  · rw [set_get, if_neg (Ne.symm v.d_d_s), e2]; exact v.s
  · rw [set_get, if_neg (Ne.symm v.d_d_t), e3]; exact v.t
theorem View.app (v : View σ so r st) (l : AH) : View (σ ++ l) so r st := v.same (X := []) (.app l) (by simp) (by simp) (by simp) (by simp) (by simp)

theorem list_put {o : Nat} {xs : List V} {k : Int} {u : V} (e : σ[o]? = some (.list xs)) (hz : o ≠ 0) (h0 : 0 ≤ k) (hk : k.toNat < xs.length) (hl : xs.length < 1000000) : itemPut σ (.obj o) (.int k) u = some (σ.set o (.list (xs.set k.toNat u))) := by
  have h2 : k < xs.length := by exact Om71 h0 hk hl
  simp only [itemPut, e, idx, if_neg hz]
  rw [if_pos ⟨h0, h2, hl⟩]
  rfl
theorem View.hput (v : View σ so r st) {k : Int} (c : Cell) (h0 : 0 ≤ k) (hk : k.toNat < st.H.length) : itemPut σ (.obj r.h) (.int k) (cV c) = some (σ.set r.h (.list ((st.H.set k.toNat c).map cV))) := by
  rw [list_put v.h v.h0 h0 (by rw [List.length_map]; exact hk) (by rw [List.length_map]; have := v.hl; exact Om62 this), List.map_set]
theorem View.sput (v : View σ so r st) {k : Int} (c : Cell) (h0 : 0 ≤ k) (hk : k.toNat < st.S.length) : itemPut σ (.obj r.s) (.int k) (cV c) = some (σ.set r.s (.list ((st.S.set k.toNat c).map cV))) := by
  rw [list_put v.s v.s0 h0 (by rw [List.length_map]; exact hk) (by rw [List.length_map]; have := v.sl; exact Om62 this), List.map_set]
theorem list_app {o : Nat} {xs : List V} {u : V} (e : σ[o]? = some (.list xs)) (hz : o ≠ 0) (hl : xs.length < 1000000) : methV σ 0 (.obj o) [u] = some (.none, σ.set o (.list (xs ++ [u]))) := by
  rw [meth_of e]
  show (if _ then _ else _) = _
  rw [if_pos ⟨hz, hl⟩]
theorem list_mok {o : Nat} {xs : List V} (e : σ[o]? = some (.list xs)) : methOk σ 0 (.obj o) = true ∧ methOk σ 1 (.obj o) = true := ⟨ok_of e rfl, ok_of e rfl⟩
theorem View.tapp (v : View σ so r st) (k : Int) : methV σ 0 (.obj r.t) [.int k] = some (.none, σ.set r.t (.list ((st.T ++ [k]).map .int))) := by
  rw [list_app v.t v.t0 (by rw [List.length_map]; have := v.tl; exact Om72 this), List.map_append]; rfl
theorem View.tok (v : View σ so r st) : methOk σ 0 (.obj r.t) = true := (list_mok v.t).1
theorem list_len {o : Nat} {xs : List V} (e : σ[o]? = some (.list xs)) (hl : xs.length < 1000000) : bltV σ 0 [.obj o] = some (.int xs.length, σ) := by
  simp only [bltV, lenV, e]
  rw [if_pos hl]
theorem View.hlen (v : View σ so r st) : bltV σ 0 [.obj r.h] = some (.int st.H.length, σ) := by
  rw [list_len v.h (by rw [List.length_map]; have := v.hl; exact Om62 this), List.length_map]
theorem View.slen (v : View σ so r st) : bltV σ 0 [.obj r.s] = some (.int st.S.length, σ) := by
  rw [list_len v.s (by rw [List.length_map]; have := v.sl; exact Om62 this), List.length_map]
theorem View.tlen (v : View σ so r st) : bltV σ 0 [.obj r.t] = some (.int st.T.length, σ) := by
  rw [list_len v.t (by rw [List.length_map]; have := v.tl; exact Om72 this), List.length_map]
end

noncomputable def entry (c : Cell) : Int := if c.1 = 0 then c.2 else -1 - c.2
noncomputable def bindP (st : St) (c x : Cell) : St := { st with
  H := if c.1 = 0 then st.H.set c.2.toNat x else st.H
  S := if c.1 = 0 then st.S else st.S.set c.2.toNat x
  T := if (if c.1 = 0 then c.2 < st.hb else c.2 < st.bb) then st.T ++ [entry c] else st.T }

theorem bind_ok {m : Nat} {σ : AH} {so : Nat} {r : Rc} {st : St} (v : View σ so r st) {c x : Cell} (hc : c.1 = 0 ∨ c.1 = 1) (hv : Valid st c) (tl : st.T.length < 890000) {Q : V → AH → Prop}
    (q : ∀ σ', View σ' so r (bindP st c x) → Stay [r.h, r.s, r.t] σ σ' → σ'.length = σ.length → Q .none σ') : callN P2 fns2 (m + 1) 16 [.obj so, cV c, cV x] σ Q := by
  refine call_of (fn := f_Cells_bind) rfl rfl (s_loc (.sub (.loc rfl) .kint (tup1 _ _)) ?_)
  have tl' : ∀ k : Int, (st.T ++ [k]).length < 900000 := fun k => by rw [List.length_append, List.length_singleton]; exact Om73 tl
  by_cases t0 : c.1 = 0
  · obtain ⟨a, b⟩ := hv.1 t0
    have v1 := v.setH (H' := st.H.set c.2.toNat x) (by rw [List.length_set]; exact v.hl)
    refine s_yes (.cmp (.sub (.loc rfl) .kint (tup0 _ _)) (.glob g0) cmp_int) t0 (s_sub (.loc rfl) (.attr (.loc rfl) v.a6) (.loc rfl) (v.hput x a b) (s_if (.cmp (.loc rfl) (.attr (.loc rfl) v1.a9) rfl) (fun hb => ?_) fun hb => ?_))
    · refine s_expr (.meth (.attr (.loc rfl) v1.a8) v1.tok (.one (.loc rfl)) (v1.tapp _)) (q _ ?_ (.trans (.set (.head _)) (.set (.tail _ (.tail _ (.head _))))) (by rw [List.length_set, List.length_set]))
      have e : bindP st c x = { st with H := st.H.set c.2.toNat x, T := st.T ++ [c.2] } := by simp only [bindP, entry, if_pos t0, if_pos hb]
      rw [e]; exact v1.setT (tl' _)
    · refine q _ ?_ (.set (.head _)) (List.length_set ..)
      have e : bindP st c x = { st with H := st.H.set c.2.toNat x } := by simp only [bindP, entry, if_pos t0, if_neg hb]
      rw [e]; exact v1
  · obtain ⟨a, b⟩ := hv.2 (hc.resolve_left t0)
    have v1 := v.setS (S' := st.S.set c.2.toNat x) (by rw [List.length_set]; exact v.sl)
    refine s_no (.cmp (.sub (.loc rfl) .kint (tup0 _ _)) (.glob g0) cmp_int) t0 (s_sub (.loc rfl) (.attr (.loc rfl) v.a7) (.loc rfl) (v.sput x a b) (s_if (.cmp (.loc rfl) (.attr (.loc rfl) v1.a10) rfl) (fun hb => ?_) fun hb => ?_))
    · refine s_expr (.meth (.attr (.loc rfl) v1.a8) v1.tok (.one (.bin (.neg .kint) (.loc rfl) rfl)) (v1.tapp _)) (q _ ?_ (.trans (.set (.tail _ (.head _))) (.set (.tail _ (.tail _ (.head _))))) (by rw [List.length_set, List.length_set]))
      have e : bindP st c x = { st with S := st.S.set c.2.toNat x, T := st.T ++ [-1 - c.2] } := by simp only [bindP, entry, if_neg t0, if_pos hb]
      rw [e]; exact v1.setT (tl' _)
    · refine q _ ?_ (.set (.tail _ (.head _))) (List.length_set ..)
      have e : bindP st c x = { st with S := st.S.set c.2.toNat x } := by simp only [bindP, entry, if_neg t0, if_neg hb]
      rw [e]; exact v1

end Mine
end

/-! D3 -/
noncomputable section
set_option maxHeartbeats 200000
open PySem
namespace Mine

noncomputable def isV (c : Cell) : Prop := c.1 = 0 ∨ c.1 = 1
noncomputable instance (c : Cell) : Decidable (isV c) := by unfold isV; infer_instance
noncomputable def pairP (st : St) (a b : Cell) : St := if a = b then st else if a.1 = b.1 then (if a.2 < b.2 then bindP st b a else bindP st a b) else if a.1 = 1 then bindP st a b else bindP st b a

section
variable {m : Nat} {σ : AH} {so : Nat} {r : Rc} {st : St} {Q : V → AH → Prop}

theorem pair_ok (v : View σ so r st) {a b : Cell} (ha : isV a) (hb : isV b) (va : Valid st a) (vb : Valid st b) (tl : st.T.length < 890000)
    (q : ∀ σ', View σ' so r (pairP st a b) → Stay [r.h, r.s, r.t] σ σ' → σ'.length = σ.length → Q .none σ') : callN P2 fns2 (m + 2) 17 [.obj so, cV a, cV b] σ Q := by
  have A : pairP st a b = bindP st a b → callN P2 fns2 (m + 1) 16 [.obj so, cV a, cV b] σ fun _ τ => Q .none τ := fun h => bind_ok v ha va tl fun σ' x y z => q σ' (h ▸ x) y z
  have B : pairP st a b = bindP st b a → callN P2 fns2 (m + 1) 16 [.obj so, cV b, cV a] σ fun _ τ => Q .none τ := fun h => bind_ok v hb vb tl fun σ' x y z => q σ' (h ▸ x) y z
  refine call_of (fn := f_Cells_bind_pair) rfl rfl (s_if (.cmp (.loc rfl) (.loc rfl) cmp_cell) (fun e => s_retN (q σ (by rw [show pairP st a b = st from if_pos e]; exact v) (.refl _ _) rfl)) fun e => s_if (.cmp (.sub (.loc rfl) .kint (tup0 _ _)) (.sub (.loc rfl) .kint (tup0 _ _)) cmp_int) (fun e1 => s_if (.cmp (.sub (.loc rfl) .kint (tup1 _ _)) (.sub (.loc rfl) .kint (tup1 _ _)) rfl) (fun e2 => ?_) fun e2 => ?_) fun e1 => s_if (.cmp (.sub (.loc rfl) .kint (tup0 _ _)) (.glob g1) cmp_int) (fun e2 => ?_) fun e2 => ?_)
  · exact c_expr (x_M (.loc rfl) v.cl me9 (.cons (.loc rfl) (.one (.loc rfl))) (B ((if_neg e).trans ((if_pos e1).trans (if_pos e2)))))
  · exact c_expr (x_M (.loc rfl) v.cl me9 (.cons (.loc rfl) (.one (.loc rfl))) (A ((if_neg e).trans ((if_pos e1).trans (if_neg e2)))))
  · exact c_expr (x_M (.loc rfl) v.cl me9 (.cons (.loc rfl) (.one (.loc rfl))) (A ((if_neg e).trans ((if_neg e1).trans (if_pos e2)))))
  · exact c_expr (x_M (.loc rfl) v.cl me9 (.cons (.loc rfl) (.one (.loc rfl))) (B ((if_neg e).trans ((if_neg e1).trans (if_neg e2)))))

theorem mark_ok (v : View σ so r st) (q : Q (.int st.T.length) σ) : callN P2 fns2 (m + 1) 19 [.obj so] σ Q :=
  call_of (fn := f_Cells_mark) rfl rfl (s_ret (.blt (.one (.attr (.loc rfl) v.a8)) v.tlen) q)
theorem compound_ok {w : V} {c : Cell} (q : Q (.bool (decide (c.1 = 2 ∨ c.1 = 3))) σ) : callN P2 fns2 (m + 1) 21 [w, cV c] σ Q :=
  call_of (fn := f_Cells_is_compound) rfl rfl (s_ret (.bool (.or (.cmp (.sub (.loc rfl) .kint (tup0 _ _)) (.glob g2) cmp_int) fun _ => .cmp (.sub (.loc rfl) .kint (tup0 _ _)) (.glob g3) cmp_int)) q)
theorem base_ok {w : V} {c : Cell} (q : Q (.int (if c.1 = 3 then c.2 else c.2 + 1)) σ) : callN P2 fns2 (m + 1) 24 [w, cV c] σ Q :=
  call_of (fn := f_Cells_base) rfl rfl (s_if (.cmp (.sub (.loc rfl) .kint (tup0 _ _)) (.glob g3) cmp_int) (fun t => s_ret (.sub (.loc rfl) .kint (tup1 _ _)) (by rw [if_pos t] at q; exact q)) fun t => s_ret (.bin (.sub (.loc rfl) .kint (tup1 _ _)) .kint rfl) (by rw [if_neg t] at q; exact q))
theorem variable_ok {c : Cell} (q : Q (.bool (decide (isV c))) σ) : callN P2 fns2 (m + 1) 34 [cV c] σ Q :=
  call_of (fn := f_is_variable) rfl rfl (s_ret (.bool (.or (.cmp (.sub (.loc rfl) .kint (tup0 _ _)) (.glob g0) cmp_int) fun _ => .cmp (.sub (.loc rfl) .kint (tup0 _ _)) (.glob g1) cmp_int)) ((decide_eq_decide.mpr Iff.rfl : decide (isV c) = decide (c.1 = 0 ∨ c.1 = 1)) ▸ q))

/-- cells that name something of the heap stand within it -/
noncomputable def Sound (st : St) (c : Cell) : Prop := (c.1 = 2 ∨ c.1 = 3) → 0 ≤ c.2 ∧ c.2.toNat < st.H.length
noncomputable def shape (st : St) (a b : Cell) : Bool := if a.1 ≠ b.1 then false else if a.1 = 3 then true else decide (st.H[a.2.toNat]? = st.H[b.2.toNat]?)
theorem shape_ok (v : View σ so r st) {a b : Cell} (hc : a.1 = 2 ∨ a.1 = 3) (sa : Sound st a) (sb : Sound st b) (q : Q (.bool (shape st a b)) σ) : callN P2 fns2 (m + 1) 33 [.obj so, cV a, cV b] σ Q := by
  have k : ∀ {x}, shape st a b = x → Q (.bool x) σ := fun h => h ▸ q
  refine call_of (fn := f_same_shape) rfl rfl (s_if (.cmp (.sub (.loc rfl) .kint (tup0 _ _)) (.sub (.loc rfl) .kint (tup0 _ _)) cmp_nint) (fun e => s_ret .kbool (k (if_pos e))) fun e => s_if (.cmp (.sub (.loc rfl) .kint (tup0 _ _)) (.glob g3) cmp_int) (fun t => s_ret .kbool (k ((if_neg e).trans (if_pos t)))) fun t => ?_)
  obtain ⟨h1, h2⟩ := sa hc
  obtain ⟨h3, h4⟩ := sb (Decidable.not_not.mp e ▸ hc)
  refine s_ret (.cmp (.sub (.attr (.loc rfl) v.a6) (.sub (.loc rfl) .kint (tup1 _ _)) (v.hget h1 (List.getElem?_eq_getElem h2))) (.sub (.attr (.loc rfl) v.a6) (.sub (.loc rfl) .kint (tup1 _ _)) (v.hget h3 (List.getElem?_eq_getElem h4))) cmp_cell) (k ((if_neg e).trans ((if_neg t).trans (decide_eq_decide.mpr ?_))))
  rw [List.getElem?_eq_getElem h2, List.getElem?_eq_getElem h4]
  exact ⟨Option.some.inj, congrArg some⟩
end

end Mine
end

/-! D4 -/
noncomputable section
set_option maxHeartbeats 200000
open PySem
namespace Mine

noncomputable def uns (p : List Cell × List Cell) (e : Int) : List Cell × List Cell := if 0 ≤ e then (p.1.set e.toNat (0, e), p.2) else (p.1, p.2.set (-1 - e).toNat (1, -1 - e))
noncomputable def unsL : List Cell × List Cell → List Int → List Cell × List Cell
  | p, [] => p
  | p, e :: l => unsL (uns p e) l
theorem uns_len (p : List Cell × List Cell) (e : Int) : (uns p e).1.length = p.1.length ∧ (uns p e).2.length = p.2.length := by
  unfold uns; split <;> simp
noncomputable def EntryOk (hl sl : Nat) (e : Int) : Prop := if 0 ≤ e then e.toNat < hl else (-1 - e).toNat < sl

section
variable {m : Nat} {σ : AH} {so : Nat} {r : Rc} {st : St}
theorem View.tpop (v : View σ so r st) {T0 : List Int} {e : Int} (h : st.T = T0 ++ [e]) : methV σ 1 (.obj r.t) [] = some (.int e, σ.set r.t (.list (T0.map .int))) := by
  have ht := v.t
  rw [h, List.map_append] at ht
  rw [meth_of ht]
  simp only [mObj, mList, List.map_cons, List.map_nil, List.getLast?_append, List.getLast?_singleton, Option.some_or]
  rw [if_pos ⟨v.t0, by have := v.tl; rw [h] at this; simp at this ⊢; exact Om74 this⟩]
  simp
theorem View.tok1 (v : View σ so r st) : methOk σ 1 (.obj r.t) = true := (list_mok v.t).2

noncomputable def undoCond : E := (.cmp .gt (.blt 0 (.cons (.attr (.loc 0) 8) .nil)) (.loc 1))
noncomputable def undoBody : SL := (.cons (.assign (.loc 2) (.meth 1 (.attr (.loc 0) 8) .nil)) (.cons (.ite (.cmp .ge (.loc 2) (.kint 0)) (.cons (.assign (.sub (.attr (.loc 0) 6) (.loc 2)) (.tup (.cons (.glob 0) (.cons (.loc 2) .nil)))) .nil) (.cons (.assign (.loc 3) (.bin .sub (.neg (.kint 1)) (.loc 2))) (.cons (.assign (.sub (.attr (.loc 0) 7) (.loc 3)) (.tup (.cons (.glob 1) (.cons (.loc 3) .nil)))) .nil))) .nil))


theorem undo_body (v : View σ so r st) {T0 : List Int} {e : Int} (h : st.T = T0 ++ [e]) (ho : EntryOk st.H.length st.S.length e) {cf : Cf} {Q : Fl → En → AH → Prop} {ρ : En} {mk : V} (h0 : ρ 0 = some (.obj so)) (h1 : ρ 1 = some mk)
    (q : ∀ σ' ρ', ρ' 0 = some (.obj so) → ρ' 1 = some mk → View σ' so r { st with H := (uns (st.H, st.S) e).1, S := (uns (st.H, st.S) e).2, T := T0 } → Stay [r.h, r.s, r.t] σ σ' → σ'.length = σ.length → Q .next ρ' σ') : wSL P2 cf undoBody ρ σ Q := by
  have v1 := v.setT (T' := T0) (by have := v.tl; rw [h, List.length_append] at this; exact Nat.lt_of_le_of_lt (Nat.le_add_right _ _) this)
  unfold EntryOk at ho
  refine s_loc (.meth (.attr (.loc h0) v.a8) v.tok1 .nil (v.tpop h)) (s_if (.cmp (.loc rfl) .kint rfl) (fun z => ?_) fun z => ?_)
  · rw [if_pos z] at ho
    have v2 := v1.setH (H' := st.H.set e.toNat (0, e)) (by rw [List.length_set]; exact v.hl)
    have eu : uns (st.H, st.S) e = (st.H.set e.toNat (0, e), st.S) := if_pos z
    exact s_sub (.tup (.cons (.glob g0) (.one (.loc rfl)))) (.attr (.loc h0) v1.a6) (.loc rfl) (v1.hput (0, e) z ho) (q _ _ h0 h1 (by rw [eu]; exact v2) (.trans (.set (.tail _ (.tail _ (.head _)))) (.set (.head _))) (by rw [List.length_set, List.length_set]))
  · rw [if_neg z] at ho
    have v2 := v1.setS (S' := st.S.set (-1 - e).toNat (1, -1 - e)) (by rw [List.length_set]; exact v.sl)
    have eu : uns (st.H, st.S) e = (st.H, st.S.set (-1 - e).toNat (1, -1 - e)) := if_neg z
    exact s_loc (.bin (.neg .kint) (.loc rfl) rfl) (s_sub (.tup (.cons (.glob g1) (.one (.loc rfl)))) (.attr (.loc h0) v1.a7) (.loc rfl) (v1.sput (1, -1 - e) (by exact Om75 z) ho) (q _ _ h0 h1 (by rw [eu]; exact v2) (.trans (.set (.tail _ (.tail _ (.head _)))) (.set (.tail _ (.head _)))) (by rw [List.length_set, List.length_set])))

theorem undo_loop {so : Nat} {r : Rc} {cf : Cf} {T0 : List Int} : ∀ (l : List Int) {σ : AH} {st : St} {ρ : En} {Q : Fl → En → AH → Prop}, View σ so r st → st.T = T0 ++ l.reverse → (∀ e ∈ l, EntryOk st.H.length st.S.length e) → ρ 0 = some (.obj so) → ρ 1 = some (.int T0.length) →
    (∀ σ' ρ', View σ' so r { st with H := (unsL (st.H, st.S) l).1, S := (unsL (st.H, st.S) l).2, T := T0 } → Stay [r.h, r.s, r.t] σ σ' → σ'.length = σ.length → Q .next ρ' σ') → whileGo (wE P2 cf undoCond) (wSL P2 cf undoBody) (l.length + 1) ρ σ Q
  | [], σ, st, ρ, Q, v, e, ho, h0, h1, q => by
    have e' : st.T = T0 := e.trans (List.append_nil _)
    subst e'
    exact w_end (.cmp (.blt (.one (.attr (.loc h0) v.a8)) v.tlen) (.loc h1) (congrArg some (decide_eq_false (Int.lt_irrefl _)))) (q σ ρ v (.refl _ _) rfl)
  | x :: l, σ, st, ρ, Q, v, e, ho, h0, h1, q => by
    have e' : st.T = (T0 ++ l.reverse) ++ [x] := by rw [e, List.reverse_cons, List.append_assoc]
    have hgt : (T0.length : Int) < st.T.length := by rw [e', List.length_append, List.length_append, List.length_singleton]; exact Om76
    refine w_go (.cmp (.blt (.one (.attr (.loc h0) v.a8)) v.tlen) (.loc h1) (congrArg some (decide_eq_true hgt))) (undo_body v e' (ho x (.head _)) h0 h1 fun σ' ρ' r0 r1 v' s' l' => ?_)
    refine undo_loop l v' rfl (fun y m => ?_) r0 r1 fun σ'' ρ'' v'' s'' l'' => q σ'' ρ'' v'' (s'.trans s'') (l''.trans l')
    obtain ⟨a, b⟩ := uns_len (st.H, st.S) x
    show EntryOk (uns (st.H, st.S) x).1.length (uns (st.H, st.S) x).2.length y
    rw [a, b]
    exact ho y (.tail _ m)

theorem undo_ok (v : View σ so r st) {T0 l : List Int} (e : st.T = T0 ++ l) (ho : ∀ x ∈ l, EntryOk st.H.length st.S.length x) {Q : V → AH → Prop}
    (q : ∀ σ', View σ' so r { st with H := (unsL (st.H, st.S) l.reverse).1, S := (unsL (st.H, st.S) l.reverse).2, T := T0 } → Stay [r.h, r.s, r.t] σ σ' → σ'.length = σ.length → Q .none σ') :
    callN P2 fns2 (m + 1) 20 [.obj so, .int T0.length] σ Q :=
  call_of (fn := f_Cells_undo_to) rfl rfl ⟨_, undo_loop l.reverse v (by rw [List.reverse_reverse]; exact e) (fun x m => ho x (List.mem_reverse.mp m)) rfl rfl fun σ' ρ' v' s' l' => q σ' v' s' l'⟩
end

end Mine
end

/-! D5 -/
noncomputable section
set_option maxHeartbeats 200000
open PySem
namespace Mine

/-- things numbered as they stand -/
noncomputable def enumV {K : Type} : List K → Nat → List (K × V)
  | [], _ => []
  | k :: l, n => (k, .int n) :: enumV l (n + 1)
noncomputable def key2 (c : Int × Int) : List Int := [c.1, c.2]
structure Rs where
  d : Nat
  tx : Nat
  an : Nat
  fu : Nat
  fn : Nat
structure SyView (σ : AH) (sy : Nat) (q : Rs) (tx : List PySem.Str) (fu : List (Int × Int)) : Prop where
  inst : σ[sy]? = some (.inst 0 q.d)
  ns : σ[q.d]? = some (.ns [(0, .obj q.tx), (1, .obj q.an), (2, .obj q.fu), (3, .obj q.fn)])
  ltx : σ[q.tx]? = some (.list (tx.map .str))
  an : σ[q.an]? = some (.dictS (enumV tx 0))
  lfu : σ[q.fu]? = some (.list (fu.map cV))
  fn : σ[q.fn]? = some (.dictT (enumV (fu.map key2) 0))
  dtf : q.tx ≠ q.fu
  t0 : q.tx ≠ 0
  f0 : q.fu ≠ 0
  tl : tx.length < 1000
  fl : fu.length < 1000

section
variable {m : Nat} {σ σ' : AH} {sy : Nat} {q : Rs} {tx : List PySem.Str} {fu : List (Int × Int)}
theorem SyView.a0 (v : SyView σ sy q tx fu) : attrAt σ (.obj sy) 0 = some (.obj q.tx) := by simp [attrAt, v.inst, v.ns, List.lookup]
theorem SyView.a1 (v : SyView σ sy q tx fu) : attrAt σ (.obj sy) 1 = some (.obj q.an) := by simp [attrAt, v.inst, v.ns, List.lookup]
theorem SyView.a2 (v : SyView σ sy q tx fu) : attrAt σ (.obj sy) 2 = some (.obj q.fu) := by simp [attrAt, v.inst, v.ns, List.lookup]
theorem SyView.a3 (v : SyView σ sy q tx fu) : attrAt σ (.obj sy) 3 = some (.obj q.fn) := by simp [attrAt, v.inst, v.ns, List.lookup]
theorem SyView.cl (v : SyView σ sy q tx fu) : instOf σ (.obj sy) = some 0 := by simp [instOf, v.inst, v.ns]
theorem SyView.same (v : SyView σ sy q tx fu) {X : List Nat} (x : Stay X σ σ') (h : ∀ i ∈ X, i ∉ [sy, q.d, q.tx, q.an, q.fu, q.fn]) : SyView σ' sy q tx fu :=
  ⟨x.get _ _ (fun z => h _ z (.head _)) v.inst, x.get _ _ (fun z => h _ z (.tail _ (.head _))) v.ns, x.get _ _ (fun z => h _ z (.tail _ (.tail _ (.head _)))) v.ltx, x.get _ _ (fun z => h _ z (.tail _ (.tail _ (.tail _ (.head _))))) v.an, x.get _ _ (fun z => h _ z (.tail _ (.tail _ (.tail _ (.tail _ (.head _)))))) v.lfu, x.get _ _ (fun z => h _ z (.tail _ (.tail _ (.tail _ (.tail _ (.tail _ (.head _))))))) v.fn, v.dtf, v.t0, v.f0, v.tl, v.fl⟩
theorem SyView.lt (v : SyView σ sy q tx fu) : ∀ i ∈ [sy, q.d, q.tx, q.an, q.fu, q.fn], i < σ.length := List.forall_mem_cons.mpr ⟨(List.getElem?_eq_some_iff.mp v.inst).1, List.forall_mem_cons.mpr ⟨(List.getElem?_eq_some_iff.mp v.ns).1, List.forall_mem_cons.mpr ⟨(List.getElem?_eq_some_iff.mp v.ltx).1, List.forall_mem_cons.mpr ⟨(List.getElem?_eq_some_iff.mp v.an).1, List.forall_mem_cons.mpr ⟨(List.getElem?_eq_some_iff.mp v.lfu).1, List.forall_mem_cons.mpr ⟨(List.getElem?_eq_some_iff.mp v.fn).1, fun _ hm => nomatch hm⟩⟩⟩⟩⟩⟩
theorem SyView.fget (v : SyView σ sy q tx fu) {k : Int} {c : Int × Int} (h0 : 0 ≤ k) (hk : fu[k.toNat]? = some c) : itemAt σ (.obj q.fu) (.int k) = some (cV c) :=
  list_item v.lfu h0 (by rw [List.length_map]; have := v.fl; exact Om77 this) (by rw [List.getElem?_map, hk]; rfl)

theorem arity_ok (v : SyView σ sy q tx fu) {k : Int} {c : Int × Int} (h0 : 0 ≤ k) (hk : fu[k.toNat]? = some c) {Q : V → AH → Prop} (qq : Q (.int c.2) σ) : callN P2 fns2 (m + 1) 7 [.obj sy, .int k] σ Q :=
  call_of (fn := f_Symbols_arity) rfl rfl (s_ret (.sub (.sub (.attr (.loc rfl) v.a2) (.loc rfl) (v.fget h0 hk)) .kint (tup1 _ _)) qq)
end

/-- a store with its symbols -/
structure Wd (σ : AH) (so : Nat) (r : Rc) (st : St) (q : Rs) (tx : List PySem.Str) (fu : List (Int × Int)) : Prop where
  v : View σ so r st
  y : SyView σ r.sy q tx fu
  dj : ∀ i ∈ [r.h, r.s, r.t], i ∉ [q.tx, q.fu]

section
variable {m : Nat} {σ σ' : AH} {so : Nat} {r : Rc} {st st' : St} {q : Rs} {tx : List PySem.Str} {fu : List (Int × Int)}
theorem Wd.off (w : Wd σ so r st q tx fu) : ∀ i ∈ [r.h, r.s, r.t], i ∉ [r.sy, q.d, q.tx, q.an, q.fu, q.fn] := by
  intro i hi
  have h1 := w.dj i hi
  have h2 : ∃ xs, σ[i]? = some (.list xs) := by
    simp only [List.mem_cons, List.not_mem_nil, or_false] at hi
    rcases hi with rfl | rfl | rfl
    · exact ⟨_, w.v.h⟩
    · exact ⟨_, w.v.s⟩
    · exact ⟨_, w.v.t⟩
  obtain ⟨xs, e⟩ := h2
  simp only [List.mem_cons, List.not_mem_nil, or_false, not_or] at h1 ⊢
  exact ⟨ne_of_get e w.y.inst (fun h => nomatch h), ne_of_get e w.y.ns (fun h => nomatch h), h1.1, ne_of_get e w.y.an (fun h => nomatch h), h1.2, ne_of_get e w.y.fn (fun h => nomatch h)⟩
/-- the store is turned -/
theorem Wd.turn (w : Wd σ so r st q tx fu) (v' : View σ' so r st') (x : Stay [r.h, r.s, r.t] σ σ') : Wd σ' so r st' q tx fu := ⟨v', w.y.same x w.off, w.dj⟩
/-- all that the store and the symbols hold -/
noncomputable def keptL (so : Nat) (r : Rc) (q : Rs) : List Nat := [so, r.d, r.h, r.s, r.t, r.sy, q.d, q.tx, q.an, q.fu, q.fn]
theorem Wd.same (w : Wd σ so r st q tx fu) {X : List Nat} (x : Stay X σ σ') (h : ∀ i ∈ X, i ∉ keptL so r q) : Wd σ' so r st q tx fu :=
  ⟨w.v.same x (fun z => h _ z (.head _)) (fun z => h _ z (.tail _ (.head _))) (fun z => h _ z (.tail _ (.tail _ (.head _)))) (fun z => h _ z (.tail _ (.tail _ (.tail _ (.head _))))) (fun z => h _ z (.tail _ (.tail _ (.tail _ (.tail _ (.head _)))))), w.y.same x fun i hi hm => h i hi (List.mem_append_right (as := [so, r.d, r.h, r.s, r.t]) hm), w.dj⟩

theorem Wd.nil (W : Wd σ so r st q tx fu) (s : Stay [] σ σ') : Wd σ' so r st q tx fu := W.same s nofun
theorem kept5 {i : Nat} (h : i ∉ keptL so r q) : i ∉ [so, r.d, r.h, r.s, r.t] := fun z => h (List.mem_append_left (bs := [r.sy, q.d, q.tx, q.an, q.fu, q.fn]) z)
/-- a compound stands within the heap -/
noncomputable def Sound2 (st : St) (fu : List (Int × Int)) (c : Cell) : Prop :=
  (c.1 = 2 → 0 ≤ c.2 ∧ ∃ f a n, st.H[c.2.toNat]? = some (6, f) ∧ 0 ≤ f ∧ fu[f.toNat]? = some (a, n) ∧ 0 ≤ n ∧ n < 100 ∧ c.2.toNat + n.toNat < st.H.length) ∧ (c.1 = 3 → 0 ≤ c.2 ∧ c.2.toNat + 1 < st.H.length)
noncomputable def widthP (st : St) (fu : List (Int × Int)) (c : Cell) : Nat := if c.1 = 3 then 2 else if c.1 = 2 then match st.H[c.2.toNat]? with | some (6, f) => ((fu[f.toNat]?).map (·.2.toNat)).getD 0 | _ => 0 else 0
noncomputable def baseP (c : Cell) : Nat := if c.1 = 3 then c.2.toNat else c.2.toNat + 1
noncomputable def argsP (st : St) (fu : List (Int × Int)) (c : Cell) : List Cell := (st.H.drop (baseP c)).take (widthP st fu c)
theorem Sound2.sound {c : Cell} (h : Sound2 st fu c) : Sound st c := by
  rintro (t | t)
  · obtain ⟨a, f, b, n, e, _⟩ := h.1 t
    exact ⟨a, (List.getElem?_eq_some_iff.mp e).1⟩
  · obtain ⟨a, b⟩ := h.2 t
    exact ⟨a, by exact Om78 b⟩
theorem Sound2.fits {c : Cell} (h : Sound2 st fu c) (hc : c.1 = 2 ∨ c.1 = 3) : baseP c + widthP st fu c ≤ st.H.length ∧ widthP st fu c < 100 ∧ 0 ≤ c.2 := by
  rcases hc with t | t
  · obtain ⟨a, f, b, n, e, h0, e2, n0, n1, hl⟩ := h.1 t
    have t3 : ¬ c.1 = 3 := by exact Om79 t
    unfold baseP widthP
    rw [if_neg t3, if_neg t3, if_pos t, e]
    simp only [e2, Option.map_some, Option.getD_some]
    exact Om80 t a n0 n1 hl t3
  · obtain ⟨a, b⟩ := h.2 t
    unfold baseP widthP
    rw [if_pos t, if_pos t]
    exact Om81 a b

theorem width_ok (w : Wd σ so r st q tx fu) {c : Cell} (h : Sound2 st fu c) {Q : V → AH → Prop} (qq : Q (.int (widthP st fu c)) σ) : callN P2 fns2 (m + 2) 23 [.obj so, cV c] σ Q := by
  refine call_of (fn := f_Cells_width) rfl rfl (s_loc (.sub (.loc rfl) .kint (tup0 _ _)) (s_if (.cmp (.loc rfl) (.glob g3) cmp_int) (fun t3 => s_ret .kint (by rw [show widthP st fu c = 2 from if_pos t3] at qq; exact qq)) fun t3 => s_if (.cmp (.loc rfl) (.glob g2) cmp_int) (fun t2 => ?_) fun t2 => s_ret .kint (by rw [show widthP st fu c = 0 from (if_neg t3).trans (if_neg t2)] at qq; exact qq)))
  obtain ⟨a, f, b, n, e, h0, e2, n0, n1, hl⟩ := h.1 t2
  have hw : (widthP st fu c : Int) = n := by
    unfold widthP
    rw [if_neg t3, if_pos t2, e]
    simp only [e2, Option.map_some, Option.getD_some]
    exact Int.toNat_of_nonneg n0
  rw [hw] at qq
  exact c_ret (x_M (.attr (.loc rfl) w.v.a4) w.y.cl ms4 (.one (.sub (.sub (.attr (.loc rfl) w.v.a6) (.sub (.loc rfl) .kint (tup1 _ _)) (w.v.hget a e)) .kint (tup1 _ _))) (arity_ok w.y h0 e2 qq))

theorem range3' {n : Nat} (h : n < 1000) : rangeV [.int ((n : Int) - 1), .int (-1), .int (-1)] = some (upFrom ((n : Int) - 1) (-1) n) := by
  have h1 : small ((n : Int) - 1) = true := Bool.and_eq_true_iff.mpr ⟨decide_eq_true (by exact Om82 h), decide_eq_true (by exact Om83 h)⟩
  refine (if_pos (And.intro rfl (Bool.and_eq_true_iff.mpr ⟨h1, by decide⟩)) : (if (-1 : Int) = -1 ∧ (small ((n : Int) - 1) && small (-1)) = true then some (upFrom ((n : Int) - 1) (-1) ((n : Int) - 1 - -1).toNat) else none) = _).trans ?_
  rw [show ((n : Int) - 1 - -1).toNat = n by exact Om84 h]
end

end Mine
end

/-! D6 -/
noncomputable section
set_option maxHeartbeats 200000
open PySem
namespace Mine

set_option tactic.hygienic true in
theorem set_self {σ : AH} {i : Nat} {o : AObj} (e : σ[i]? = some o) : σ.set i o = σ := by
  apply List.ext_getElem?
  intro j
  rw [set_get]
  split
  · rename_i h
    subst h
    rw [if_pos (lt_of_get e), e]
  · rfl
theorem upFrom_down (k : Nat) : upFrom (((k + 1 : Nat) : Int) - 1) (-1) (k + 1) = .int k :: upFrom ((k : Int) - 1) (-1) k := by
  rw [upFrom]
  have h1 : (((k + 1 : Nat) : Int) - 1) = (k : Int) := by exact Om85
  have h2 : (((k + 1 : Nat) : Int) - 1 + -1) = (k : Int) - 1 := by exact Om86
  rw [h2, h1]

section
variable {m : Nat} {σ σ' : AH} {so : Nat} {r : Rc} {st st' : St} {q : Rs} {tx : List PySem.Str} {fu : List (Int × Int)} {wo : Nat}

noncomputable def paBody : SL := (.cons (.expr (.meth 0 (.loc 2) (.cons (.sub (.attr (.loc 0) 6) (.bin .add (.loc 3) (.loc 4))) .nil))) .nil)
theorem View.hsum (v : View σ so r st) {b k : Nat} (h : b + k < st.H.length) : itemAt σ (.obj r.h) (.int ((b : Int) + (k : Int))) = some (cV st.H[b + k]) := v.hget (Int.natCast_nonneg (b + k)) (List.getElem?_eq_getElem h)
theorem drop_snoc {b k : Nat} (h : b + k < st.H.length) : (st.H.drop b).take (k + 1) = (st.H.drop b).take k ++ [st.H[b + k]] := by
  rw [List.take_succ, List.getElem?_drop, List.getElem?_eq_getElem h]; rfl
theorem base_nat {c : Cell} (h : 0 ≤ c.2) : (if c.1 = 3 then c.2 else c.2 + 1) = ((baseP c : Nat) : Int) := by unfold baseP; split <;> omega
theorem pa_loop {cf : Cf} {b : Nat} {all : List V} : ∀ (k : Nat) {σ : AH} {W : List V} {ρ : En} {Q : Fl → En → AH → Prop}, View σ so r st → σ[wo]? = some (.list W) → wo ≠ 0 → wo ∉ [so, r.d, r.h, r.s, r.t] → W.length + k < 1000000 → b + k ≤ st.H.length →
    ρ 0 = some (.obj so) → ρ 2 = some (.obj wo) → ρ 3 = some (.int b) → (∀ ρ', Q .next ρ' (σ.set wo (.list (W ++ ((st.H.drop b).take k).reverse.map cV)))) →
    forGo all .range (wT P2 cf (.loc 4)) (wSL P2 cf paBody) (upFrom ((k : Int) - 1) (-1) k) ρ σ Q
  | 0, σ, W, ρ, Q, v, e, hz, hw, hl, hb, h0, h2, h3, qq => f_end (by
    have := qq ρ
    rwa [show ((st.H.drop b).take 0).reverse.map cV = [] from rfl, List.append_nil, set_self e] at this)
  | k + 1, σ, W, ρ, Q, v, e, hz, hw, hl, hb, h0, h2, h3, qq => by
    rw [upFrom_down]
    have hbk : b + k < st.H.length := by exact Om87 hb
    have e1 : (σ.set wo (.list (W ++ [cV st.H[b + k]])))[wo]? = some (.list (W ++ [cV st.H[b + k]])) := by rw [set_get, if_pos rfl, if_pos (lt_of_get e)]
    refine f_go (s_expr (.meth (.loc h2) (list_mok e).1 (.one (.sub (.attr (.loc h0) v.a6) (.bin (.loc h3) (.loc rfl) rfl) (v.hsum hbk))) (list_app e hz (by exact Om88 hl))) ?_)
    refine pa_loop (b := b) k (v.off (.set (.head _)) hw) e1 hz hw (by rw [List.length_append, List.length_singleton]; exact Om89 hl) (by exact Om90 hb) h0 h2 h3 fun ρ' => ?_
    have := qq ρ'
    rw [List.set_set]
    rwa [drop_snoc hbk, List.reverse_append, List.map_append, ← List.append_assoc] at this

theorem pushArgs_ok (w : Wd σ so r st q tx fu) {c : Cell} (hc : c.1 = 2 ∨ c.1 = 3) (hs : Sound2 st fu c) {W : List V} (e : σ[wo]? = some (.list W)) (hz : wo ≠ 0) (hw : wo ∉ [so, r.d, r.h, r.s, r.t]) (hl : W.length < 900000) {Q : V → AH → Prop}
    (qq : Q .none (σ.set wo (.list (W ++ (argsP st fu c).reverse.map cV)))) : callN P2 fns2 (m + 3) 31 [.obj so, cV c, .obj wo] σ Q := by
  obtain ⟨f1, f2, f3⟩ := hs.fits hc
  refine call_of (fn := f_push_arguments) rfl rfl (c_loc (x_M (.loc rfl) w.v.cl me17 (.one (.loc rfl)) (base_ok ?_)))
  rw [base_nat f3]
  exact s_down (x_M (.loc rfl) w.v.cl me16 (.one (.loc rfl)) (width_ok w hs (dn_ok (range3' (by exact Om91 f2)) (pa_loop (wo := wo) (b := baseP c) (widthP st fu c) w.v e hz hw (by exact Om92 hl f2) f1 rfl rfl rfl fun ρ' => qq))))

noncomputable def ppBody : SL := (.cons (.expr (.meth 0 (.loc 3) (.cons (.tup (.cons (.sub (.attr (.loc 0) 6) (.bin .add (.loc 4) (.loc 6))) (.cons (.sub (.attr (.loc 0) 6) (.bin .add (.loc 5) (.loc 6))) .nil))) .nil))) .nil)
noncomputable def pV (p : Cell × Cell) : V := .tup [cV p.1, cV p.2]
theorem pp_loop {cf : Cf} {b b2 : Nat} {all : List V} : ∀ (k : Nat) {σ : AH} {W : List V} {ρ : En} {Q : Fl → En → AH → Prop}, View σ so r st → σ[wo]? = some (.list W) → wo ≠ 0 → wo ∉ [so, r.d, r.h, r.s, r.t] → W.length + k < 1000000 → b + k ≤ st.H.length → b2 + k ≤ st.H.length →
    ρ 0 = some (.obj so) → ρ 3 = some (.obj wo) → ρ 4 = some (.int b) → ρ 5 = some (.int b2) → (∀ ρ', Q .next ρ' (σ.set wo (.list (W ++ (((st.H.drop b).take k).zip ((st.H.drop b2).take k)).reverse.map pV)))) →
    forGo all .range (wT P2 cf (.loc 6)) (wSL P2 cf ppBody) (upFrom ((k : Int) - 1) (-1) k) ρ σ Q
  | 0, σ, W, ρ, Q, v, e, hz, hw, hl, hb, hb2, h0, h3, h4, h5, qq => f_end (by
    have := qq ρ
    rwa [show (((st.H.drop b).take 0).zip ((st.H.drop b2).take 0)).reverse.map pV = [] from rfl, List.append_nil, set_self e] at this)
  | k + 1, σ, W, ρ, Q, v, e, hz, hw, hl, hb, hb2, h0, h3, h4, h5, qq => by
    rw [upFrom_down]
    have hbk : b + k < st.H.length := by exact Om87 hb
    have hbk2 : b2 + k < st.H.length := by exact Om87 hb2
    have e1 : (σ.set wo (.list (W ++ [pV (st.H[b + k], st.H[b2 + k])])))[wo]? = some (.list (W ++ [pV (st.H[b + k], st.H[b2 + k])])) := by rw [set_get, if_pos rfl, if_pos (lt_of_get e)]
    refine f_go (s_expr (.meth (.loc h3) (list_mok e).1 (.one (.tup (.cons (.sub (.attr (.loc h0) v.a6) (.bin (.loc h4) (.loc rfl) rfl) (v.hsum hbk)) (.one (.sub (.attr (.loc h0) v.a6) (.bin (.loc h5) (.loc rfl) rfl) (v.hsum hbk2)))))) (list_app e hz (by exact Om88 hl))) ?_)
    refine pp_loop (b := b) (b2 := b2) k (v.off (.set (.head _)) hw) e1 hz hw (by rw [List.length_append, List.length_singleton]; exact Om89 hl) (by exact Om90 hb) (by exact Om90 hb2) h0 h3 h4 h5 fun ρ' => ?_
    have := qq ρ'
    rw [List.set_set]
    rwa [drop_snoc hbk, drop_snoc hbk2, List.zip_append (by rw [List.length_take, List.length_take, List.length_drop, List.length_drop]; omega), List.reverse_append, List.map_append, ← List.append_assoc] at this

set_option tactic.hygienic true in
theorem shape_width {a b : Cell} (h : shape st a b = true) : widthP st fu a = widthP st fu b := by
  unfold shape at h
  split at h
  · cases h
  · rename_i e
    have e : a.1 = b.1 := by simpa using e
    split at h
    · rename_i t
      unfold widthP
      rw [if_pos t, if_pos (e ▸ t)]
    · have h := of_decide_eq_true h
      unfold widthP
      rw [e, h]
theorem pushPairs_ok (w : Wd σ so r st q tx fu) {a b : Cell} (ha : a.1 = 2 ∨ a.1 = 3) (hb : b.1 = 2 ∨ b.1 = 3) (sa : Sound2 st fu a) (sb : Sound2 st fu b) (hsh : shape st a b = true) {W : List V} (e : σ[wo]? = some (.list W)) (hz : wo ≠ 0) (hw : wo ∉ [so, r.d, r.h, r.s, r.t]) (hl : W.length < 900000) {Q : V → AH → Prop}
    (qq : Q .none (σ.set wo (.list (W ++ ((argsP st fu a).zip (argsP st fu b)).reverse.map pV)))) : callN P2 fns2 (m + 3) 32 [.obj so, cV a, cV b, .obj wo] σ Q := by
  obtain ⟨f1, f2, f3⟩ := sa.fits ha
  obtain ⟨k1, k2, k3⟩ := sb.fits hb
  have hwd := shape_width (fu := fu) hsh
  refine call_of (fn := f_push_pairs) rfl rfl (c_loc (x_M (.loc rfl) w.v.cl me17 (.one (.loc rfl)) (base_ok (c_loc (x_M (.loc rfl) w.v.cl me17 (.one (.loc rfl)) (base_ok ?_))))))
  rw [base_nat f3, base_nat k3]
  unfold argsP at qq
  rw [← hwd] at qq k1
  exact s_down (x_M (.loc rfl) w.v.cl me16 (.one (.loc rfl)) (width_ok w sa (dn_ok (range3' (by exact Om93 k2 hwd)) (pp_loop (wo := wo) (b := baseP a) (b2 := baseP b) (widthP st fu a) w.v e hz hw (by exact Om94 hl k2 hwd) f1 k1 rfl rfl rfl rfl fun ρ' => qq))))
end

end Mine
end

/-! D7 -/
noncomputable section
set_option maxHeartbeats 200000
open PySem
namespace Mine

structure MetView (σ : AH) (po d mo : Nat) (span : Int) (M : List Int) : Prop where
  inst : σ[po]? = some (.inst 3 d)
  ns : σ[d]? = some (.ns [(11, .int span), (12, .obj mo)])
  met : σ[mo]? = some (.set M)
theorem MetView.a11 {σ : AH} {po d mo : Nat} {span : Int} {M : List Int} (v : MetView σ po d mo span M) : attrAt σ (.obj po) 11 = some (.int span) := by simp [attrAt, v.inst, v.ns, List.lookup]
theorem MetView.a12 {σ : AH} {po d mo : Nat} {span : Int} {M : List Int} (v : MetView σ po d mo span M) : attrAt σ (.obj po) 12 = some (.obj mo) := by simp [attrAt, v.inst, v.ns, List.lookup]
theorem MetView.cl {σ : AH} {po d mo : Nat} {span : Int} {M : List Int} (v : MetView σ po d mo span M) : instOf σ (.obj po) = some 3 := by simp [instOf, v.inst, v.ns]
theorem MetView.same {σ σ' : AH} {po d mo : Nat} {span : Int} {M : List Int} (v : MetView σ po d mo span M) {X : List Nat} (x : Stay X σ σ') (h1 : po ∉ X) (h2 : d ∉ X) (h3 : mo ∉ X) : MetView σ' po d mo span M :=
  ⟨x.get _ _ h1 v.inst, x.get _ _ h2 v.ns, x.get _ _ h3 v.met⟩

section
variable {m : Nat} {σ σ' : AH} {so : Nat} {r : Rc} {st st' : St} {q : Rs} {tx : List PySem.Str} {fu : List (Int × Int)} {wo : Nat}

theorem attr_put {i c d a : Nat} {fs : List (Nat × V)} {u : V} (e1 : σ[i]? = some (.inst c d)) (e2 : σ[d]? = some (.ns fs)) : attrPut σ (.obj i) a u = some (σ.set d (.ns (nsPut a u fs))) := by
  simp only [attrPut, e1, e2]

theorem blt3 (τ : AH) : bltV τ 3 [] = some (.obj τ.length, τ ++ [.set []]) := rfl
theorem set_in {o : Nat} {M : List Int} {k : Int} (e : σ[o]? = some (.set M)) : cmpV σ .isIn (.int k) (.obj o) = some (decide (k ∈ M)) := by
  show inV σ (.int k) (.obj o) = _
  simp only [inV, e]
theorem set_out {o : Nat} {M : List Int} {k : Int} (e : σ[o]? = some (.set M)) : cmpV σ .notIn (.int k) (.obj o) = some (decide (k ∉ M)) := by
  show (inV σ (.int k) (.obj o)).map (!·) = _
  simp only [inV, e, decide_not]; rfl
theorem set_add {o : Nat} {M : List Int} {k : Int} (e : σ[o]? = some (.set M)) (hl : M.length < 4000) (h : k ∉ M) : methV σ 3 (.obj o) [.int k] = some (.none, σ.set o (.set (M ++ [k]))) := by
  rw [meth_of e]
  show (if _ then _ else _) = _
  rw [if_pos hl, if_neg h]
theorem pairset_init {po d : Nat} (v : View σ so r st) (i0 : σ[po]? = some (.inst 3 d)) (i1 : σ[d]? = some (.ns [])) (dd : d ∉ [so, r.d, r.h, r.s, r.t]) {Q : V → AH → Prop}
    (qq : ∀ σ', MetView σ' po d σ.length (st.H.length + 1) [] → Stay [d] σ σ' → σ'.length = σ.length + 1 → Q .none σ') : callN P2 fns2 (m + 1) 29 [.obj po, .obj so] σ Q := by
  have hne : d ≠ po := ne_of_get i1 i0 (fun h => nomatch h)
  have p1 : attrPut σ (.obj po) 11 (.int (st.H.length + 1)) = some (σ.set d (.ns [(11, .int (st.H.length + 1))])) := attr_put i0 i1
  have q0 : (σ.set d (.ns [(11, .int (st.H.length + 1))]))[po]? = some (.inst 3 d) := by rw [set_get, if_neg hne]; exact i0
  have q1 : (σ.set d (.ns [(11, .int (st.H.length + 1))]))[d]? = some (.ns [(11, .int (st.H.length + 1))]) := by rw [set_get, if_pos rfl, if_pos (lt_of_get i1)]
  have hl : (σ.set d (.ns [(11, .int (st.H.length + 1))])).length = σ.length := List.length_set ..
  have s1 : Stay [d] σ (σ.set d (.ns [(11, .int (st.H.length + 1))])) := .set (.head _)
  generalize σ.set d (.ns [(11, .int (st.H.length + 1))]) = τ at p1 q0 q1 hl s1
  have j0 := app_get (l := [AObj.set []]) q0
  have j1 := app_get (l := [AObj.set []]) q1
  have j2 : (τ ++ [AObj.set []])[τ.length]? = some (.set []) := snoc_get
  have p2 : attrPut (τ ++ [AObj.set []]) (.obj po) 12 (.obj τ.length) = some ((τ ++ [AObj.set []]).set d (.ns [(11, .int (st.H.length + 1)), (12, .obj τ.length)])) := attr_put j0 j1
  refine call_of (fn := f_PairSet___init__) rfl rfl (s_attr (.bin (.blt (.one (.attr (.loc rfl) v.a6)) v.hlen) .kint rfl) (.loc rfl) p1 (s_attr (.blt .nil (blt3 _)) (.loc rfl) p2 (qq _ ?_ ((s1.trans (.app _)).trans (.set (.head _))) (by rw [List.length_set, List.length_append, hl]; rfl))))
  rw [← hl]
  refine ⟨?_, ?_, ?_⟩
  · rw [set_get, if_neg hne]; exact j0
  · rw [set_get, if_pos rfl, if_pos (lt_of_get j1)]
  · rw [set_get, if_neg (ne_of_get j1 j2 (fun h => nomatch h))]; exact j2

theorem add_ok {po d mo : Nat} {span : Int} {M : List Int} (v : MetView σ po d mo span M) {a b : Cell} (ha : small a.2 = true) (hs : small span = true) (hl : M.length < 4000) {Q : V → AH → Prop}
    (qq : if a.2 * span + b.2 ∈ M then Q (.bool false) σ else Q (.bool true) (σ.set mo (.set (M ++ [a.2 * span + b.2])))) : callN P2 fns2 (m + 1) 30 [.obj po, cV a, cV b] σ Q := by
  have hm : binV .mul (.int a.2) (.int span) = some (.int (a.2 * span)) := if_pos (Bool.and_eq_true_iff.mpr ⟨ha, hs⟩)
  refine call_of (fn := f_PairSet_add) rfl rfl (s_loc (.bin (.bin (.sub (.loc rfl) .kint (tup1 _ _)) (.attr (.loc rfl) v.a11) hm) (.sub (.loc rfl) .kint (tup1 _ _)) rfl) (s_if (.cmp (.loc rfl) (.attr (.loc rfl) v.a12) (set_in v.met)) (fun h => s_ret .kbool (by rw [if_pos h] at qq; exact qq)) fun h => s_expr (.meth (.attr (.loc rfl) v.a12) (ok_of v.met rfl) (.one (.loc rfl)) (set_add v.met hl h)) (s_ret .kbool (by rw [if_neg h] at qq; exact qq))))
end

end Mine
end

/-! D8 -/
noncomputable section
set_option maxHeartbeats 200000
open PySem
namespace Mine

noncomputable def CellOk (st : St) (fu : List (Int × Int)) (c : Cell) : Prop := Valid st c ∧ Sound2 st fu c
structure WF2 (st : St) (fu : List (Int × Int)) : Prop where
  wf : WF st
  hs : ∀ (a : Nat) (c : Cell), st.H[a]? = some c → Sound2 st fu c
  ss : ∀ (a : Nat) (c : Cell), st.S[a]? = some c → Sound2 st fu c

theorem derefP_prop {st : St} {P : Cell → Prop} (h : ∀ c f, P c → nextC st c = some f → P f) : ∀ (k : Nat) (c : Cell), P c → P (derefP st k c)
  | 0, c, p => p
  | k + 1, c, p => by
    unfold derefP
    cases e : nextC st c with
    | none => exact p
    | some f =>
      dsimp only
      split
      · exact p
      · exact derefP_prop h k f (h c f p e)
theorem next_ok {st : St} {fu : List (Int × Int)} (w : WF2 st fu) {c f : Cell} (hc : CellOk st fu c) (e : nextC st c = some f) : CellOk st fu f := by
  refine ⟨(next_rank w.wf hc.1 e).1, ?_⟩
  unfold nextC at e
  split at e
  · exact w.hs _ _ e
  · split at e
    · exact w.ss _ _ e
    · cases e
theorem der_cell {st : St} {fu : List (Int × Int)} (w : WF2 st fu) {c : Cell} (hc : CellOk st fu c) : CellOk st fu (der st c) := derefP_prop (fun _ _ p e => next_ok w p e) _ _ hc
theorem args_ok {st : St} {fu : List (Int × Int)} (w : WF2 st fu) {c x : Cell} (hx : x ∈ argsP st fu c) : CellOk st fu x := by
  have h1 := List.mem_of_mem_drop (List.mem_of_mem_take hx)
  obtain ⟨i, e⟩ := List.mem_iff_getElem?.mp h1
  exact ⟨(w.wf.heap _ _ e).1, w.hs _ _ e⟩

noncomputable def compound (c : Cell) : Bool := decide (c.1 = 2 ∨ c.1 = 3)
noncomputable def occGo (st : St) (fu : List (Int × Int)) (x : Cell) : Nat → List Cell → List Int → Option Bool
  | 0, _, _ => none
  | _ + 1, [], _ => some false
  | k + 1, t :: w, M => if der st t = x then some true else if (compound (der st t) && !decide ((der st t).2 ∈ M)) = true then occGo st fu x k (argsP st fu (der st t) ++ w) (M ++ [(der st t).2]) else occGo st fu x k w M

section
variable {m : Nat} {σ σ' : AH} {so : Nat} {r : Rc} {st st' : St} {q : Rs} {tx : List PySem.Str} {fu : List (Int × Int)} {wo mo : Nat} {x : Cell}

theorem list_pop {o : Nat} {xs : List V} {u : V} (e : σ[o]? = some (.list (xs ++ [u]))) (hz : o ≠ 0) (hl : xs.length < 900000) : methV σ 1 (.obj o) [] = some (u, σ.set o (.list xs)) := by
  rw [meth_of e]
  simp only [mObj, mList, List.getLast?_append, List.getLast?_singleton, Option.some_or]
  rw [if_pos ⟨hz, by simp; exact Om95 hl⟩]
  simp

noncomputable def occCond : E := (.cmp .gt (.blt 0 (.cons (.loc 4) .nil)) (.kint 0))
noncomputable def occBody : SL := (.cons (.assign (.loc 2) (.callM 8 (.loc 0) (.cons (.meth 1 (.loc 4) .nil) .nil))) (.cons (.ite (.cmp .eq (.loc 2) (.loc 1)) (.cons (.ret (.kbool true)) .nil) .nil) (.cons (.ite (.boolop true (.cons (.callM 14 (.loc 0) (.cons (.loc 2) .nil)) (.cons (.cmp .notIn (.sub (.loc 2) (.kint 1)) (.loc 3)) .nil))) (.cons (.expr (.meth 3 (.loc 3) (.cons (.sub (.loc 2) (.kint 1)) .nil))) (.cons (.expr (.callF 31 (.cons (.loc 0) (.cons (.loc 2) (.cons (.loc 4) .nil))))) .nil)) .nil) .nil)))

structure OccSt (σ : AH) (ρ : En) (so wo mo : Nat) (x : Cell) (w : List Cell) (M : List Int) : Prop where
  r0 : ρ 0 = some (.obj so)
  r1 : ρ 1 = some (cV x)
  r3 : ρ 3 = some (.obj mo)
  r4 : ρ 4 = some (.obj wo)
  w : σ[wo]? = some (.list (w.reverse.map cV))
  m : σ[mo]? = some (.set M)

theorem occ_body (W : Wd σ so r st q tx fu) (F : WF2 st fu) {ρ : En} {t : Cell} {w : List Cell} {M : List Int} (o : OccSt σ ρ so wo mo x (t :: w) M) (ht : CellOk st fu t) (kw : wo ∉ keptL so r q) (km : mo ∉ keptL so r q) (hz : wo ≠ 0) (wl : w.length < 800000) (ml : M.length < 4000) {Q : Fl → En → AH → Prop}
    (q1 : der st t = x → ∀ ρ' σ', Stay [wo, mo] σ σ' → Q (.ret (.bool true)) ρ' σ')
    (q2 : der st t ≠ x → (compound (der st t) && !decide ((der st t).2 ∈ M)) = true → ∀ ρ' σ', Stay [wo, mo] σ σ' → OccSt σ' ρ' so wo mo x (argsP st fu (der st t) ++ w) (M ++ [(der st t).2]) → Q .next ρ' σ')
    (q3 : der st t ≠ x → ¬ (compound (der st t) && !decide ((der st t).2 ∈ M)) = true → ∀ ρ' σ', Stay [wo, mo] σ σ' → OccSt σ' ρ' so wo mo x w M → Q .next ρ' σ') : wSL P2 (callX P2 fns2 (m + 3)) occBody ρ σ Q := by
  have hne : wo ≠ mo := ne_of_get o.w o.m (fun h => nomatch h)
  have hw' : σ[wo]? = some (.list (w.reverse.map cV ++ [cV t])) := by rw [o.w, List.reverse_cons, List.map_append]; rfl
  have hpop := list_pop hw' hz (by rw [List.length_map, List.length_reverse]; exact Om96 wl)
  have s1 : Stay [wo, mo] σ (σ.set wo (.list (w.reverse.map cV))) := .set (.head _)
  have W1 : Wd (σ.set wo (.list (w.reverse.map cV))) so r st q tx fu := W.same (X := [wo]) (.set (.head _)) (on1 kw)
  have hw1 : (σ.set wo (.list (w.reverse.map cV)))[wo]? = some (.list (w.reverse.map cV)) := by rw [set_get, if_pos rfl, if_pos (lt_of_get o.w)]
  have hm1 : (σ.set wo (.list (w.reverse.map cV)))[mo]? = some (.set M) := by rw [set_get, if_neg hne]; exact o.m
  have hc := der_cell F ht
  generalize σ.set wo (.list (w.reverse.map cV)) = τ at hpop s1 W1 hw1 hm1
  refine c_loc (x_M (.loc o.r0) W.v.cl me8 (.one (.meth (.loc o.r4) (list_mok hw').2 .nil hpop)) (deref_ok W1.v F.wf ht.1 ?_))
  refine s_if (.cmp (.loc rfl) (.loc o.r1) cmp_cell) (fun e1 => s_ret .kbool (q1 e1 _ _ s1)) fun e1 => ?_
  refine br_ite (x_and (x_M (.loc o.r0) W1.v.cl me14 (.one (.loc rfl)) (compound_ok ?_)))
  by_cases e2 : (der st t).1 = 2 ∨ (der st t).1 = 3
  · refine br_yes e2 (e_ev (.cmp (.sub (.loc rfl) .kint (tup1 _ _)) (.loc o.r3) (set_out hm1)) ?_)
    by_cases e3 : (der st t).2 ∈ M
    · refine br_no (fun h => h e3) (q3 e1 ?_ _ _ s1 ⟨o.r0, o.r1, o.r3, o.r4, hw1, hm1⟩)
      rw [decide_eq_true e3, Bool.and_comm]; exact Bool.noConfusion
    · have s2 : Stay [wo, mo] σ (τ.set mo (.set (M ++ [(der st t).2]))) := s1.trans (.set (.tail _ (.head _)))
      have W2 : Wd (τ.set mo (.set (M ++ [(der st t).2]))) so r st q tx fu := W1.same (X := [mo]) (.set (.head _)) (on1 km)
      have hw2 : (τ.set mo (.set (M ++ [(der st t).2])))[wo]? = some (.list (w.reverse.map cV)) := by rw [set_get, if_neg (Ne.symm hne)]; exact hw1
      have hm2 : (τ.set mo (.set (M ++ [(der st t).2])))[mo]? = some (.set (M ++ [(der st t).2])) := by rw [set_get, if_pos rfl, if_pos (lt_of_get hm1)]
      refine br_yes e3 (s_expr (.meth (.loc o.r3) (ok_of hm1 rfl) (.one (.sub (.loc rfl) .kint (tup1 _ _))) (set_add hm1 ml e3)) (c_expr (x_F (.cons (.loc o.r0) (.cons (.loc rfl) (.one (.loc o.r4)))) (pushArgs_ok W2 e2 hc.2 hw2 hz (kept5 kw) (by rw [List.length_map, List.length_reverse]; exact Om96 wl) ?_))))
      refine q2 e1 (Bool.and_eq_true_iff.mpr ⟨decide_eq_true e2, by rw [decide_eq_false e3]; rfl⟩) _ _ (s2.trans (.set (.head _))) ⟨o.r0, o.r1, o.r3, o.r4, ?_, ?_⟩
      · rw [set_get, if_pos rfl, if_pos (lt_of_get hw2), List.reverse_append, List.map_append]
      · rw [set_get, if_neg hne]; exact hm2
  · exact br_no e2 (br_f (q3 e1 (fun h => e2 (of_decide_eq_true (Bool.and_eq_true_iff.mp h).1)) _ _ s1 ⟨o.r0, o.r1, o.r3, o.r4, hw1, hm1⟩))
end

end Mine
end

/-! D9 -/
noncomputable section
set_option maxHeartbeats 200000
open PySem
namespace Mine

theorem nodup_bound : ∀ (n : Nat) (l : List Int), l.Nodup → (∀ x ∈ l, 0 ≤ x ∧ x < n) → l.length ≤ n
  | 0, l, _, h => by
    cases l with
    | nil => simp
    | cons x l => have := h x (.head _); exact Om97 this
  | n + 1, l, nd, h => by
    by_cases m : (n : Int) ∈ l
    · have h1 := nodup_bound n (l.erase n) (nd.erase _) fun x hx => by
        have h2 := (nd.mem_erase_iff).mp hx
        have h3 := h x h2.2
        have := h2.1
        exact Om98 h3 this
      rw [List.length_erase_of_mem m] at h1
      exact Om99 h1
    · have := nodup_bound n l nd fun x hx => by
        have h3 := h x hx
        have : x ≠ n := fun e => m (e ▸ hx)
        exact Om98 h3 this
      exact Om34 this

section
variable {m : Nat} {σ σ' : AH} {so : Nat} {r : Rc} {st st' : St} {q : Rs} {tx : List PySem.Str} {fu : List (Int × Int)} {wo mo : Nat} {x : Cell}

theorem compound_iff {c : Cell} : compound c = true ↔ c.1 = 2 ∨ c.1 = 3 := by unfold compound; simp
theorem args_len (st : St) (fu : List (Int × Int)) (c : Cell) : (argsP st fu c).length ≤ widthP st fu c := by unfold argsP; rw [List.length_take]; omega

structure OccInv (st : St) (fu : List (Int × Int)) (w : List Cell) (M : List Int) : Prop where
  ok : ∀ c ∈ w, CellOk st fu c
  nd : M.Nodup
  bd : ∀ y ∈ M, 0 ≤ y ∧ y < st.H.length
theorem OccInv.tail {t : Cell} {w : List Cell} {M : List Int} (o : OccInv st fu (t :: w) M) : OccInv st fu w M := ⟨fun c h => o.ok c (.tail _ h), o.nd, o.bd⟩
theorem OccInv.push {t : Cell} {w : List Cell} {M : List Int} (F : WF2 st fu) (o : OccInv st fu (t :: w) M) (hc : compound (der st t) = true) (hm : ¬ (der st t).2 ∈ M) : OccInv st fu (argsP st fu (der st t) ++ w) (M ++ [(der st t).2]) := by
  have hd := der_cell F (o.ok t (.head _))
  refine ⟨fun c h => ?_, ?_, fun y h => ?_⟩
  · rcases List.mem_append.mp h with h | h
    · exact args_ok F h
    · exact o.ok c (.tail _ h)
  · rw [List.nodup_append]
    exact ⟨o.nd, by simp, fun a ha b hb => by simp at hb; subst hb; exact fun e => hm (e ▸ ha)⟩
  · rcases List.mem_append.mp h with h | h
    · exact o.bd y h
    · simp at h; subst h
      obtain ⟨a, b⟩ := hd.2.sound (compound_iff.mp hc)
      exact Om100 a b

set_option tactic.hygienic true in
theorem occ_total (F : WF2 st fu) (hl : st.H.length < 60) : ∀ (n : Nat) (w : List Cell) (M : List Int), w.length + 100 * (60 - M.length) ≤ n → OccInv st fu w M → ∃ b, occGo st fu x (n + 1) w M = some b
  | n, [], M, _, _ => ⟨false, rfl⟩
  | 0, t :: w, M, h, o => by simp at h
  | n + 1, t :: w, M, h, o => by
    show ∃ b, (if der st t = x then some true else if compound (der st t) && !decide ((der st t).2 ∈ M) then occGo st fu x (n + 1) (argsP st fu (der st t) ++ w) (M ++ [(der st t).2]) else occGo st fu x (n + 1) w M) = some b
    split
    · exact ⟨true, rfl⟩
    · split
      · rename_i hc
        obtain ⟨h1, h2⟩ := Bool.and_eq_true_iff.mp hc
        have o' := o.push F h1 (by simpa using h2)
        have hb := nodup_bound st.H.length _ o'.nd o'.bd
        have hf := (der_cell F (o.ok t (.head _))).2.fits (compound_iff.mp h1)
        have ha := args_len st fu (der st t)
        refine occ_total F hl n _ _ ?_ o'
        simp only [List.length_append, List.length_cons, List.length_nil] at hb h ⊢
        exact Om101 hl h hf ha hb
      · refine occ_total F hl n _ _ ?_ o.tail
        simp only [List.length_cons] at h
        exact Om102 h

noncomputable def occP (st : St) (fu : List (Int × Int)) (x c : Cell) : Bool := if der st c = x then true else if x.1 = 1 ∨ compound (der st c) = false then false else (occGo st fu x 6101 [der st c] []).getD false

theorem occ_loop (F : WF2 st fu) (kw : wo ∉ keptL so r q) (km : mo ∉ keptL so r q) (hz : wo ≠ 0) {Q : Fl → En → AH → Prop} {b : Bool} : ∀ (k : Nat) (w : List Cell) (M : List Int) (σ : AH) (ρ : En), occGo st fu x k w M = some b → Wd σ so r st q tx fu → OccInv st fu w M → OccSt σ ρ so wo mo x w M → w.length + 100 * (60 - M.length) ≤ 6100 →
    (∀ ρ' σ', Stay [wo, mo] σ σ' → if b = true then Q (.ret (.bool true)) ρ' σ' else Q .next ρ' σ') → whileGo (wE P2 (callX P2 fns2 (m + 3)) occCond) (wSL P2 (callX P2 fns2 (m + 3)) occBody) k ρ σ Q
  | 0, w, M, σ, ρ, e, _, _, _, _, _ => by cases e
  | k + 1, [], M, σ, ρ, e, W, i, o, bd, qq => by
    cases e
    exact w_end (.cmp (.blt (.one (.loc o.r4)) (list_len o.w (by decide))) .kint rfl) (qq ρ σ (.refl _ _))
  | k + 1, t :: w, M, σ, ρ, e, W, i, o, bd, qq => by
    rw [List.length_cons] at bd
    have hml := nodup_bound st.H.length M i.nd i.bd
    have hHl := W.v.hl
    have kk : ∀ i ∈ [wo, mo], i ∉ keptL so r q := List.forall_mem_cons.mpr ⟨kw, on1 km⟩
    have hb : cmpV σ .gt (.int ((t :: w).reverse.map cV).length) (.int 0) = some true := by
      rw [List.length_map, List.length_reverse, List.length_cons]
      exact congrArg some (decide_eq_true (Int.natCast_pos.mpr (Nat.succ_pos _)))
    refine w_go (.cmp (.blt (.one (.loc o.r4)) (list_len o.w (by rw [List.length_map, List.length_reverse, List.length_cons]; exact Om103 bd))) .kint hb) (occ_body W F o (i.ok t (.head _)) kw km hz (by exact Om104 bd) (by exact Om105 hml hHl) (fun h1 => ?_) (fun h1 h2 => ?_) fun h1 h2 => ?_)
    · have e := (if_pos h1).symm.trans e
      cases e
      exact fun ρ' σ' s => qq ρ' σ' s
    · have e := ((if_neg h1).trans (if_pos h2)).symm.trans e
      intro ρ' σ' s o'
      obtain ⟨h3, h4⟩ := Bool.and_eq_true_iff.mp h2
      have i' := i.push F h3 (by simpa using h4)
      have hb := nodup_bound st.H.length _ i'.nd i'.bd
      have hf := (der_cell F (i.ok t (.head _))).2.fits (compound_iff.mp h3)
      have ha := args_len st fu (der st t)
      refine occ_loop F kw km hz k _ _ σ' ρ' e (W.same s kk) i' o' ?_ fun ρ'' σ'' s' => qq ρ'' σ'' (s.trans s')
      rw [List.length_append, List.length_singleton] at hb
      rw [List.length_append, List.length_append, List.length_singleton]
      exact Om106 bd hHl hb hf ha
    · have e := ((if_neg h1).trans (if_neg h2)).symm.trans e
      exact fun ρ' σ' s o' => occ_loop F kw km hz k _ _ σ' ρ' e (W.same s kk) i.tail o' (by exact Om107 bd) fun ρ'' σ'' s' => qq ρ'' σ'' (s.trans s')

theorem kept_lt (W : Wd σ so r st q tx fu) : ∀ i ∈ keptL so r q, i < σ.length := List.forall_mem_cons.mpr ⟨lt_of_get W.v.inst, List.forall_mem_cons.mpr ⟨lt_of_get W.v.ns, List.forall_mem_cons.mpr ⟨lt_of_get W.v.h, List.forall_mem_cons.mpr ⟨lt_of_get W.v.s, List.forall_mem_cons.mpr ⟨lt_of_get W.v.t, W.y.lt⟩⟩⟩⟩⟩
theorem above_kept (W : Wd σ so r st q tx fu) {i : Nat} (h : σ.length ≤ i) : i ∉ keptL so r q := fun z => by have := kept_lt W i z; exact Om70 h this

theorem occ_ok (W : Wd σ so r st q tx fu) (F : WF2 st fu) {c : Cell} (hc : CellOk st fu c) {Q : V → AH → Prop} (qq : ∀ σ', Stay [] σ σ' → Q (.bool (occP st fu x c)) σ') : callN P2 fns2 (m + 4) 38 [.obj so, cV x, cV c] σ Q := by
  have k : ∀ {y}, occP st fu x c = y → Q (.bool y) σ := fun h => h ▸ qq σ (.refl _ _)
  have hd := der_cell F hc
  refine call_of (fn := f_occurs_in) rfl rfl (c_loc (x_M (.loc rfl) W.v.cl me8 (.one (.loc rfl)) (deref_ok W.v F.wf hc.1 (s_if (.cmp (.loc rfl) (.loc rfl) cmp_cell) (fun e1 => s_ret .kbool (k (if_pos e1))) fun e1 => ?_))))
  by_cases e2 : x.1 = 1
  · exact br_ite (b_stop (.cmp (.sub (.loc rfl) .kint (tup0 _ _)) (.glob g1) (cmp_int.trans (congrArg some (decide_eq_true e2)))) Bool.noConfusion (br_t (s_ret .kbool (k ((if_neg e1).trans (if_pos (.inl e2)))))))
  refine br_ite (b_go (.cmp (.sub (.loc rfl) .kint (tup0 _ _)) (.glob g1) (cmp_int.trans (congrArg some (decide_eq_false e2)))) (x_nt (x_M (.loc rfl) W.v.cl me14 (.one (.loc rfl)) (compound_ok ?_))))
  by_cases e3 : (der st c).1 = 2 ∨ (der st c).1 = 3
  · rw [decide_eq_true e3]
    have W2 := (W.nil (Stay.app [.set []])).nil (Stay.app [.list [cV (der st c)]])
    have i0 : OccInv st fu [der st c] [] := ⟨fun y h => List.mem_singleton.mp h ▸ hd, .nil, nofun⟩
    obtain ⟨b, hb⟩ := occ_total (x := x) F W.v.hl 6100 [der st c] [] (Nat.le_of_ble_eq_true rfl) i0
    have hP : occP st fu x c = b := (if_neg e1).trans ((if_neg (not_or.mpr ⟨e2, fun h => nomatch h.symm.trans (compound_iff.mpr e3)⟩)).trans (by rw [hb]; rfl))
    rw [hP] at qq
    have hl : (σ ++ [AObj.set []]).length = σ.length + 1 := by rw [List.length_append]; rfl
    refine nt_t (br_f (s_loc (.blt .nil (blt3 _)) (s_loc (.list (.one (.loc rfl))) ⟨6101, occ_loop (wo := (σ ++ [AObj.set []]).length) (mo := σ.length) F (above_kept W (by exact Om108 hl)) (above_kept W (Nat.le_refl _)) (by exact Om109 hl) 6101 [der st c] [] _ _ hb W2 i0 ⟨rfl, rfl, rfl, rfl, snoc_get, app_get snoc_get⟩ (Nat.le_of_ble_eq_true rfl) fun ρ' σ' s => ?_⟩)))
    have s2 : Stay [] σ σ' := (((Stay.app [.set []]).trans (.app [.list [cV (der st c)]])).trans s).strong fun i hi => .inr ((List.mem_cons.mp hi).elim (fun h => by exact Om110 hl h) fun h => Nat.le_of_eq (List.mem_singleton.mp h).symm)
    have := qq σ' s2
    cases b with
    | true => exact this
    | false => exact s_ret .kbool this
  · rw [decide_eq_false e3]
    exact nt_f (br_t (s_ret .kbool (k ((if_neg e1).trans (if_pos (.inr (decide_eq_false e3)))))))

noncomputable def occB (occ : Bool) (st : St) (fu : List (Int × Int)) (x c : Cell) : Bool := occ && occP st fu x c
theorem bindc_ok (W : Wd σ so r st q tx fu) (F : WF2 st fu) {c : Cell} (hc : CellOk st fu c) (hx : isV x) (vx : Valid st x) (tl : st.T.length < 890000) {occ : Bool} {Q : V → AH → Prop}
    (qq : if occB occ st fu x c = true then ∀ σ', Stay [] σ σ' → Q (.bool false) σ' else ∀ σ', Wd σ' so r (bindP st x c) q tx fu → Stay [r.h, r.s, r.t] σ σ' → Q (.bool true) σ') :
    callN P2 fns2 (m + 5) 36 [.obj so, cV x, cV c, .bool occ] σ Q := by
  refine call_of (fn := f_bind_checked) rfl rfl ?_
  have fin : ∀ (σ₁ : AH), Stay [] σ σ₁ → (∀ σ', Wd σ' so r (bindP st x c) q tx fu → Stay [r.h, r.s, r.t] σ σ' → Q (.bool true) σ') → callN P2 fns2 (m + 4) 16 [.obj so, cV x, cV c] σ₁ fun _ τ => Q (.bool true) τ := fun σ₁ s h =>
    bind_ok (W.nil s).v hx vx tl fun σ' a b d => h σ' ((W.nil s).turn a b) (s.nil.trans b)
  cases occ with
  | false => exact br_ite (b_stop (.loc rfl) Bool.noConfusion (br_f (c_expr (x_M (.loc rfl) W.v.cl me9 (.cons (.loc rfl) (.one (.loc rfl))) (fin σ (.refl _ _) qq)))))
  | true =>
    refine br_ite (b_go (.loc rfl) (x_F (.cons (.loc rfl) (.cons (.loc rfl) (.one (.loc rfl)))) (occ_ok W F hc fun σ₁ s => ?_)))
    rw [show occB true st fu x c = occP st fu x c from rfl] at qq
    cases h : occP st fu x c with
    | false => rw [h] at qq; exact br_f (c_expr (x_M (.loc rfl) (W.nil s).v.cl me9 (.cons (.loc rfl) (.one (.loc rfl))) (fin σ₁ s qq)))
    | true => rw [h] at qq; exact br_t (s_ret .kbool (qq σ₁ s))
end

end Mine
end

/-! D10 -/
noncomputable section
set_option maxHeartbeats 200000
open PySem
namespace Mine

section
variable {st : St} {fu : List (Int × Int)} {x v c : Cell}

theorem bind_HL (st : St) (x v : Cell) : (bindP st x v).H.length = st.H.length := by unfold bindP; dsimp only; split <;> simp
theorem bind_SL (st : St) (x v : Cell) : (bindP st x v).S.length = st.S.length := by unfold bindP; dsimp only; split <;> simp
theorem bind_TL (st : St) (x v : Cell) : (bindP st x v).T.length ≤ st.T.length + 1 := by
  show (if (if x.1 = 0 then x.2 < st.hb else x.2 < st.bb) then st.T ++ [entry x] else st.T).length ≤ _
  split <;> split <;> simp
theorem bind_valid (h : Valid st c) : Valid (bindP st x v) c := by unfold Valid; rw [bind_HL, bind_SL]; exact h
theorem bind_H (st : St) (x v : Cell) (a : Nat) : (bindP st x v).H[a]? = if x.1 = 0 ∧ x.2.toNat = a ∧ a < st.H.length then some v else st.H[a]? := by
  unfold bindP
  dsimp only
  by_cases h : x.1 = 0
  · rw [if_pos h, List.getElem?_set]
    by_cases h2 : x.2.toNat = a
    · subst h2
      by_cases h3 : x.2.toNat < st.H.length
      · simp [h, h3]
      · simp [h, h3]
    · simp [h2]
  · simp [h]
theorem bind_S (st : St) (x v : Cell) (a : Nat) : (bindP st x v).S[a]? = if x.1 ≠ 0 ∧ x.2.toNat = a ∧ a < st.S.length then some v else st.S[a]? := by
  unfold bindP
  dsimp only
  by_cases h : x.1 = 0
  · simp [h]
  · rw [if_neg h, List.getElem?_set]
    by_cases h2 : x.2.toNat = a
    · subst h2
      by_cases h3 : x.2.toNat < st.S.length
      · simp [h, h3]
      · simp [h, h3]
    · simp [h2]
/-- an unbound place holds no functor -/
theorem bind_sound (hu : nextC st x = some x) (h : Sound2 st fu c) : Sound2 (bindP st x v) fu c := by
  refine ⟨fun t => ?_, fun t => ?_⟩
  · obtain ⟨a, f, b, n, e, r⟩ := h.1 t
    refine ⟨a, f, b, n, ?_, by rw [bind_HL]; exact r⟩
    rw [bind_H, if_neg ?_]
    · exact e
    · rintro ⟨h1, h2, h3⟩
      unfold nextC at hu
      rw [if_pos h1, h2, e] at hu
      have := Option.some.inj hu
      rw [← this] at h1
      exact absurd (show (6 : Int) = 0 from h1) (by decide)
  · obtain ⟨a, b⟩ := h.2 t
    exact ⟨a, by rw [bind_HL]; exact b⟩
theorem bind_cell (hu : nextC st x = some x) (h : CellOk st fu c) : CellOk (bindP st x v) fu c := ⟨bind_valid h.1, bind_sound hu h.2⟩
set_option tactic.hygienic true in
theorem bind_wf (F : WF2 st fu) (hx : isV x) (hu : nextC st x = some x) (vx : Valid st x) (hv : CellOk st fu v) (h0 : x.1 = 0 → v.1 ≠ 1 ∧ (v.1 = 0 → v.2 ≤ x.2)) (h1 : x.1 = 1 → v.1 = 1 → v.2 ≤ x.2) : WF2 (bindP st x v) fu := by
  refine ⟨⟨fun a c e => ?_, fun a c e => ?_⟩, fun a c e => ?_, fun a c e => ?_⟩
  · rw [bind_H] at e
    split at e
    · rename_i h
      cases e
      obtain ⟨k1, k2⟩ := h0 h.1
      have := (vx.1 h.1).1
      exact ⟨bind_valid hv.1, k1, fun t => by have := k2 t; omega⟩
    · obtain ⟨k1, k2⟩ := F.wf.heap a c e
      exact ⟨bind_valid k1, k2⟩
  · rw [bind_S] at e
    split at e
    · rename_i h
      cases e
      have h2 : x.1 = 1 := hx.resolve_left h.1
      have := (vx.2 h2).1
      exact ⟨bind_valid hv.1, fun t => by have := h1 h2 t; omega⟩
    · obtain ⟨k1, k2⟩ := F.wf.stack a c e
      exact ⟨bind_valid k1, k2⟩
  · rw [bind_H] at e
    split at e
    · cases e; exact bind_sound hu hv.2
    · exact bind_sound hu (F.hs a c e)
  · rw [bind_S] at e
    split at e
    · cases e; exact bind_sound hu hv.2
    · exact bind_sound hu (F.ss a c e)

/-- what a deref gives -/
structure Res (st : St) (fu : List (Int × Int)) (d : Cell) : Prop where
  ok : CellOk st fu d
  un : isV d → nextC st d = some d
theorem der_res (F : WF2 st fu) (h : CellOk st fu c) : Res st fu (der st c) := by
  refine ⟨der_cell F h, fun hv => ?_⟩
  obtain ⟨a, b⟩ := der_end F.wf h.1
  refine b.resolve_left fun e => ?_
  unfold nextC at e
  rcases hv with t | t
  · rw [if_pos t, List.getElem?_eq_none_iff] at e
    have := (a.1 t).2; exact Om111 e this
  · rw [if_neg (by rw [t]; decide), if_pos t, List.getElem?_eq_none_iff] at e
    have := (a.2 t).2; exact Om111 e this

theorem pairP_cases (F : WF2 st fu) {a b : Cell} (hne : a ≠ b) (ha : isV a) (hb : isV b) (ra : Res st fu a) (rb : Res st fu b) : ∃ x v, pairP st a b = bindP st x v ∧ isV x ∧ nextC st x = some x ∧ Valid st x ∧ CellOk st fu v ∧ (x.1 = 0 → v.1 ≠ 1 ∧ (v.1 = 0 → v.2 ≤ x.2)) ∧ (x.1 = 1 → v.1 = 1 → v.2 ≤ x.2) := by
  unfold pairP
  rw [if_neg hne]
  by_cases e : a.1 = b.1
  · rw [if_pos e]
    by_cases l : a.2 < b.2
    · rw [if_pos l]
      exact ⟨b, a, rfl, hb, rb.un hb, rb.ok.1, ra.ok, fun t => ⟨by rw [e, t]; decide, fun _ => by exact Om112 l⟩, fun _ _ => by exact Om112 l⟩
    · rw [if_neg l]
      exact ⟨a, b, rfl, ha, ra.un ha, ra.ok.1, rb.ok, fun t => ⟨by rw [← e, t]; decide, fun _ => by exact Om113 l⟩, fun _ _ => by exact Om113 l⟩
  · rw [if_neg e]
    by_cases t : a.1 = 1
    · rw [if_pos t]
      exact ⟨a, b, rfl, ha, ra.un ha, ra.ok.1, rb.ok, fun t' => by exact Om114 t t', fun _ t' => absurd (t.trans t'.symm) e⟩
    · rw [if_neg t]
      have a0 : a.1 = 0 := ha.resolve_right t
      have b1 : b.1 = 1 := hb.resolve_left fun z => e (a0.trans z.symm)
      exact ⟨b, a, rfl, hb, rb.un hb, rb.ok.1, ra.ok, fun t' => by exact Om114 b1 t', fun _ t' => by exact Om115 a0 t'⟩
end

theorem num_inj {a b c d s : Int} (h0 : 0 ≤ b) (h1 : b < s) (h2 : 0 ≤ d) (h3 : d < s) (e : a * s + b = c * s + d) : a = c ∧ b = d := by
  have e1 : (a * s + b) % s = b := by rw [Int.add_comm, Int.add_mul_emod_self_right]; exact Int.emod_eq_of_lt h0 h1
  have e2 : (c * s + d) % s = d := by rw [Int.add_comm, Int.add_mul_emod_self_right]; exact Int.emod_eq_of_lt h2 h3
  have hb : b = d := by rw [← e1, e, e2]
  subst hb
  have : a * s = c * s := by exact Om116 e
  exact ⟨Int.eq_of_mul_eq_mul_right (by exact Om117 h0 h1 e1 e2) this, rfl⟩
noncomputable def numOf (span : Int) (p : Int × Int) : Int := p.1 * span + p.2
noncomputable def uStep (fu : List (Int × Int)) (occ : Bool) (st : St) (a b : Cell) (w : List (Cell × Cell)) (M : List (Int × Int)) : Option (St × List (Cell × Cell) × List (Int × Int)) :=
  if der st a = der st b then some (st, w, M)
  else if isV (der st a) then
    (if isV (der st b) then some (pairP st (der st a) (der st b), w, M)
     else if occB occ st fu (der st a) (der st b) = true then none else some (bindP st (der st a) (der st b), w, M))
  else if isV (der st b) then (if occB occ st fu (der st b) (der st a) = true then none else some (bindP st (der st b) (der st a), w, M))
  else if (compound (der st a) && shape st (der st a) (der st b)) = true then
    (if ((der st a).2, (der st b).2) ∈ M then some (st, w, M) else some (st, (argsP st fu (der st a)).zip (argsP st fu (der st b)) ++ w, M ++ [((der st a).2, (der st b).2)]))
  else none
noncomputable def uniGo (fu : List (Int × Int)) (occ : Bool) : Nat → St → List (Cell × Cell) → List (Int × Int) → Option (Bool × St)
  | 0, _, _, _ => none
  | _ + 1, st, [], _ => some (true, st)
  | k + 1, st, (a, b) :: w, M => match uStep fu occ st a b w M with
    | none => some (false, st)
    | some z => uniGo fu occ k z.1 z.2.1 z.2.2
theorem uni_no {fu : List (Int × Int)} {occ : Bool} {k : Nat} {st : St} {a b : Cell} {w : List (Cell × Cell)} {M : List (Int × Int)} (h : uStep fu occ st a b w M = none) : uniGo fu occ (k + 1) st ((a, b) :: w) M = some (false, st) := by
  show (match uStep fu occ st a b w M with | none => some (false, st) | some z => uniGo fu occ k z.1 z.2.1 z.2.2) = _
  rw [h]
theorem uni_go {fu : List (Int × Int)} {occ : Bool} {k : Nat} {st : St} {a b : Cell} {w : List (Cell × Cell)} {M : List (Int × Int)} {z : St × List (Cell × Cell) × List (Int × Int)} (h : uStep fu occ st a b w M = some z) : uniGo fu occ (k + 1) st ((a, b) :: w) M = uniGo fu occ k z.1 z.2.1 z.2.2 := by
  show (match uStep fu occ st a b w M with | none => some (false, st) | some z => uniGo fu occ k z.1 z.2.1 z.2.2) = _
  rw [h]

section
variable {m : Nat} {σ σ' : AH} {so : Nat} {r : Rc} {st st' : St} {q : Rs} {tx : List PySem.Str} {fu : List (Int × Int)} {wo po pd mo : Nat}

noncomputable def uniCond : E := (.cmp .gt (.blt 0 (.cons (.loc 5) .nil)) (.kint 0))
noncomputable def uniBody : SL := (.cons (.assign (.tup [6, 7]) (.meth 1 (.loc 5) .nil)) (.cons (.assign (.loc 6) (.callM 8 (.loc 0) (.cons (.loc 6) .nil))) (.cons (.assign (.loc 7) (.callM 8 (.loc 0) (.cons (.loc 7) .nil))) (.cons (.ite (.cmp .eq (.loc 6) (.loc 7)) (.cons .cont .nil) .nil) (.cons (.ite (.callF 34 (.cons (.loc 6) .nil)) (.cons (.ite (.callF 34 (.cons (.loc 7) .nil)) (.cons (.expr (.callM 10 (.loc 0) (.cons (.loc 6) (.cons (.loc 7) .nil)))) .nil) (.cons (.ite (.not (.callF 36 (.cons (.loc 0) (.cons (.loc 6) (.cons (.loc 7) (.cons (.loc 3) .nil)))))) (.cons (.ret (.kbool false)) .nil) .nil) .nil)) .nil) (.cons (.ite (.callF 34 (.cons (.loc 7) .nil)) (.cons (.ite (.not (.callF 36 (.cons (.loc 0) (.cons (.loc 7) (.cons (.loc 6) (.cons (.loc 3) .nil)))))) (.cons (.ret (.kbool false)) .nil) .nil) .nil) (.cons (.ite (.boolop true (.cons (.callM 14 (.loc 0) (.cons (.loc 6) .nil)) (.cons (.callF 33 (.cons (.loc 0) (.cons (.loc 6) (.cons (.loc 7) .nil)))) .nil))) (.cons (.ite (.callM 22 (.loc 4) (.cons (.loc 6) (.cons (.loc 7) .nil))) (.cons (.expr (.callF 32 (.cons (.loc 0) (.cons (.loc 6) (.cons (.loc 7) (.cons (.loc 5) .nil)))))) .nil) .nil) .nil) (.cons (.ret (.kbool false)) .nil)) .nil)) .nil)) .nil)))))

structure UniSt (σ : AH) (ρ : En) (so wo po pd mo : Nat) (span : Int) (occ : Bool) (w : List (Cell × Cell)) (M : List (Int × Int)) : Prop where
  r0 : ρ 0 = some (.obj so)
  r3 : ρ 3 = some (.bool occ)
  r4 : ρ 4 = some (.obj po)
  r5 : ρ 5 = some (.obj wo)
  w : σ[wo]? = some (.list (w.reverse.map pV))
  m : MetView σ po pd mo span (M.map (numOf span))

/-- what a turn may do to the store -/
noncomputable def storeL (r : Rc) (wo mo : Nat) : List Nat := [r.h, r.s, r.t, wo, mo]

theorem kept3 {i : Nat} (h : i ∉ keptL so r q) : i ∉ [r.h, r.s, r.t] := fun z => h (.tail _ (.tail _ (List.mem_append_left (bs := [r.sy, q.d, q.tx, q.an, q.fu, q.fn]) z)))
theorem st3 : ∀ i ∈ [r.h, r.s, r.t], i ∈ storeL r wo mo := fun i h => List.mem_append_left (bs := [wo, mo]) h
theorem st_wo : wo ∈ storeL r wo mo := .tail _ (.tail _ (.tail _ (.head _)))
theorem st_mo : mo ∈ storeL r wo mo := .tail _ (.tail _ (.tail _ (.tail _ (.head _))))
/-- what stands apart from the store -/
structure UOff (so : Nat) (r : Rc) (q : Rs) (wo po pd mo : Nat) : Prop where
  w : wo ∉ keptL so r q
  p : po ∉ keptL so r q
  d : pd ∉ keptL so r q
  m : mo ∉ keptL so r q
  z : wo ≠ 0
  wp : wo ≠ po
  wd : wo ≠ pd
noncomputable def Go (Q : Fl → En → AH → Prop) (so : Nat) (r : Rc) (q : Rs) (tx : List PySem.Str) (fu : List (Int × Int)) (wo po pd mo : Nat) (span : Int) (occ : Bool) (σ : AH) (f : Fl) (X : St) (w : List (Cell × Cell)) (M : List (Int × Int)) : Prop := ∀ ρ' σ', Wd σ' so r X q tx fu → Stay (storeL r wo mo) σ σ' → UniSt σ' ρ' so wo po pd mo span occ w M → Q f ρ' σ'
noncomputable def GoF (Q : Fl → En → AH → Prop) (so : Nat) (r : Rc) (q : Rs) (tx : List PySem.Str) (fu : List (Int × Int)) (wo mo : Nat) (σ : AH) (X : St) : Prop := ∀ ρ' σ', Wd σ' so r X q tx fu → Stay (storeL r wo mo) σ σ' → Q (.ret (.bool false)) ρ' σ'
theorem shape_tag {a b : Cell} (hs : shape st a b = true) : a.1 = b.1 := by
  by_cases h : a.1 = b.1
  · exact h
  · rw [shape, if_pos h] at hs; cases hs
theorem num_mem {span : Int} {M : List (Int × Int)} {n : Nat} {x y : Int} (hM : ∀ p ∈ M, 0 ≤ p.1 ∧ p.1 < (n : Int) ∧ 0 ≤ p.2 ∧ p.2 < (n : Int)) (hsp : span = n + 1) (b0 : 0 ≤ y) (b1 : y.toNat < n) : x * span + y ∈ M.map (numOf span) ↔ (x, y) ∈ M := by
  rw [List.mem_map]
  constructor
  · rintro ⟨p, hp, e⟩
    obtain ⟨k0, k1, k2, k3⟩ := hM p hp
    obtain ⟨z1, z2⟩ := num_inj (a := p.1) (c := x) k2 (by exact Om118 hsp k3) b0 (by exact Om119 hsp b0 b1 e) e
    have : p = (x, y) := Prod.ext z1 z2
    rw [← this]; exact hp
  · intro h; exact ⟨_, h, rfl⟩

theorem uni_body (W : Wd σ so r st q tx fu) (F : WF2 st fu) {ρ : En} {a b : Cell} {w : List (Cell × Cell)} {M : List (Int × Int)} {occ : Bool} {span : Int} (o : UniSt σ ρ so wo po pd mo span occ ((a, b) :: w) M) (ha : CellOk st fu a) (hb : CellOk st fu b)
    (kk : UOff so r q wo po pd mo) (hsp : span = st.H.length + 1) (hM : ∀ p ∈ M, 0 ≤ p.1 ∧ p.1 < st.H.length ∧ 0 ≤ p.2 ∧ p.2 < st.H.length) (tl : st.T.length < 890000) (wl : w.length < 800000) (ml : M.length < 4000) {Q : Fl → En → AH → Prop}
    (qc : ∀ ρ' σ', Q .next ρ' σ' → Q .cont ρ' σ') (qn : uStep fu occ st a b w M = none → GoF Q so r q tx fu wo mo σ st)
    (qs : ∀ z, uStep fu occ st a b w M = some z → Go Q so r q tx fu wo po pd mo span occ σ .next z.1 z.2.1 z.2.2) : wSL P2 (callX P2 fns2 (m + 5)) uniBody ρ σ Q := by
  have hw' : σ[wo]? = some (.list (w.reverse.map pV ++ [pV (a, b)])) := by rw [o.w, List.reverse_cons, List.map_append]; rfl
  have Ra := der_res F ha
  have Rb := der_res F hb
  have hwm : wo ≠ mo := ne_of_get o.w o.m.met (fun h => nomatch h)
  have W1 : Wd (σ.set wo (.list (w.reverse.map pV))) so r st q tx fu := W.same (X := [wo]) (.set (.head _)) (on1 kk.w)
  have hw1 : (σ.set wo (.list (w.reverse.map pV)))[wo]? = some (.list (w.reverse.map pV)) := by rw [set_get, if_pos rfl, if_pos (lt_of_get o.w)]
  have hm1 : MetView (σ.set wo (.list (w.reverse.map pV))) po pd mo span (M.map (numOf span)) := o.m.same (X := [wo]) (.set (.head _)) (no1 (Ne.symm kk.wp)) (no1 (Ne.symm kk.wd)) (no1 (Ne.symm hwm))
  have s1 : Stay (storeL r wo mo) σ (σ.set wo (.list (w.reverse.map pV))) := .set st_wo
  refine s_tup (.meth (.loc o.r5) (list_mok hw').2 .nil (list_pop hw' kk.z (by rw [List.length_map, List.length_reverse]; exact Om96 wl))) rfl ?_
  generalize σ.set wo (.list (w.reverse.map pV)) = τ at W1 hw1 hm1 s1 ⊢
  refine c_loc (x_M (.loc o.r0) W1.v.cl me8 (.one (.loc rfl)) (deref_ok W1.v F.wf ha.1 ?_))
  refine c_loc (x_M (.loc o.r0) W1.v.cl me8 (.one (.loc rfl)) (deref_ok W1.v F.wf hb.1 ?_))
  have mk : ∀ {τ' : AH}, Stay [r.h, r.s, r.t] τ τ' → UniSt τ' ((((ρ.put 6 (cV a)).put 7 (cV b)).put 6 (cV (der st a))).put 7 (cV (der st b))) so wo po pd mo span occ w M := fun s => ⟨o.r0, o.r3, o.r4, o.r5, s.get _ _ (kept3 kk.w) hw1, hm1.same s (kept3 kk.p) (kept3 kk.d) (kept3 kk.m)⟩
  refine s_if (.cmp (.loc rfl) (.loc rfl) cmp_cell) (fun e1 => s_cont (qc _ _ (qs _ (if_pos e1) _ _ W1 s1 (mk (.refl _ _))))) fun e1 => ?_
  refine br_ite (x_F (.one (.loc rfl)) (variable_ok ?_))
  by_cases va : isV (der st a)
  · refine br_yes va (br_ite (x_F (.one (.loc rfl)) (variable_ok ?_)))
    by_cases vb : isV (der st b)
    · exact br_yes vb (c_expr (x_M (.loc o.r0) W1.v.cl me10 (.cons (.loc rfl) (.one (.loc rfl))) (pair_ok W1.v va vb Ra.ok.1 Rb.ok.1 tl fun σ₁ v s l => qs _ ((if_neg e1).trans ((if_pos va).trans (if_pos vb))) _ σ₁ (W1.turn v s) (s1.trans (s.weak st3)) (mk s))))
    · refine br_no vb (x_not (x_F (.cons (.loc o.r0) (.cons (.loc rfl) (.cons (.loc rfl) (.one (.loc o.r3))))) (bindc_ok W1 F Rb.ok va Ra.ok.1 tl ?_)))
      by_cases ho : occB occ st fu (der st a) (der st b) = true
      · rw [if_pos ho]
        exact fun σ₁ s => br_t (s_ret .kbool (qn ((if_neg e1).trans ((if_pos va).trans ((if_neg vb).trans (if_pos ho)))) _ σ₁ (W1.nil s) (s1.trans s.nil)))
      · rw [if_neg ho]
        exact fun σ₁ W' s => br_f (qs _ ((if_neg e1).trans ((if_pos va).trans ((if_neg vb).trans (if_neg ho)))) _ σ₁ W' (s1.trans (s.weak st3)) (mk s))
  · refine br_no va (br_ite (x_F (.one (.loc rfl)) (variable_ok ?_)))
    by_cases vb : isV (der st b)
    · refine br_yes vb (x_not (x_F (.cons (.loc o.r0) (.cons (.loc rfl) (.cons (.loc rfl) (.one (.loc o.r3))))) (bindc_ok W1 F Ra.ok vb Rb.ok.1 tl ?_)))
      by_cases ho : occB occ st fu (der st b) (der st a) = true
      · rw [if_pos ho]
        exact fun σ₁ s => br_t (s_ret .kbool (qn ((if_neg e1).trans ((if_neg va).trans ((if_pos vb).trans (if_pos ho)))) _ σ₁ (W1.nil s) (s1.trans s.nil)))
      · rw [if_neg ho]
        exact fun σ₁ W' s => br_f (qs _ ((if_neg e1).trans ((if_neg va).trans ((if_pos vb).trans (if_neg ho)))) _ σ₁ W' (s1.trans (s.weak st3)) (mk s))
    · refine br_no vb (br_ite (x_and (x_M (.loc o.r0) W1.v.cl me14 (.one (.loc rfl)) (compound_ok ?_))))
      by_cases ca : (der st a).1 = 2 ∨ (der st a).1 = 3
      · have ca' : compound (der st a) = true := compound_iff.mpr ca
        refine br_yes ca (x_F (.cons (.loc o.r0) (.cons (.loc rfl) (.one (.loc rfl)))) (shape_ok W1.v ca Ra.ok.2.sound Rb.ok.2.sound ?_))
        by_cases hs : shape st (der st a) (der st b) = true
        · have cs : (compound (der st a) && shape st (der st a) (der st b)) = true := by rw [ca', hs]; rfl
          have cb : (der st b).1 = 2 ∨ (der st b).1 = 3 := shape_tag hs ▸ ca
          obtain ⟨a0, a1⟩ := Ra.ok.2.sound ca
          obtain ⟨b0, b1⟩ := Rb.ok.2.sound cb
          have hHl := W1.v.hl
          have mem := num_mem (x := (der st a).2) hM hsp b0 b1
          rw [hs]
          refine br_t (br_ite (x_M (.loc o.r4) hm1.cl me22 (.cons (.loc rfl) (.one (.loc rfl))) (add_ok hm1 (by unfold small; simp; exact Om120 a0 a1 hHl) (by unfold small; simp; exact Om121 hsp hHl) (by rw [List.length_map]; exact ml) ?_)))
          by_cases hin : ((der st a).2, (der st b).2) ∈ M
          · rw [if_pos (mem.mpr hin)]
            refine br_f ?_
            exact qs _ ((if_neg e1).trans ((if_neg va).trans ((if_neg vb).trans ((if_pos cs).trans (if_pos hin))))) _ τ W1 s1 (mk (.refl _ _))
          · rw [if_neg (fun h => hin (mem.mp h))]
            have W2 : Wd (τ.set mo (.set (M.map (numOf span) ++ [(der st a).2 * span + (der st b).2]))) so r st q tx fu := W1.same (X := [mo]) (.set (.head _)) (on1 kk.m)
            have hw2 : (τ.set mo (.set (M.map (numOf span) ++ [(der st a).2 * span + (der st b).2])))[wo]? = some (.list (w.reverse.map pV)) := by rw [set_get, if_neg (Ne.symm hwm)]; exact hw1
            refine br_t ?_
            refine c_expr (x_F (.cons (.loc o.r0) (.cons (.loc rfl) (.cons (.loc rfl) (.one (.loc o.r5))))) (pushPairs_ok W2 ca cb Ra.ok.2 Rb.ok.2 hs hw2 kk.z (kept5 kk.w) (by rw [List.length_map, List.length_reverse]; exact Om96 wl) ?_))
            refine qs _ ((if_neg e1).trans ((if_neg va).trans ((if_neg vb).trans ((if_pos cs).trans (if_neg hin))))) _ _ (W2.same (X := [wo]) (.set (.head _)) (on1 kk.w)) ((s1.trans (.set st_mo)).trans (.set st_wo)) ⟨o.r0, o.r3, o.r4, o.r5, ?_, ⟨?_, ?_, ?_⟩⟩
            · rw [set_get, if_pos rfl, if_pos (lt_of_get hw2), List.reverse_append, List.map_append]
            · rw [set_get, if_neg kk.wp, set_get, if_neg (ne_of_get hm1.met hm1.inst (fun h => nomatch h))]; exact hm1.inst
            · rw [set_get, if_neg kk.wd, set_get, if_neg (ne_of_get hm1.met hm1.ns (fun h => nomatch h))]; exact hm1.ns
            · rw [set_get, if_neg hwm, set_get, if_pos rfl, if_pos (lt_of_get hm1.met), List.map_append]; rfl
        · rw [Bool.not_eq_true] at hs
          rw [hs]
          exact br_f (s_ret .kbool (qn ((if_neg e1).trans ((if_neg va).trans ((if_neg vb).trans (if_neg (by rw [hs, Bool.and_false]; exact Bool.noConfusion))))) _ τ W1 s1))
      · have cn : ¬ (compound (der st a) && shape st (der st a) (der st b)) = true := fun h => ca (compound_iff.mp (Bool.and_eq_true_iff.mp h).1)
        exact br_no ca (br_f (s_ret .kbool (qn ((if_neg e1).trans ((if_neg va).trans ((if_neg vb).trans (if_neg cn)))) _ τ W1 s1)))

end

end Mine
end

/-! D11 -/
noncomputable section
set_option maxHeartbeats 200000
open PySem
namespace Mine

section
variable {m : Nat} {σ σ' : AH} {so : Nat} {r : Rc} {st st' : St} {q : Rs} {tx : List PySem.Str} {fu : List (Int × Int)} {wo po pd mo : Nat}

structure UniInv (st : St) (fu : List (Int × Int)) (w : List (Cell × Cell)) (M : List (Int × Int)) : Prop where
  F : WF2 st fu
  ok : ∀ p ∈ w, CellOk st fu p.1 ∧ CellOk st fu p.2
  nd : M.Nodup
  bd : ∀ p ∈ M, 0 ≤ p.1 ∧ p.1 < st.H.length ∧ 0 ≤ p.2 ∧ p.2 < st.H.length

theorem pairs_bound {n : Nat} (hn : n < 60) {M : List (Int × Int)} (nd : M.Nodup) (bd : ∀ p ∈ M, 0 ≤ p.1 ∧ p.1 < n ∧ 0 ≤ p.2 ∧ p.2 < n) : M.length ≤ 3600 := by
  have h := nodup_bound 3600 (M.map (numOf 60)) ?_ ?_
  · rwa [List.length_map] at h
  · rw [List.Nodup, List.pairwise_map]
    refine List.Pairwise.imp_of_mem (fun {a b} ha hb hne e => hne ?_) nd
    obtain ⟨a1, a2, a3, a4⟩ := bd a ha
    obtain ⟨b1, b2, b3, b4⟩ := bd b hb
    obtain ⟨z1, z2⟩ := num_inj (a := a.1) (c := b.1) a3 (by exact Om122 hn a4) b3 (by exact Om122 hn b4) e
    exact Prod.ext z1 z2
  · intro x hx
    obtain ⟨p, hp, rfl⟩ := List.mem_map.mp hx
    obtain ⟨a1, a2, a3, a4⟩ := bd p hp
    unfold numOf
    exact Om123 hn a1 a2 a3 a4

theorem UniInv.tail {p : Cell × Cell} {w : List (Cell × Cell)} {M : List (Int × Int)} (o : UniInv st fu (p :: w) M) : UniInv st fu w M := ⟨o.F, fun x h => o.ok x (.tail _ h), o.nd, o.bd⟩
theorem UniInv.one (F : WF2 st fu) {a b : Cell} (ha : CellOk st fu a) (hb : CellOk st fu b) : UniInv st fu [(a, b)] [] := ⟨F, fun p h => by cases List.mem_singleton.mp h; exact ⟨ha, hb⟩, .nil, nofun⟩
theorem UniInv.bind {w : List (Cell × Cell)} {M : List (Int × Int)} {x v : Cell} (o : UniInv st fu w M) (hx : isV x) (hu : nextC st x = some x) (vx : Valid st x) (hv : CellOk st fu v) (h0 : x.1 = 0 → v.1 ≠ 1 ∧ (v.1 = 0 → v.2 ≤ x.2)) (h1 : x.1 = 1 → v.1 = 1 → v.2 ≤ x.2) : UniInv (bindP st x v) fu w M :=
  ⟨bind_wf o.F hx hu vx hv h0 h1, fun p h => ⟨bind_cell hu (o.ok p h).1, bind_cell hu (o.ok p h).2⟩, o.nd, fun p h => by rw [bind_HL]; exact o.bd p h⟩
theorem not_isV {c : Cell} (h : ¬ isV c) : c.1 ≠ 0 ∧ c.1 ≠ 1 := ⟨fun z => h (.inl z), fun z => h (.inr z)⟩
theorem UniInv.bind1 {w : List (Cell × Cell)} {M : List (Int × Int)} {x v : Cell} (o : UniInv st fu w M) (hx : isV x) (rx : Res st fu x) (rv : Res st fu v) (hv : ¬ isV v) : UniInv (bindP st x v) fu w M := by
  obtain ⟨a, b⟩ := not_isV hv
  exact o.bind hx (rx.un hx) rx.ok.1 rv.ok (fun _ => ⟨b, fun t => absurd t a⟩) fun _ t => absurd t b
theorem UniInv.pair {w : List (Cell × Cell)} {M : List (Int × Int)} {a b : Cell} (o : UniInv st fu w M) (hne : a ≠ b) (ha : isV a) (hb : isV b) (ra : Res st fu a) (rb : Res st fu b) : UniInv (pairP st a b) fu w M := by
  obtain ⟨x, v, e, k1, k2, k3, k4, k5, k6⟩ := pairP_cases o.F hne ha hb ra rb
  rw [e]
  exact o.bind k1 k2 k3 k4 k5 k6
set_option tactic.hygienic true in
theorem shape_comp {a b : Cell} (hs : shape st a b = true) (ha : compound a = true) : compound b = true := by
  unfold shape at hs
  split at hs
  · cases hs
  · rename_i h
    have h : a.1 = b.1 := by simpa using h
    rw [compound_iff] at ha ⊢
    exact h ▸ ha
theorem UniInv.push {a b : Cell} {w : List (Cell × Cell)} {M : List (Int × Int)} (o : UniInv st fu ((a, b) :: w) M) (hs : (compound (der st a) && shape st (der st a) (der st b)) = true) (hm : ¬ ((der st a).2, (der st b).2) ∈ M) :
    UniInv st fu ((argsP st fu (der st a)).zip (argsP st fu (der st b)) ++ w) (M ++ [((der st a).2, (der st b).2)]) := by
  obtain ⟨h1, h2⟩ := Bool.and_eq_true_iff.mp hs
  obtain ⟨ca, cb⟩ := o.ok (a, b) (.head _)
  have Ra : Res st fu (der st a) := der_res o.F ca
  have Rb : Res st fu (der st b) := der_res o.F cb
  refine ⟨o.F, fun p h => ?_, ?_, fun p h => ?_⟩
  · rcases List.mem_append.mp h with h | h
    · obtain ⟨k1, k2⟩ := List.of_mem_zip h
      exact ⟨args_ok o.F k1, args_ok o.F k2⟩
    · exact o.ok p (.tail _ h)
  · rw [List.nodup_append]
    exact ⟨o.nd, by simp, fun x hx y hy => by simp at hy; subst hy; exact fun e => hm (e ▸ hx)⟩
  · rcases List.mem_append.mp h with h | h
    · exact o.bd p h
    · simp at h; subst h
      obtain ⟨a0, a1⟩ := Ra.ok.2.sound (compound_iff.mp h1)
      obtain ⟨b0, b1⟩ := Rb.ok.2.sound (compound_iff.mp (shape_comp h2 h1))
      dsimp only
      exact Om124 a0 a1 b0 b1


/-- what one step leaves -/
inductive UNext (fu : List (Int × Int)) (st : St) (a b : Cell) (w : List (Cell × Cell)) (M : List (Int × Int)) : St × List (Cell × Cell) × List (Int × Int) → Prop
  | stay : UNext fu st a b w M (st, w, M)
  | bind (x v : Cell) : isV x → nextC st x = some x → Valid st x → CellOk st fu v → (x.1 = 0 → v.1 ≠ 1 ∧ (v.1 = 0 → v.2 ≤ x.2)) → (x.1 = 1 → v.1 = 1 → v.2 ≤ x.2) → UNext fu st a b w M (bindP st x v, w, M)
  | push : (compound (der st a) && shape st (der st a) (der st b)) = true → ¬ ((der st a).2, (der st b).2) ∈ M → UNext fu st a b w M (st, (argsP st fu (der st a)).zip (argsP st fu (der st b)) ++ w, M ++ [((der st a).2, (der st b).2)])
theorem UNext.bind1 {w : List (Cell × Cell)} {M : List (Int × Int)} {a b x v : Cell} (hx : isV x) (rx : Res st fu x) (rv : Res st fu v) (hv : ¬ isV v) : UNext fu st a b w M (bindP st x v, w, M) :=
  .bind x v hx (rx.un hx) rx.ok.1 rv.ok (fun _ => ⟨(not_isV hv).2, fun t => absurd t (not_isV hv).1⟩) fun _ t => absurd t (not_isV hv).2
theorem ite_el {α : Type} {c : Prop} [Decidable c] {a b : α} (P : α → Prop) (h1 : c → P a) (h2 : ¬ c → P b) : P (if c then a else b) := by
  split
  · exact h1 ‹_›
  · exact h2 ‹_›
theorem uStep_next {occ : Bool} {a b : Cell} {w : List (Cell × Cell)} {M : List (Int × Int)} (o : UniInv st fu ((a, b) :: w) M) : ∀ {z : St × List (Cell × Cell) × List (Int × Int)}, uStep fu occ st a b w M = some z → UNext fu st a b w M z := by
  have Ra : Res st fu (der st a) := der_res o.F (o.ok (a, b) (.head _)).1
  have Rb : Res st fu (der st b) := der_res o.F (o.ok (a, b) (.head _)).2
  generalize hP : (fun u : Option (St × List (Cell × Cell) × List (Int × Int)) => ∀ {z}, u = some z → UNext fu st a b w M z) = P
  have no : P none := by subst hP; exact nofun
  have so : ∀ {z}, UNext fu st a b w M z → P (some z) := by subst hP; exact fun h _ e => Option.some.inj e ▸ h
  suffices h : P (uStep fu occ st a b w M) by subst hP; exact @h
  refine ite_el P (fun _ => so .stay) fun hne => ite_el P (fun va => ite_el P (fun vb => so ?_) fun vb => ite_el P (fun _ => no) fun _ => so (.bind1 va Ra Rb vb)) fun va => ite_el P (fun vb => ite_el P (fun _ => no) fun _ => so (.bind1 vb Rb Ra va)) fun vb => ite_el P (fun hc => ite_el P (fun _ => so .stay) fun hm => so (.push hc hm)) fun _ => no
  obtain ⟨x, v, e1, k1, k2, k3, k4, k5, k6⟩ := pairP_cases o.F hne va vb Ra Rb
  rw [e1]
  exact .bind x v k1 k2 k3 k4 k5 k6
/-- the invariant, and the way that is left -/
structure UGo (fu : List (Int × Int)) (st st' : St) (n : Nat) (w : List (Cell × Cell)) (M : List (Int × Int)) : Prop where
  i : UniInv st' fu w M
  h : st'.H.length = st.H.length
  t : st'.T.length ≤ st.T.length + 1
  n : w.length + 100 * (3601 - M.length) ≤ n
theorem UNext.go {a b : Cell} {w : List (Cell × Cell)} {M : List (Int × Int)} (o : UniInv st fu ((a, b) :: w) M) (hl : st.H.length < 60) {z : St × List (Cell × Cell) × List (Int × Int)} (h : UNext fu st a b w M z) : UGo fu st z.1 (w.length + 100 * (3601 - M.length)) z.2.1 z.2.2 ∧ (z.1 = st ∨ z.2.1 = w ∧ z.2.2 = M) ∧ (z.1 = st → z.1.T = st.T) := by
  refine ⟨?_, ?_, fun h => by rw [h]⟩
  · cases h with
    | stay => exact ⟨o.tail, rfl, Nat.le_succ _, Nat.le_refl _⟩
    | bind x v k1 k2 k3 k4 k5 k6 => exact ⟨o.tail.bind k1 k2 k3 k4 k5 k6, bind_HL _ _ _, bind_TL _ _ _, Nat.le_refl _⟩
    | push hc hm =>
      have o' := o.push hc hm
      have hb := pairs_bound hl o'.nd o'.bd
      have Ra : Res st fu (der st a) := der_res o.F (o.ok (a, b) (.head _)).1
      have hf := Ra.ok.2.fits (compound_iff.mp (Bool.and_eq_true_iff.mp hc).1)
      have h1 := args_len st fu (der st a)
      refine ⟨o', rfl, Nat.le_succ _, ?_⟩
      simp only [List.length_append, List.length_cons, List.length_nil, List.length_zip] at hb ⊢
      omega
  · cases h with
    | stay => exact .inl rfl
    | bind x v k1 k2 k3 k4 k5 k6 => exact .inr ⟨rfl, rfl⟩
    | push hc hm => exact .inl rfl

theorem one_bd {α β : Type} (a : α) : [a].length + 100 * (3601 - ([] : List β).length) ≤ 369999 := by rw [List.length_singleton, List.length_nil]; exact Om125
theorem uni_total {occ : Bool} : ∀ (n : Nat) (st : St) (w : List (Cell × Cell)) (M : List (Int × Int)), st.H.length < 60 → w.length + 100 * (3601 - M.length) ≤ n → UniInv st fu w M → ∃ b, uniGo fu occ (n + 1) st w M = some b
  | n, st, [], M, _, _, _ => ⟨(true, st), rfl⟩
  | 0, st, p :: w, M, _, h, o => by rw [List.length_cons] at h; exact (Om126 h).elim
  | n + 1, st, (a, b) :: w, M, hl, h, o => by
    rw [List.length_cons] at h
    cases e : uStep fu occ st a b w M with
    | none => exact ⟨_, uni_no e⟩
    | some z =>
      have g := ((uStep_next o e).go o hl).1
      rw [uni_go e]
      exact uni_total n _ _ _ (g.h ▸ hl) (by have := g.n; exact Om127 h this) g.i


theorem uni_loop {occ : Bool} {span : Int} (kk : UOff so r q wo po pd mo) {Q : Fl → En → AH → Prop} {res : Bool × St} : ∀ (k : Nat) (st : St) (w : List (Cell × Cell)) (M : List (Int × Int)) (σ : AH) (ρ : En), uniGo fu occ k st w M = some res → span = st.H.length + 1 → Wd σ so r st q tx fu → UniInv st fu w M → UniSt σ ρ so wo po pd mo span occ w M →
    st.T.length + w.length + 100 * (3601 - M.length) ≤ 800000 →
    (∀ ρ' σ', Wd σ' so r res.2 q tx fu → Stay (storeL r wo mo) σ σ' → if res.1 = true then Q .next ρ' σ' else Q (.ret (.bool false)) ρ' σ') → whileGo (wE P2 (callX P2 fns2 (m + 5)) uniCond) (wSL P2 (callX P2 fns2 (m + 5)) uniBody) k ρ σ Q
  | 0, st, w, M, σ, ρ, e, _, _, _, _, _, _ => by cases e
  | k + 1, st, [], M, σ, ρ, e, hs, W, i, o, bd, qq => by
    cases e
    exact w_end (.cmp (.blt (.one (.loc o.r5)) (list_len o.w (by decide))) .kint rfl) (qq ρ σ W (.refl _ _))
  | k + 1, st, (a, b) :: w, M, σ, ρ, e, hs, W, i, o, bd, qq => by
    rw [List.length_cons] at bd
    have hHl := W.v.hl
    have hml := pairs_bound hHl i.nd i.bd
    have hb : cmpV σ .gt (.int (((a, b) :: w).reverse.map pV).length) (.int 0) = some true := by
      rw [List.length_map, List.length_reverse, List.length_cons]
      exact congrArg some (decide_eq_true (Int.natCast_pos.mpr (Nat.succ_pos _)))
    refine w_go (.cmp (.blt (.one (.loc o.r5)) (list_len o.w (by rw [List.length_map, List.length_reverse, List.length_cons]; exact Om128 bd))) .kint hb) (uni_body W i.F o (i.ok _ (.head _)).1 (i.ok _ (.head _)).2 kk hs i.bd (by exact Om129 bd) (by exact Om130 bd) (by exact Om131 hml) (fun _ _ h => h) (fun u => ?_) fun z u => ?_)
    · rw [uni_no u] at e
      cases e
      exact fun ρ' σ' W' s => qq ρ' σ' W' s
    · rw [uni_go u] at e
      have g := (uStep_next i u).go i hHl
      intro ρ' σ' W' s o'
      exact uni_loop kk k _ _ _ σ' ρ' e (by rw [g.1.h]; exact hs) W' g.1.i o' (by have := g.1.t; have := g.1.n; omega) fun ρ'' σ'' W'' s' => qq ρ'' σ'' W'' (s.trans s')

/-- unify -/
noncomputable def uniP (fu : List (Int × Int)) (occ : Bool) (st : St) (a b : Cell) : Bool × St := (uniGo fu occ 370000 st [(a, b)] []).getD (false, st)

theorem init3 : P2.init 3 = some 29 := rfl

theorem unify_ok (W : Wd σ so r st q tx fu) (F : WF2 st fu) {a b : Cell} (ha : CellOk st fu a) (hb : CellOk st fu b) (tl : st.T.length < 400000) {occ : Bool} {Q : V → AH → Prop}
    (qq : ∀ σ', Wd σ' so r (uniP fu occ st a b).2 q tx fu → Stay [r.h, r.s, r.t] σ σ' → Q (.bool (uniP fu occ st a b).1) σ') : callN P2 fns2 (m + 6) 35 [.obj so, cV a, cV b, .bool occ] σ Q := by
  refine call_of (fn := f_unify) rfl rfl ?_
  have s0 : Stay [] σ (σ ++ [.ns []] ++ [.inst 3 σ.length]) := (Stay.app _).trans (.app _)
  have W0 := W.nil s0
  have hl1 : (σ ++ [AObj.ns []]).length = σ.length + 1 := by rw [List.length_append]; rfl
  have hl2 : (σ ++ [AObj.ns []] ++ [AObj.inst 3 σ.length]).length = σ.length + 2 := by rw [List.length_append, hl1]; rfl
  have off : ∀ {i}, σ.length ≤ i → i ∉ keptL so r q := fun h => above_kept W h
  show wSL P2 _ (.cons (.assign (.loc 4) (.new 3 (.cons (.loc 0) .nil))) (.cons (.assign (.loc 5) (.list (.cons (.tup (.cons (.loc 1) (.cons (.loc 2) .nil))) .nil))) (.cons (.while uniCond uniBody) (.cons (.ret (.kbool true)) .nil)))) _ _ _
  refine c_loc (x_new (.one (.loc rfl)) init3 (pairset_init (po := σ.length + 1) (d := σ.length) W0.v (by rw [← hl1]; exact snoc_get) (app_get snoc_get) (kept5 (off (Nat.le_refl _))) fun σ₁ mv s1 l1 => ⟨rfl, ?_⟩))
  rw [hl2] at mv l1
  have W1 : Wd σ₁ so r st q tx fu := W0.same s1 (on1 (off (Nat.le_refl _)))
  have W2 := W1.nil (Stay.app [.list [pV (a, b)]])
  have i0 := UniInv.one F ha hb
  obtain ⟨res, hres⟩ := uni_total (occ := occ) 369999 st [(a, b)] [] W.v.hl (one_bd _) i0
  have hP : uniP fu occ st a b = res := by unfold uniP; rw [hres]; rfl
  rw [hP] at qq
  have kk : UOff so r q σ₁.length (σ.length + 1) σ.length (σ.length + 2) := ⟨off (by exact Om132 hl2 l1), off (Nat.le_succ _), off (Nat.le_refl _), off (by exact Om133), by exact Om134 hl2 l1, by exact Om135 hl2 l1, by exact Om136 hl2 l1⟩
  refine s_loc (.list (.one (.tup (.cons (.loc rfl) (.one (.loc rfl)))))) ⟨370000, uni_loop (span := (st.H.length : Int) + 1) kk 370000 st [(a, b)] [] _ _ hres rfl W2 i0 ⟨rfl, rfl, rfl, rfl, snoc_get, mv.same (X := []) (Stay.app _) nofun nofun nofun⟩ (by rw [List.length_singleton, List.length_nil]; exact Om137 tl) fun ρ' σ' W' s => ?_⟩
  have k1 : Stay (storeL r σ₁.length (σ.length + 2) ++ [σ.length]) σ σ' := ((s0.nil.trans (s1.weak fun i h => List.mem_append_right _ h)).trans (.app _)).trans (s.weak fun i h => List.mem_append_left _ h)
  have s2 : Stay [r.h, r.s, r.t] σ σ' := k1.strong fun i hi => (List.mem_append.mp hi).elim (fun h => (List.mem_append.mp (show i ∈ [r.h, r.s, r.t] ++ [σ₁.length, σ.length + 2] from h)).imp_right fun h => (List.mem_cons.mp h).elim (fun h => by exact Om138 hl2 l1 h) fun h => by have := List.mem_singleton.mp h; exact Om139 hl2 l1 this) fun h => .inr (Nat.le_of_eq (List.mem_singleton.mp h).symm)
  have fin := qq σ' W' s2
  cases h : res.1 with
  | true => rw [if_pos rfl]; rw [h] at fin; exact fin
  | false => rw [if_neg Bool.noConfusion]; rw [h] at fin; exact fin
end

end Mine
end

/-! U2 -/
noncomputable section
set_option maxHeartbeats 200000
open PySem
namespace Mine

/-! the plain law of unify -/
section
variable {st st' : St} {fu : List (Int × Int)} {occ : Bool}

theorem nextC_eq (h : st'.H = st.H) (s : st'.S = st.S) (c : Cell) : nextC st' c = nextC st c := by unfold nextC; rw [h, s]
theorem derefP_eq (h : st'.H = st.H) (s : st'.S = st.S) : ∀ (k : Nat) (c : Cell), derefP st' k c = derefP st k c
  | 0, c => rfl
  | k + 1, c => by
    unfold derefP
    rw [nextC_eq h s]
    cases nextC st c with
    | none => rfl
    | some f => dsimp only; rw [derefP_eq h s k f]
theorem der_eq (h : st'.H = st.H) (s : st'.S = st.S) (c : Cell) : der st' c = der st c := by unfold der; rw [derefP_eq h s, h, s]
theorem args_eq (h : st'.H = st.H) (c : Cell) : argsP st' fu c = argsP st fu c := by unfold argsP widthP; rw [h]
theorem shape_eq (h : st'.H = st.H) (a b : Cell) : shape st' a b = shape st a b := by unfold shape; rw [h]
theorem occGo_eq (h : st'.H = st.H) (s : st'.S = st.S) (x : Cell) : ∀ (k : Nat) (w : List Cell) (M : List Int), occGo st' fu x k w M = occGo st fu x k w M
  | 0, _, _ => rfl
  | k + 1, [], _ => rfl
  | k + 1, t :: w, M => by
    rw [occGo, occGo, der_eq h s, args_eq h, occGo_eq h s x k, occGo_eq h s x k]
theorem occB_eq (h : st'.H = st.H) (s : st'.S = st.S) (x c : Cell) : occB occ st' fu x c = occB occ st fu x c := by
  unfold occB occP; rw [der_eq h s, occGo_eq h s]
theorem bindHS (h : st'.H = st.H) (s : st'.S = st.S) (x v : Cell) : (bindP st' x v).H = (bindP st x v).H ∧ (bindP st' x v).S = (bindP st x v).S := by
  unfold bindP; dsimp only; rw [h, s]; exact ⟨rfl, rfl⟩
theorem pairHS (h : st'.H = st.H) (s : st'.S = st.S) (a b : Cell) : (pairP st' a b).H = (pairP st a b).H ∧ (pairP st' a b).S = (pairP st a b).S := by
  unfold pairP
  split
  · exact ⟨h, s⟩
  · split
    · split <;> exact bindHS h s _ _
    · split <;> exact bindHS h s _ _

/-- what unify tells does not hang on the trail and the bounds -/
noncomputable def SameZ (u' u : Option (St × List (Cell × Cell) × List (Int × Int))) : Prop := match u with
  | none => u' = none
  | some z => ∃ s', u' = some (s', z.2) ∧ s'.H = z.1.H ∧ s'.S = z.1.S
theorem ite_el2 {α β : Type} {c : Prop} [Decidable c] {a b : α} {a' b' : β} (P : α → β → Prop) (h1 : c → P a a') (h2 : ¬ c → P b b') : P (if c then a else b) (if c then a' else b') := by
  by_cases h : c
  · rw [if_pos h, if_pos h]; exact h1 h
  · rw [if_neg h, if_neg h]; exact h2 h
theorem uStep_same (h : st'.H = st.H) (s : st'.S = st.S) (a b : Cell) (w : List (Cell × Cell)) (M : List (Int × Int)) : SameZ (uStep fu occ st' a b w M) (uStep fu occ st a b w M) := by
  unfold uStep
  rw [der_eq h s, der_eq h s, occB_eq h s, occB_eq h s, shape_eq h, args_eq h, args_eq h]
  have p := pairHS h s (der st a) (der st b)
  have b1 := bindHS h s (der st a) (der st b)
  have b2 := bindHS h s (der st b) (der st a)
  exact ite_el2 SameZ (fun _ => ⟨st', rfl, h, s⟩) fun _ => ite_el2 SameZ (fun _ => ite_el2 SameZ (fun _ => ⟨_, rfl, p⟩) fun _ => ite_el2 SameZ (fun _ => rfl) fun _ => ⟨_, rfl, b1⟩) fun _ => ite_el2 SameZ (fun _ => ite_el2 SameZ (fun _ => rfl) fun _ => ⟨_, rfl, b2⟩) fun _ => ite_el2 SameZ (fun _ => ite_el2 SameZ (fun _ => ⟨st', rfl, h, s⟩) fun _ => ⟨st', rfl, h, s⟩) fun _ => rfl
theorem uni_indep : ∀ (k : Nat) (st st' : St) (w : List (Cell × Cell)) (M : List (Int × Int)) (b : Bool) (s1 : St), st'.H = st.H → st'.S = st.S → uniGo fu occ k st w M = some (b, s1) → ∃ s1', uniGo fu occ k st' w M = some (b, s1') ∧ s1'.H = s1.H ∧ s1'.S = s1.S
  | 0, st, st', w, M, b, s1, _, _, e => by cases e
  | k + 1, st, st', [], M, b, s1, h, s, e => by cases e; exact ⟨st', rfl, h, s⟩
  | k + 1, st, st', (x, y) :: w, M, b, s1, h, s, e => by
    have u := uStep_same (fu := fu) (occ := occ) h s x y w M
    cases q : uStep fu occ st x y w M with
    | none =>
      rw [q] at u
      rw [uni_no q] at e
      cases e
      exact ⟨st', uni_no u, h, s⟩
    | some z =>
      rw [q] at u
      rw [uni_go q] at e
      obtain ⟨s', u, h', s''⟩ := u
      rw [uni_go u]
      exact uni_indep k _ _ _ _ b s1 h' s'' e

noncomputable def trl (hb bb e : Int) : Bool := if 0 ≤ e then decide (e < hb) else decide (-1 - e < bb)
noncomputable def selfAt (st : St) (e : Int) : Prop := if 0 ≤ e then st.H[e.toNat]? = some (0, e) else st.S[(-1 - e).toNat]? = some (1, -1 - e)
/-- what was bound between two states of a store -/
structure Back (st s1 : St) (B : List Int) : Prop where
  T : s1.T = st.T ++ B.filter (trl st.hb st.bb)
  hb : s1.hb = st.hb
  bb : s1.bb = st.bb
  hl : s1.H.length = st.H.length
  sl : s1.S.length = st.S.length
  self : ∀ e ∈ B, selfAt st e
  H : ∀ a : Nat, (a : Int) ∉ B → s1.H[a]? = st.H[a]?
  S : ∀ a : Nat, (-1 - (a : Int)) ∉ B → s1.S[a]? = st.S[a]?
theorem Back.refl (st : St) : Back st st [] := ⟨by simp, rfl, rfl, rfl, rfl, fun _ h => by simp at h, fun _ _ => rfl, fun _ _ => rfl⟩
set_option tactic.hygienic true in
theorem Back.trans {s1 s2 : St} {B B' : List Int} (x : Back st s1 B) (y : Back s1 s2 B') : Back st s2 (B ++ B') := by
  refine ⟨?_, y.hb.trans x.hb, y.bb.trans x.bb, y.hl.trans x.hl, y.sl.trans x.sl, fun e h => ?_, fun a h => ?_, fun a h => ?_⟩
  · rw [y.T, x.T, x.hb, x.bb, List.filter_append, List.append_assoc]
  · rcases List.mem_append.mp h with h | h
    · exact x.self e h
    · have h2 := y.self e h
      by_cases m : e ∈ B
      · exact x.self e m
      · unfold selfAt at h2 ⊢
        split at h2
        · rename_i z
          rw [if_pos z]
          rw [x.H e.toNat (by rw [Int.toNat_of_nonneg z]; exact m)] at h2
          exact h2
        · rename_i z
          rw [if_neg z]
          have hz : (-1 - ((-1 - e).toNat : Int)) = e := by exact Om140 z
          rw [x.S (-1 - e).toNat (by rw [hz]; exact m)] at h2
          exact h2
  · rw [List.mem_append, not_or] at h
    exact (y.H a h.2).trans (x.H a h.1)
  · rw [List.mem_append, not_or] at h
    exact (y.S a h.2).trans (x.S a h.1)
theorem bind_back {x v : Cell} (hx : isV x) (hu : nextC st x = some x) (vx : Valid st x) : Back st (bindP st x v) [entry x] := by
  have hself : selfAt st (entry x) := by
    unfold selfAt entry
    unfold nextC at hu
    by_cases t : x.1 = 0
    · rw [if_pos t, if_pos (vx.1 t).1]
      rw [if_pos t] at hu
      rw [hu, ← t]
    · have t1 : x.1 = 1 := hx.resolve_left t
      rw [if_neg t, if_pos t1] at hu
      have h0 := (vx.2 t1).1
      have e1 : (-1 - (-1 - x.2)) = x.2 := by exact Om141
      rw [if_neg t, if_neg (by exact Om142 h0), e1, hu, ← t1]
  refine ⟨?_, rfl, rfl, bind_HL _ _ _, bind_SL _ _ _, fun e h => by simp at h; subst h; exact hself, fun a h => ?_, fun a h => ?_⟩
  · show (if (if x.1 = 0 then x.2 < st.hb else x.2 < st.bb) then st.T ++ [entry x] else st.T) = _
    have : trl st.hb st.bb (entry x) = decide (if x.1 = 0 then x.2 < st.hb else x.2 < st.bb) := by
      unfold trl entry
      by_cases t : x.1 = 0
      · simp only [t, if_true]
        rw [if_pos (vx.1 t).1]
      · have t1 : x.1 = 1 := hx.resolve_left t
        have h0 := (vx.2 t1).1
        have e1 : (-1 - (-1 - x.2)) = x.2 := by exact Om141
        simp only [t, if_false]
        rw [if_neg (by exact Om142 h0), e1]
    by_cases c : (if x.1 = 0 then x.2 < st.hb else x.2 < st.bb)
    · rw [if_pos c]
      simp [this, c]
    · rw [if_neg c]
      simp [this, c]
  · rw [bind_H, if_neg]
    rintro ⟨h1, h2, h3⟩
    refine h ?_
    have := (vx.1 h1).1
    unfold entry
    rw [if_pos h1]
    simp
    exact Om143 h2 this
  · rw [bind_S, if_neg]
    rintro ⟨h1, h2, h3⟩
    refine h ?_
    have := (vx.2 (hx.resolve_left h1)).1
    unfold entry
    rw [if_neg h1]
    simp
    exact Om143 h2 this
theorem uni_back : ∀ (k : Nat) (st : St) (w : List (Cell × Cell)) (M : List (Int × Int)) (b : Bool) (s1 : St), UniInv st fu w M → uniGo fu occ k st w M = some (b, s1) → st.H.length < 60 → ∃ B, Back st s1 B ∧ WF2 s1 fu ∧ ∀ c, CellOk st fu c → CellOk s1 fu c
  | 0, st, w, M, b, s1, _, e, _ => by cases e
  | k + 1, st, [], M, b, s1, i, e, _ => by cases e; exact ⟨[], .refl _, i.F, fun _ h => h⟩
  | k + 1, st, (x, y) :: w, M, b, s1, i, e, hl => by
    cases q : uStep fu occ st x y w M with
    | none =>
      rw [uni_no q] at e
      cases e
      exact ⟨[], .refl _, i.F, fun _ h => h⟩
    | some z =>
      rw [uni_go q] at e
      have n := uStep_next i q
      have g := (n.go i hl).1
      have r := uni_back k _ _ _ b s1 g.i e (g.h ▸ hl)
      cases n with
      | stay => exact r
      | push _ _ => exact r
      | bind x' v' h1 h2 h3 =>
        obtain ⟨B, b1, b2, b3⟩ := r
        exact ⟨_, (bind_back h1 h2 h3).trans b1, b2, fun c h => b3 c (bind_cell h2 h)⟩

theorem unsL_get : ∀ (l : List Int) (p : List Cell × List Cell), (∀ a : Nat, (unsL p l).1[a]? = if (a : Int) ∈ l ∧ a < p.1.length then some (0, (a : Int)) else p.1[a]?) ∧ (∀ a : Nat, (unsL p l).2[a]? = if (-1 - (a : Int)) ∈ l ∧ a < p.2.length then some (1, (a : Int)) else p.2[a]?)
  | [], p => by simp [unsL]
  | e :: l, p => by
    obtain ⟨h1, h2⟩ := unsL_get l (uns p e)
    obtain ⟨l1, l2⟩ := uns_len p e
    refine ⟨fun a => ?_, fun a => ?_⟩
    · show (unsL (uns p e) l).1[a]? = _
      rw [h1 a, l1]
      by_cases m : (a : Int) ∈ l ∧ a < p.1.length
      · rw [if_pos m, if_pos ⟨.tail _ m.1, m.2⟩]
      · rw [if_neg m]
        unfold uns
        by_cases z : 0 ≤ e
        · rw [if_pos z]
          dsimp only
          rw [List.getElem?_set]
          by_cases q : e.toNat = a
          · have q' : (a : Int) = e := by exact Om144 z q
            by_cases lt : a < p.1.length
            · rw [if_pos q, if_pos (by exact Om145 q lt), if_pos ⟨by rw [q']; exact .head _, lt⟩, q']
            · rw [if_pos q, if_neg (by exact Om146 q lt), if_neg (fun h => lt h.2)]
              exact (List.getElem?_eq_none (by exact Om1 lt)).symm
          · rw [if_neg q, if_neg]
            rintro ⟨h, lt⟩
            rcases List.mem_cons.mp h with h | h
            · exact Om147 z q h
            · exact m ⟨h, lt⟩
        · rw [if_neg z, if_neg]
          rintro ⟨h, lt⟩
          rcases List.mem_cons.mp h with h | h
          · exact Om148 z h
          · exact m ⟨h, lt⟩
    · show (unsL (uns p e) l).2[a]? = _
      rw [h2 a, l2]
      by_cases m : (-1 - (a : Int)) ∈ l ∧ a < p.2.length
      · rw [if_pos m, if_pos ⟨.tail _ m.1, m.2⟩]
      · rw [if_neg m]
        unfold uns
        by_cases z : 0 ≤ e
        · rw [if_pos z, if_neg]
          rintro ⟨h, lt⟩
          rcases List.mem_cons.mp h with h | h
          · exact Om149 z h
          · exact m ⟨h, lt⟩
        · rw [if_neg z]
          dsimp only
          rw [List.getElem?_set]
          by_cases q : (-1 - e).toNat = a
          · have q' : (-1 - (a : Int)) = e := by exact Om150 z q
            by_cases lt : a < p.2.length
            · rw [if_pos q, if_pos (by exact Om151 q lt), if_pos ⟨by rw [q']; exact .head _, lt⟩]
              congr 2
              exact Om152 q'
            · rw [if_pos q, if_neg (by exact Om153 q lt), if_neg (fun h => lt h.2)]
              exact (List.getElem?_eq_none (by exact Om1 lt)).symm
          · rw [if_neg q, if_neg]
            rintro ⟨h, lt⟩
            rcases List.mem_cons.mp h with h | h
            · exact Om154 z q h
            · exact m ⟨h, lt⟩

/-- undone -/
theorem back_undo {s1 : St} {B : List Int} (x : Back st s1 B) : unsL (s1.H, s1.S) B.reverse = (st.H, st.S) := by
  obtain ⟨h1, h2⟩ := unsL_get B.reverse (s1.H, s1.S)
  refine Prod.ext (List.ext_getElem? fun a => ?_) (List.ext_getElem? fun a => ?_)
  · rw [h1 a]
    by_cases m : (a : Int) ∈ B
    · have h := x.self _ m
      unfold selfAt at h
      rw [if_pos (by exact Om155)] at h
      have h' : st.H[a]? = some (0, (a : Int)) := by simpa using h
      rw [if_pos ⟨by simpa using m, by rw [x.hl]; exact (List.getElem?_eq_some_iff.mp h').1⟩, h']
    · rw [if_neg (fun h => m (by simpa using h.1))]
      exact x.H a m
  · rw [h2 a]
    by_cases m : (-1 - (a : Int)) ∈ B
    · have h := x.self _ m
      unfold selfAt at h
      rw [if_neg (by exact Om156)] at h
      have e1 : (-1 - (-1 - (a : Int))) = a := by exact Om157
      rw [e1] at h
      have h' : st.S[a]? = some (1, (a : Int)) := by simpa using h
      rw [if_pos ⟨by simpa using m, by rw [x.sl]; exact (List.getElem?_eq_some_iff.mp h').1⟩, h']
    · rw [if_neg (fun h => m (by simpa using h.1))]
      exact x.S a m
set_option tactic.hygienic true in
theorem back_entries {s1 : St} {B : List Int} (x : Back st s1 B) : ∀ e ∈ B, EntryOk s1.H.length s1.S.length e := by
  intro e h
  have h := x.self e h
  unfold selfAt at h
  unfold EntryOk
  rw [x.hl, x.sl]
  split at h
  · rename_i z; rw [if_pos z]; exact (List.getElem?_eq_some_iff.mp h).1
  · rename_i z; rw [if_neg z]; exact (List.getElem?_eq_some_iff.mp h).1
end

end Mine
end

/-! D12 -/
noncomputable section
set_option maxHeartbeats 200000
open PySem
namespace Mine

section
variable {m : Nat} {σ σ' : AH} {so : Nat} {r : Rc} {st st' : St} {q : Rs} {tx : List PySem.Str} {fu : List (Int × Int)} {occ : Bool}

theorem View.put9 (v : View σ so r st) (x : Int) : attrPut σ (.obj so) 9 (.int x) = some (σ.set r.d (.ns (nsL r { st with hb := x }))) := by
  rw [attr_put v.inst v.ns]; simp [nsPut, nsL]
theorem View.put10 (v : View σ so r st) (x : Int) : attrPut σ (.obj so) 10 (.int x) = some (σ.set r.d (.ns (nsL r { st with bb := x }))) := by
  rw [attr_put v.inst v.ns]; simp [nsPut, nsL]
theorem Wd.put (W : Wd σ so r st q tx fu) (st' : St) (e1 : st'.H = st.H) (e2 : st'.S = st.S) (e3 : st'.T = st.T) : Wd (σ.set r.d (.ns (nsL r st'))) so r st' q tx fu := by
  refine ⟨W.v.setD st' e1 e2 e3, W.y.same (X := [r.d]) (.set (by simp)) ?_, W.dj⟩
  intro i hi hm
  simp only [List.mem_cons, List.not_mem_nil, or_false] at hi
  subst hi
  have h1 := W.v.ns
  have kn : ∀ {j : Nat} {o : AObj}, σ[j]? = some o → (∀ fs, o ≠ .ns fs) → r.d ≠ j := fun e h z => by
    subst z; rw [h1] at e; exact h _ (Option.some.inj e).symm
  simp only [List.mem_cons, List.not_mem_nil, or_false] at hm
  rcases hm with h | h | h | h | h | h
  · exact kn W.y.inst (fun _ h => nomatch h) h
  · have := W.y.ns
    rw [← h, h1] at this
    simp [nsL] at this
  · exact kn W.y.ltx (fun _ h => nomatch h) h
  · exact kn W.y.an (fun _ h => nomatch h) h
  · exact kn W.y.lfu (fun _ h => nomatch h) h
  · exact kn W.y.fn (fun _ h => nomatch h) h

theorem WF2.re (F : WF2 st fu) (h : st'.H = st.H) (s : st'.S = st.S) : WF2 st' fu := by
  obtain ⟨H, S, T, hb, bb⟩ := st
  obtain ⟨H', S', T', hb', bb'⟩ := st'
  cases h; cases s
  exact ⟨⟨F.wf.heap, F.wf.stack⟩, F.hs, F.ss⟩
theorem CellOk.re {c : Cell} (F : CellOk st fu c) (h : st'.H = st.H) (s : st'.S = st.S) : CellOk st' fu c := by
  obtain ⟨H, S, T, hb, bb⟩ := st
  obtain ⟨H', S', T', hb', bb'⟩ := st'
  cases h; cases s
  exact F
theorem uniP_re (F : WF2 st fu) (hl : st.H.length < 60) {a b : Cell} (ha : CellOk st fu a) (hb : CellOk st fu b) (h : st'.H = st.H) (s : st'.S = st.S) : (uniP fu occ st' a b).1 = (uniP fu occ st a b).1 ∧ (uniP fu occ st' a b).2.H = (uniP fu occ st a b).2.H ∧ (uniP fu occ st' a b).2.S = (uniP fu occ st a b).2.S := by
  obtain ⟨⟨x, s1⟩, e⟩ := uni_total (occ := occ) 369999 st [(a, b)] [] hl (one_bd _) (UniInv.one F ha hb)
  obtain ⟨s1', e', h1, h2⟩ := uni_indep 370000 st st' _ _ _ _ h s e
  unfold uniP
  rw [e, e']
  exact ⟨rfl, h1, h2⟩
theorem uniP_back (F : WF2 st fu) (hl : st.H.length < 60) {a b : Cell} (ha : CellOk st fu a) (hb : CellOk st fu b) : ∃ B, Back st (uniP fu occ st a b).2 B ∧ WF2 (uniP fu occ st a b).2 fu ∧ ∀ c, CellOk st fu c → CellOk (uniP fu occ st a b).2 fu c := by
  obtain ⟨⟨x, s1⟩, e⟩ := uni_total (occ := occ) 369999 st [(a, b)] [] hl (one_bd _) (UniInv.one F ha hb)
  have := uni_back 370000 st _ _ _ _ (UniInv.one F ha hb) e hl
  unfold uniP
  rw [e]
  exact this

/-- two views of one store agree -/
theorem same_views (W : View σ so r st) (W' : View σ' so r st) (s : Stay [r.h, r.s, r.t, r.d] σ σ') : Stay [] σ σ' := by
  refine ⟨s.len, fun i o _ e => ?_⟩
  by_cases h : i ∈ [r.h, r.s, r.t, r.d]
  · simp only [List.mem_cons, List.not_mem_nil, or_false] at h
    rcases h with rfl | rfl | rfl | rfl
    · rw [W'.h, ← e, W.h]
    · rw [W'.s, ← e, W.s]
    · rw [W'.t, ← e, W.t]
    · rw [W'.ns, ← e, W.ns]
  · exact s.get i o h e

set_option tactic.hygienic true in
theorem trial_ok (W : Wd σ so r st q tx fu) (F : WF2 st fu) {a b : Cell} (ha : CellOk st fu a) (hb : CellOk st fu b) (tl : st.T.length < 400000) {Q : V → AH → Prop}
    (qq : ∀ σ', Wd σ' so r st q tx fu → Stay [] σ σ' → Q (.bool (uniP fu occ st a b).1) σ') : callN P2 fns2 (m + 7) 37 [.obj so, cV a, cV b, .bool occ] σ Q := by
  have hbig : ∀ i ∈ [r.h, r.s, r.t], i ∈ [r.h, r.s, r.t, r.d] := fun i hi => List.mem_append_left [r.d] hi
  have hin : r.d ∈ [r.h, r.s, r.t, r.d] := .tail _ (.tail _ (.tail _ (.head _)))
  have W1 := W.put { st with hb := st.H.length } rfl rfl rfl
  refine call_of (fn := f_trial) rfl rfl (s_loc (.attr (.loc rfl) W.v.a9) (s_loc (.attr (.loc rfl) W.v.a10) (c_loc (x_M (.loc rfl) W.v.cl me12 .nil (mark_ok W.v (s_attr (.blt (.one (.attr (.loc rfl) W.v.a6)) W.v.hlen) (.loc rfl) (W.v.put9 _) (s_attr (.blt (.one (.attr (.loc rfl) W1.v.a7)) W1.v.slen) (.loc rfl) (W1.v.put10 _) ?_)))))))
  have W2 := W1.put { st with hb := st.H.length, bb := st.S.length } rfl rfl rfl
  have s2 : Stay [r.h, r.s, r.t, r.d] σ ((σ.set r.d (.ns (nsL r { st with hb := st.H.length }))).set r.d (.ns (nsL r { st with hb := st.H.length, bb := st.S.length }))) := .trans (.set hin) (.set hin)
  generalize hσ2 : (σ.set r.d (.ns (nsL r { st with hb := st.H.length }))).set r.d (.ns (nsL r { st with hb := st.H.length, bb := st.S.length })) = σ2 at W2 s2
  have F2 : WF2 { st with hb := st.H.length, bb := st.S.length } fu := F.re rfl rfl
  obtain ⟨B, bk, F3, _⟩ := uniP_back (occ := occ) F2 W.v.hl (ha.re rfl rfl) (hb.re rfl rfl)
  obtain ⟨t1, _, _⟩ := uniP_re (st' := { st with hb := st.H.length, bb := st.S.length }) (occ := occ) F W.v.hl ha hb rfl rfl
  have hB : B.filter (trl st.H.length st.S.length) = B := List.filter_eq_self.mpr fun e he => by
    have h := bk.self e he
    unfold selfAt at h
    unfold trl
    split at h
    · rename_i z
      have : e.toNat < st.H.length := (List.getElem?_eq_some_iff.mp h).1
      rw [if_pos z]; exact decide_eq_true (by exact Om158 z this)
    · rename_i z
      have : (-1 - e).toNat < st.S.length := (List.getElem?_eq_some_iff.mp h).1
      rw [if_neg z]; exact decide_eq_true (by exact Om159 z this)
  refine c_loc (x_F (.cons (.loc rfl) (.cons (.loc rfl) (.cons (.loc rfl) (.one (.loc rfl))))) (unify_ok W2 F2 (ha.re rfl rfl) (hb.re rfl rfl) tl fun σ₁ W3 s3 => c_expr (x_M (.loc rfl) W3.v.cl me13 (.one (.loc rfl)) (undo_ok W3.v (bk.T.trans (by rw [hB])) (fun e he => back_entries bk e he) fun σ₂ v4 s4 l4 => ?_))))
  rw [back_undo bk, bk.hb, bk.bb] at v4
  have W4 := W3.turn v4 s4
  have W5 := W4.put { st with bb := st.S.length } rfl rfl rfl
  have W6 := W5.put st rfl rfl rfl
  rw [t1]
  exact s_attr (.loc rfl) (.loc rfl) (W4.v.put9 _) (s_attr (.loc rfl) (.loc rfl) (W5.v.put10 _) (s_ret (.loc rfl) (qq _ W6 (same_views W.v W6.v ((((s2.trans (s3.weak hbig)).trans (s4.weak hbig)).trans (.set hin)).trans (.set hin))))))
end

end Mine
end

/-! D13 -/
noncomputable section
set_option maxHeartbeats 200000
open PySem
namespace Mine

noncomputable def atomsL : List PySem.Str := (["[]", ".", "{}", "-", "+", "*", "/", ",", "|", ";", "->", "\\+", ":-", "?-", "-->", "!", "true", "fail", "false", "call", "=", "^", "error", "", "end_of_file", "system", "$VAR", "catch", "throw"] : List String).map PySem.Str.ofString
noncomputable def functL : List (PySem.Str × Int) := ([(".", 2), (",", 2), (";", 2), ("->", 2), ("\\+", 1), (":-", 2), (":-", 1), ("?-", 1), ("-->", 2), ("{}", 1), ("=", 2), ("^", 2), ("-", 1), ("-", 2), ("+", 2), ("/", 2), ("error", 2), ("$VAR", 1), ("catch", 3), ("throw", 1), ("!", 0), ("true", 0), ("fail", 0), ("false", 0), ("call", 1), ("call", 2), ("call", 3), ("call", 4), ("call", 5), ("call", 6), ("call", 7), ("call", 8)] : List (String × Int)).map fun p => (PySem.Str.ofString p.1, p.2)
noncomputable def rowV (p : PySem.Str × Int) : V := .tup [.str p.1, .int p.2]

section
variable {m : Nat} {σ σ' : AH} {sy : Nat} {q : Rs} {tx : List PySem.Str} {fu : List (Int × Int)} {Q : V → AH → Prop}
theorem atoms_ok (h : Q (.tup (atomsL.map .str)) σ) : callN P2 fns2 (m + 1) 0 [] σ Q := call_of (fn := f_fixed_atoms) rfl rfl h
theorem functs_ok (h : Q (.tup (functL.map rowV)) σ) : callN P2 fns2 (m + 1) 1 [] σ Q := call_of (fn := f_fixed_functors) rfl rfl h

noncomputable def posOf {K : Type} [DecidableEq K] : List K → K → Option Nat
  | [], _ => none
  | x :: l, k => if x = k then some 0 else (posOf l k).map (· + 1)
noncomputable def numP {K : Type} [DecidableEq K] (l : List K) (k : K) : Nat × List K := match posOf l k with
  | some i => (i, l)
  | none => (l.length, l ++ [k])
theorem enum_at {K : Type} [DecidableEq K] (k : K) : ∀ (l : List K) (n : Nat), vAt (enumV l n) k = (posOf l k).map fun i => .int ((n + i : Nat) : Int)
  | [], n => rfl
  | x :: l, n => by
    have ih := enum_at k l (n + 1)
    unfold vAt at ih ⊢
    unfold enumV posOf
    by_cases h : x = k
    · simp [h]
    · rw [if_neg h, Option.map_map]
      simp only [List.find?_cons, h, decide_false]
      rw [ih]
      cases posOf l k with
      | none => rfl
      | some i => simp; exact Om160
theorem enum_any {K : Type} [DecidableEq K] (k : K) : ∀ (l : List K) (n : Nat), (enumV l n).any (fun kv => decide (kv.1 = k)) = (posOf l k).isSome
  | [], n => rfl
  | x :: l, n => by
    unfold enumV posOf
    rw [List.any_cons, enum_any k l (n + 1)]
    by_cases h : x = k
    · simp [h]
    · simp [h]
theorem enum_snoc {K : Type} (k : K) : ∀ (l : List K) (n : Nat), enumV (l ++ [k]) n = enumV l n ++ [(k, .int ((n + l.length : Nat) : Int))]
  | [], n => rfl
  | x :: l, n => by
    show (x, .int n) :: enumV (l ++ [k]) (n + 1) = (x, .int n) :: (enumV l (n + 1) ++ _)
    rw [enum_snoc k l (n + 1)]
    simp
    exact Om160
theorem enum_put {K : Type} [DecidableEq K] (k : K) (l : List K) (h : posOf l k = none) : vPut (enumV l 0) k (.int l.length) = enumV (l ++ [k]) 0 := by
  unfold vPut
  rw [enum_any, h, if_neg (by simp), enum_snoc]
  simp
theorem enum_len {K : Type} : ∀ (l : List K) (n : Nat), (enumV l n).length = l.length
  | [], _ => rfl
  | x :: l, n => by unfold enumV; rw [List.length_cons, List.length_cons, enum_len]
theorem posOf_map {K J : Type} [DecidableEq K] [DecidableEq J] (f : K → J) (hf : ∀ a b, f a = f b → a = b) (k : K) : ∀ l : List K, posOf (l.map f) (f k) = posOf l k
  | [] => rfl
  | x :: l => by
    rw [List.map_cons, posOf, posOf, posOf_map f hf k l]
    by_cases h : x = k
    · rw [if_pos h, if_pos (by rw [h])]
    · rw [if_neg h, if_neg (fun e => h (hf _ _ e))]
theorem key2_inj (a b : Int × Int) (h : key2 a = key2 b) : a = b := by
  unfold key2 at h
  simp at h
  exact Prod.ext h.1 h.2

theorem map_snoc {α : Type} (f : α → V) (l : List α) (a : α) : l.map f ++ [f a] = (l ++ [a]).map f := by rw [List.map_append]; rfl
noncomputable def syL (q : Rs) : List Nat := [q.tx, q.an, q.fu, q.fn]

theorem atom_ok (v : SyView σ sy q tx fu) (tl : tx.length < 900) {t : PySem.Str} (h : ∀ σ', SyView σ' sy q (numP tx t).2 fu → Stay (syL q) σ σ' → σ'.length = σ.length → Q (.int (numP tx t).1) σ') : callN P2 fns2 (m + 1) 3 [.obj sy, .str t] σ Q := by
  have hget : methV σ 2 (.obj q.an) [.str t, .int (-1)] = some (((posOf tx t).map fun (i : Nat) => V.int (i : Int)).getD (.int (-1)), σ) := by
    rw [meth_of v.an]
    simp only [mObj, mDict, dictAt, enum_at, Option.map_some, Nat.zero_add]
  refine call_of (fn := f_Symbols_atom) rfl rfl (s_loc (.meth (.attr (.loc rfl) v.a1) (ok_of v.an rfl) (.cons (.loc rfl) (.one (.neg .kint))) hget) ?_)
  unfold numP at h
  cases hp : posOf tx t with
  | some i =>
    rw [hp] at h
    exact s_yes (.cmp (.loc rfl) .kint rfl) (Int.natCast_nonneg i) (s_ret (.loc rfl) (h σ v (.refl _ _) rfl))
  | none =>
    rw [hp] at h
    have e5 : q.an ≠ q.fu := ne_of_get v.an v.lfu (fun h => nomatch h)
    have hlen := list_len v.ltx (by rw [List.length_map]; exact Om161 tl)
    rw [List.length_map] at hlen
    have i1 := get_set (o := .list (tx.map .str ++ [.str t])) v.inst (ne_of_get v.ltx v.inst (fun h => nomatch h))
    have i2 := get_set (o := .list (tx.map .str ++ [.str t])) v.ns (ne_of_get v.ltx v.ns (fun h => nomatch h))
    have i3 := get_hit (o := .list (tx.map .str ++ [.str t])) v.ltx
    have i4 := get_set (o := .list (tx.map .str ++ [.str t])) v.an (ne_of_get v.ltx v.an (fun h => nomatch h))
    have i5 := get_set (o := .list (tx.map .str ++ [.str t])) v.lfu v.dtf
    have i6 := get_set (o := .list (tx.map .str ++ [.str t])) v.fn (ne_of_get v.ltx v.fn (fun h => nomatch h))
    have s1 : Stay (syL q) σ (σ.set q.tx (.list (tx.map .str ++ [.str t]))) := .set (.head _)
    have l1 : (σ.set q.tx (.list (tx.map .str ++ [.str t]))).length = σ.length := List.length_set ..
    refine s_no (.cmp (.loc rfl) .kint rfl) (by decide) (s_loc (.blt (.one (.attr (.loc rfl) v.a0)) hlen) (s_expr (.meth (.attr (.loc rfl) v.a0) (list_mok v.ltx).1 (.one (.loc rfl)) (list_app v.ltx v.t0 (by rw [List.length_map]; exact Om161 tl))) ?_))
    generalize σ.set q.tx (.list (tx.map .str ++ [.str t])) = τ at i1 i2 i3 i4 i5 i6 s1 l1
    have a1 : attrAt τ (.obj sy) 1 = some (.obj q.an) := by
      simp only [attrAt, i1, i2]; rfl
    have hput : itemPut τ (.obj q.an) (.str t) (.int tx.length) = some (τ.set q.an (.dictS (enumV (tx ++ [t]) 0))) := by
      simp only [itemPut, i4, dictPut]
      rw [if_pos (by rw [enum_len]; exact Om162 tl), enum_put t tx hp]; rfl
    refine s_sub (.loc rfl) (.attr (.loc rfl) a1) (.loc rfl) hput (s_ret (.loc rfl) (h _ ⟨get_set i1 (ne_of_get v.an v.inst (fun h => nomatch h)), get_set i2 (ne_of_get v.an v.ns (fun h => nomatch h)), ?_, get_hit i4, get_set i5 e5, get_set i6 (ne_of_get v.an v.fn (fun h => nomatch h)), v.dtf, v.t0, v.f0, ?_, v.fl⟩ (s1.trans (.set (.tail _ (.head _)))) ((List.length_set ..).trans l1)))
    · show _ = some (AObj.list ((tx ++ [t]).map .str)); exact (get_set i3 (ne_of_get i4 i3 (fun h => nomatch h))).trans (congrArg (fun l => some (AObj.list l)) (map_snoc _ _ _))
    · show (tx ++ [t]).length < 1000; rw [List.length_append, List.length_singleton]; exact Om163 tl

theorem functor_ok (v : SyView σ sy q tx fu) (fl : fu.length < 900) {c : Int × Int} (h : ∀ σ', SyView σ' sy q tx (numP fu c).2 → Stay (syL q) σ σ' → σ'.length = σ.length → Q (.int (numP fu c).1) σ') : callN P2 fns2 (m + 1) 4 [.obj sy, .int c.1, .int c.2] σ Q := by
  have hkey : keyInts [.int c.1, .int c.2] = some (key2 c) := rfl
  have hpm := posOf_map key2 key2_inj c fu
  have hget : methV σ 2 (.obj q.fn) [cV c, .int (-1)] = some (((posOf fu c).map fun (i : Nat) => V.int (i : Int)).getD (.int (-1)), σ) := by
    rw [meth_of v.fn]
    simp only [mObj, mDict, cV, dictAt, hkey, Option.map_some, enum_at, hpm, Nat.zero_add]
  refine call_of (fn := f_Symbols_functor) rfl rfl (s_loc (v := cV c) (.tup (.cons (.loc rfl) (.one (.loc rfl)))) (s_loc (.meth (.attr (.loc rfl) v.a3) (ok_of v.fn rfl) (.cons (.loc rfl) (.one (.neg .kint))) hget) ?_))
  unfold numP at h
  cases hp : posOf fu c with
  | some i =>
    rw [hp] at h
    exact s_yes (.cmp (.loc rfl) .kint rfl) (Int.natCast_nonneg i) (s_ret (.loc rfl) (h σ v (.refl _ _) rfl))
  | none =>
    rw [hp] at h
    have hlen := list_len v.lfu (by rw [List.length_map]; exact Om161 fl)
    rw [List.length_map] at hlen
    have i1 := get_set (o := .list (fu.map cV ++ [cV c])) v.inst (ne_of_get v.lfu v.inst (fun h => nomatch h))
    have i2 := get_set (o := .list (fu.map cV ++ [cV c])) v.ns (ne_of_get v.lfu v.ns (fun h => nomatch h))
    have i3 := get_set (o := .list (fu.map cV ++ [cV c])) v.ltx (Ne.symm v.dtf)
    have i4 := get_set (o := .list (fu.map cV ++ [cV c])) v.an (ne_of_get v.lfu v.an (fun h => nomatch h))
    have i5 := get_hit (o := .list (fu.map cV ++ [cV c])) v.lfu
    have i6 := get_set (o := .list (fu.map cV ++ [cV c])) v.fn (ne_of_get v.lfu v.fn (fun h => nomatch h))
    have s1 : Stay (syL q) σ (σ.set q.fu (.list (fu.map cV ++ [cV c]))) := .set (.tail _ (.tail _ (.head _)))
    have l1 : (σ.set q.fu (.list (fu.map cV ++ [cV c]))).length = σ.length := List.length_set ..
    refine s_no (.cmp (.loc rfl) .kint rfl) (by decide) (s_loc (.blt (.one (.attr (.loc rfl) v.a2)) hlen) (s_expr (.meth (.attr (.loc rfl) v.a2) (list_mok v.lfu).1 (.one (.loc rfl)) (list_app v.lfu v.f0 (by rw [List.length_map]; exact Om161 fl))) ?_))
    generalize σ.set q.fu (.list (fu.map cV ++ [cV c])) = τ at i1 i2 i3 i4 i5 i6 s1 l1
    have a3 : attrAt τ (.obj sy) 3 = some (.obj q.fn) := by
      simp only [attrAt, i1, i2]; rfl
    have hput : itemPut τ (.obj q.fn) (cV c) (.int fu.length) = some (τ.set q.fn (.dictT (enumV ((fu ++ [c]).map key2) 0))) := by
      simp only [itemPut, i6, cV, dictPut, hkey]
      rw [if_pos (by rw [enum_len, List.length_map]; exact Om162 fl)]
      have := enum_put (key2 c) (fu.map key2) (by rw [hpm]; exact hp)
      rw [List.length_map] at this
      simp only [Option.map_some, this]
      rw [List.map_append]; rfl
    refine s_sub (.loc rfl) (.attr (.loc rfl) a3) (.loc rfl) hput (s_ret (.loc rfl) (h _ ⟨get_set i1 (ne_of_get v.fn v.inst (fun h => nomatch h)), get_set i2 (ne_of_get v.fn v.ns (fun h => nomatch h)), get_set i3 (ne_of_get v.fn v.ltx (fun h => nomatch h)), get_set i4 (ne_of_get v.fn v.an (fun h => nomatch h)), ?_, get_hit i6, v.dtf, v.t0, v.f0, v.tl, ?_⟩ (s1.trans (.set (.tail _ (.tail _ (.tail _ (.head _)))))) ((List.length_set ..).trans l1)))
    · show _ = some (AObj.list ((fu ++ [c]).map cV)); exact (get_set i5 (ne_of_get i6 i5 (fun h => nomatch h))).trans (congrArg (fun l => some (AObj.list l)) (map_snoc _ _ _))
    · show (fu ++ [c]).length < 1000; rw [List.length_append, List.length_singleton]; exact Om163 fl

noncomputable def funcP (tx : List PySem.Str) (fu : List (Int × Int)) (t : PySem.Str) (n : Int) : Nat × List PySem.Str × List (Int × Int) :=
  let a := numP tx t
  let f := numP fu ((a.1 : Int), n)
  (f.1, a.2, f.2)
theorem func_ok (v : SyView σ sy q tx fu) (tl : tx.length < 900) (fl : fu.length < 900) {t : PySem.Str} {n : Int} (h : ∀ σ', SyView σ' sy q (funcP tx fu t n).2.1 (funcP tx fu t n).2.2 → Stay (syL q) σ σ' → σ'.length = σ.length → Q (.int (funcP tx fu t n).1) σ') : callN P2 fns2 (m + 2) 5 [.obj sy, .str t, .int n] σ Q :=
  call_of (fn := f_Symbols_func) rfl rfl (c_ret (x_M' (.loc rfl) v.cl ms1 (l_call (x_M (.loc rfl) v.cl ms0 (.one (.loc rfl)) (atom_ok v tl fun σ₁ v1 s1 l1 => l_ev (.one (.loc rfl)) (functor_ok (c := (((numP tx t).1 : Int), n)) v1 fl fun σ₂ v2 s2 l2 => h σ₂ v2 (s1.trans s2) (l2.trans l1)))))))
end

end Mine
end

/-! D14 -/
noncomputable section
set_option maxHeartbeats 200000
open PySem
namespace Mine

section
variable {m : Nat} {σ σ' : AH} {sy so : Nat} {r : Rc} {st : St} {q : Rs} {tx : List PySem.Str} {fu : List (Int × Int)} {Q : V → AH → Prop}


noncomputable def initF (tx : List PySem.Str) (fu : List (Int × Int)) : List (PySem.Str × Int) → List PySem.Str × List (Int × Int)
  | [] => (tx, fu)
  | (t, n) :: l => initF (funcP tx fu t n).2.1 (funcP tx fu t n).2.2 l
noncomputable def initA (tx : List PySem.Str) : List PySem.Str → List PySem.Str
  | [] => tx
  | t :: l => initA (numP tx t).2 l
theorem numP_len {K : Type} [DecidableEq K] (l : List K) (k : K) : (numP l k).2.length ≤ l.length + 1 := by
  unfold numP; split <;> simp

theorem atoms_loop {cf : Cf} (hcf : cf = callX P2 fns2 (m + 1)) {all : List V} {src : Src} : ∀ (l : List PySem.Str) (tx : List PySem.Str) (σ : AH) (ρ : En) (Q : Fl → En → AH → Prop), SyView σ sy q tx fu → tx.length + l.length < 800 → (∀ τ, stays τ all src) → ρ 0 = some (.obj sy) →
    (∀ σ' ρ', SyView σ' sy q (initA tx l) fu → Stay (syL q) σ σ' → σ'.length = σ.length → ρ' 0 = some (.obj sy) → Q .next ρ' σ') → forGo all src (wT P2 cf (.loc 1)) (wSL P2 cf (.cons (.expr (.callM 0 (.loc 0) (.cons (.loc 1) .nil))) .nil)) (l.map .str) ρ σ Q
  | [], tx, σ, ρ, Q, v, hl, hs, h0, h => g_end (hs σ) (h σ ρ v (.refl _ _) rfl h0)
  | t :: l, tx, σ, ρ, Q, v, hl, hs, h0, h => by
    subst hcf
    rw [List.length_cons] at hl
    exact g_go (hs σ) (c_expr (x_M (.loc h0) v.cl ms0 (.one (.loc rfl)) (atom_ok v (by exact Om164 hl) fun σ₁ v1 s1 l1 => atoms_loop rfl l _ σ₁ _ Q v1 (by have := numP_len tx t; exact Om165 hl this) hs h0 fun σ₂ ρ₂ v2 s2 l2 h2 => h σ₂ ρ₂ v2 (s1.trans s2) (l2.trans l1) h2)))

theorem functs_loop {cf : Cf} (hcf : cf = callX P2 fns2 (m + 2)) {all : List V} {src : Src} : ∀ (l : List (PySem.Str × Int)) (tx : List PySem.Str) (fu : List (Int × Int)) (σ : AH) (ρ : En) (Q : Fl → En → AH → Prop), SyView σ sy q tx fu → tx.length + l.length < 800 → fu.length + l.length < 800 → (∀ τ, stays τ all src) → ρ 0 = some (.obj sy) →
    (∀ σ' ρ', SyView σ' sy q (initF tx fu l).1 (initF tx fu l).2 → Stay (syL q) σ σ' → σ'.length = σ.length → Q .next ρ' σ') → forGo all src (wT P2 cf (.loc 2)) (wSL P2 cf (.cons (.expr (.callM 2 (.loc 0) (.cons (.sub (.loc 2) (.kint 0)) (.cons (.sub (.loc 2) (.kint 1)) .nil)))) .nil)) (l.map rowV) ρ σ Q
  | [], tx, fu, σ, ρ, Q, v, hl, hf, hs, h0, h => g_end (hs σ) (h σ ρ v (.refl _ _) rfl)
  | (t, n) :: l, tx, fu, σ, ρ, Q, v, hl, hf, hs, h0, h => by
    subst hcf
    rw [List.length_cons] at hl hf
    have i0 : itemAt σ (rowV (t, n)) (.int 0) = some (.str t) := rfl
    have i1 : itemAt σ (rowV (t, n)) (.int 1) = some (.int n) := rfl
    have k1 := numP_len tx t
    have k2 := numP_len fu (((numP tx t).1 : Int), n)
    have k3 : (funcP tx fu t n).2.1 = (numP tx t).2 := rfl
    have k4 : (funcP tx fu t n).2.2 = (numP fu (((numP tx t).1 : Int), n)).2 := rfl
    exact g_go (hs σ) (c_expr (x_M (.loc h0) v.cl ms2 (.cons (.sub (.loc rfl) .kint i0) (.one (.sub (.loc rfl) .kint i1))) (func_ok v (by exact Om164 hl) (by exact Om166 hl hf) fun σ₁ v1 s1 l1 => functs_loop rfl l _ _ σ₁ _ Q v1 (by rw [k3]; exact Om165 hl k1) (by rw [k4]; exact Om165 hf k2) hs h0 fun σ₂ ρ₂ v2 s2 l2 => h σ₂ ρ₂ v2 (s1.trans s2) (l2.trans l1))))

noncomputable def tx0 : List PySem.Str := (initF (initA [] atomsL) [] functL).1
noncomputable def fu0 : List (Int × Int) := (initF (initA [] atomsL) [] functL).2

theorem init_val {so c d a : Nat} {fs : List (Nat × V)} (u : V) (i0 : σ[so]? = some (.inst c d)) (i1 : σ[d]? = some (.ns fs)) : ∃ σ', attrPut σ (.obj so) a u = some σ' ∧ σ'[so]? = some (.inst c d) ∧ σ'[d]? = some (.ns (nsPut a u fs)) ∧ Stay [d] σ σ' := by
  have hne : d ≠ so := ne_of_get i1 i0 (fun h => nomatch h)
  refine ⟨_, attr_put i0 i1, ?_, ?_, .set (.head _)⟩
  · rw [set_get, if_neg hne]; exact i0
  · rw [set_get, if_pos rfl, if_pos (lt_of_get i1)]
theorem init_obj {so c d a : Nat} {fs : List (Nat × V)} (o : AObj) (i0 : σ[so]? = some (.inst c d)) (i1 : σ[d]? = some (.ns fs)) : ∃ σ', attrPut (σ ++ [o]) (.obj so) a (.obj σ.length) = some σ' ∧ σ'[so]? = some (.inst c d) ∧ σ'[d]? = some (.ns (nsPut a (.obj σ.length) fs)) ∧ Stay [d] σ σ' ∧ σ'[σ.length]? = some o := by
  obtain ⟨σ', p, a0, a1, s⟩ := init_val (a := a) (.obj σ.length) (app_get (l := [o]) i0) (app_get (l := [o]) i1)
  refine ⟨σ', p, a0, a1, (Stay.app _).trans s, s.get _ _ (fun m => ?_) snoc_get⟩
  exact Nat.ne_of_gt (lt_of_get i1) (List.mem_singleton.mp m)
theorem ne_lt {a b : Nat} (h : b < a) : a ∉ [b] := fun m => Nat.ne_of_gt h (List.mem_singleton.mp m)
theorem ne_far {σ' : AH} {i : Nat} {o : AObj} (e : σ[i]? = some o) (h : σ.length ≤ σ'.length) : i ≠ σ'.length := Nat.ne_of_lt (Nat.lt_of_lt_of_le (lt_of_get e) h)

theorem symbols_init {d : Nat} (i0 : σ[sy]? = some (.inst 0 d)) (i1 : σ[d]? = some (.ns [])) (hpos : 0 < σ.length) (h : ∀ σ' q, SyView σ' sy q tx0 fu0 → q.d = d → (∀ i ∈ syL q, σ.length ≤ i ∧ i < σ'.length) → Stay [d] σ σ' → Q .none σ') : callN P2 fns2 (m + 3) 2 [.obj sy] σ Q := by
  obtain ⟨σ1, p1, a0, a1, s1, a2⟩ := init_obj (a := 0) (.list []) i0 i1
  obtain ⟨σ2, p2, b0, b1, s2, b3⟩ := init_obj (a := 1) (.dictS []) a0 a1
  obtain ⟨σ3, p3, c0, c1, s3, c4⟩ := init_obj (a := 2) (.list []) b0 b1
  obtain ⟨σ4, p4, d0, d1, s4, d5⟩ := init_obj (a := 3) (.dictT []) c0 c1
  have ld := lt_of_get i1
  have e1 := s1.len
  have e2 := s2.len
  have e3 := s3.len
  have d2 := ((s2.trans s3).trans s4).get _ _ (ne_lt ld) a2
  have d3 := (s3.trans s4).get _ _ (ne_lt (Nat.lt_of_lt_of_le ld e1)) b3
  have d4 := s4.get _ _ (ne_lt (Nat.lt_of_lt_of_le ld (Nat.le_trans e1 e2))) c4
  have f0 : σ.length ≤ σ2.length := Nat.le_trans e1 e2
  have g3 : σ.length ≤ σ3.length := Nat.le_trans f0 e3
  have v0 : SyView σ4 sy ⟨d, σ.length, σ1.length, σ2.length, σ3.length⟩ [] [] := ⟨d0, d1, d2, d3, d4, d5, ne_far a2 e2, Nat.ne_of_gt hpos, Nat.ne_of_gt (Nat.lt_of_lt_of_le hpos f0), (by decide : (0 : Nat) < 1000), (by decide : (0 : Nat) < 1000)⟩
  have sa : Stay [d] σ σ4 := ((s1.trans s2).trans s3).trans s4
  refine call_of (fn := f_Symbols___init__) rfl rfl (s_attr (.list .nil) (.loc rfl) p1 (s_attr .dict0 (.loc rfl) p2 (s_attr (.list .nil) (.loc rfl) p3 (s_attr .dict0 (.loc rfl) p4 (s_forF (x_F .nil (atoms_ok (it_ok rfl (atoms_loop (m := m + 1) rfl atomsL [] σ4 _ _ v0 (by decide) (fun _ => trivial) rfl fun σ5 ρ5 v5 s5 l5 h5 => s_forF (x_F .nil (functs_ok (it_ok rfl (functs_loop (m := m) rfl functL _ [] σ5 ρ5 _ v5 (by decide +kernel) (by decide) (fun _ => trivial) h5 fun σ6 ρ6 v6 s6 l6 => ?_)))))))))))))
  refine h σ6 _ v6 rfl (List.forall_mem_cons.mpr ⟨⟨Nat.le_refl _, lt_of_get v6.ltx⟩, List.forall_mem_cons.mpr ⟨⟨e1, lt_of_get v6.an⟩, List.forall_mem_cons.mpr ⟨⟨f0, lt_of_get v6.lfu⟩, List.forall_mem_singleton.mpr ⟨g3, lt_of_get v6.fn⟩⟩⟩⟩) ?_
  have k : Stay (d :: syL ⟨d, σ.length, σ1.length, σ2.length, σ3.length⟩) σ σ6 := ((sa.weak fun i hi => List.mem_append_left _ hi).trans (s5.weak fun i hi => .tail _ hi)).trans (s6.weak fun i hi => .tail _ hi)
  exact k.strong (List.forall_mem_cons.mpr ⟨.inl (.head _), List.forall_mem_cons.mpr ⟨.inr (Nat.le_refl _), List.forall_mem_cons.mpr ⟨.inr e1, List.forall_mem_cons.mpr ⟨.inr f0, List.forall_mem_singleton.mpr (.inr g3)⟩⟩⟩⟩)
end

end Mine
end

/-! D15 -/
noncomputable section
set_option maxHeartbeats 200000
open PySem
namespace Mine

section
variable {m : Nat} {σ σ' : AH} {sy so : Nat} {r : Rc} {st : St} {q : Rs} {tx : List PySem.Str} {fu : List (Int × Int)} {Q : V → AH → Prop}

noncomputable def st0 : St := ⟨[], [], [], 0, 0⟩
theorem cells_init {d : Nat} (i0 : σ[so]? = some (.inst 2 d)) (i1 : σ[d]? = some (.ns [])) (hpos : 0 < σ.length) (h : ∀ σ' r, View σ' so r st0 → r.d = d → r.sy = sy → (∀ i ∈ [r.h, r.s, r.t], σ.length ≤ i ∧ i < σ'.length) → Stay [d] σ σ' → Q .none σ') : callN P2 fns2 (m + 1) 11 [.obj so, .obj sy] σ Q := by
  obtain ⟨σ1, p1, a0, a1, s1⟩ := init_val (a := 4) (.obj sy) i0 i1
  obtain ⟨σ2, p2, b0, b1, s2⟩ := init_val (a := 5) (.int 100000) a0 a1
  obtain ⟨σ3, p3, c0, c1, s3, c2⟩ := init_obj (a := 6) (.list []) b0 b1
  obtain ⟨σ4, p4, d0, d1, s4, d3⟩ := init_obj (a := 7) (.list []) c0 c1
  obtain ⟨σ5, p5, e0, e1, s5, e4⟩ := init_obj (a := 8) (.list []) d0 d1
  obtain ⟨σ6, p6, f0, f1, s6⟩ := init_val (a := 9) (.int 0) e0 e1
  obtain ⟨σ7, p7, g0', g1', s7⟩ := init_val (a := 10) (.int 0) f0 f1
  have ld := lt_of_get i1
  have l2 : σ.length ≤ σ2.length := (s1.trans s2).len
  have l3 : σ.length ≤ σ3.length := Nat.le_trans l2 s3.len
  have l4 : σ.length ≤ σ4.length := Nat.le_trans l3 s4.len
  have s67 := s6.trans s7
  have t4 := s67.get _ _ (ne_lt (Nat.lt_of_lt_of_le ld l4)) e4
  have t3 := (s5.trans s67).get _ _ (ne_lt (Nat.lt_of_lt_of_le ld l3)) d3
  have t2 := ((s4.trans s5).trans s67).get _ _ (ne_lt (Nat.lt_of_lt_of_le ld l2)) c2
  have v : View σ7 so ⟨d, σ2.length, σ3.length, σ4.length, sy⟩ st0 :=
    ⟨g0', g1', t2, t3, t4, ne_far c2 (Nat.le_refl _), ne_far c2 s4.len, ne_far d3 (Nat.le_refl _), Nat.ne_of_gt (Nat.lt_of_lt_of_le hpos l2), Nat.ne_of_gt (Nat.lt_of_lt_of_le hpos l3), Nat.ne_of_gt (Nat.lt_of_lt_of_le hpos l4), by decide, by decide, by decide⟩
  exact call_of (fn := f_Cells___init__) rfl rfl (s_attr (.loc rfl) (.loc rfl) p1 (s_attr (.loc rfl) (.loc rfl) p2 (s_attr (.list .nil) (.loc rfl) p3 (s_attr (.list .nil) (.loc rfl) p4 (s_attr (.list .nil) (.loc rfl) p5 (s_attr .kint (.loc rfl) p6 (s_attr .kint (.loc rfl) p7 (h σ7 _ v rfl rfl (List.forall_mem_cons.mpr ⟨⟨l2, lt_of_get v.h⟩, List.forall_mem_cons.mpr ⟨⟨l3, lt_of_get v.s⟩, List.forall_mem_singleton.mpr ⟨l4, lt_of_get v.t⟩⟩⟩) ((((((s1.trans s2).trans s3).trans s4).trans s5).trans s6).trans s7)))))))))

/-- the urn that the law draws from -/
structure UrnV (σ : AH) (jo lo : Nat) (xs : List Int) (u : Int × Nat) : Prop where
  j : σ[jo]? = some (.list [.int u.1, .obj lo, .int u.2])
  l : σ[lo]? = some (.list (xs.map .int))
  j0 : jo ≠ 0
  xl : xs.length < 1000
/-- the urn after it is looked at -/
noncomputable def fillP (xs : List Int) (u : Int × Nat) : Int × Nat := if u.1 = 0 then match xs[u.2]? with
  | some g => (((g.natAbs : Nat) : Int), u.2 + 1)
  | none => u
  else u
noncomputable def pickP (xs : List Int) (u : Int × Nat) (k : Int) : Int × (Int × Nat) := ((fillP xs u).1 % k, ((fillP xs u).1 / k, (fillP xs u).2))
theorem pick_range {xs : List Int} {u : Int × Nat} {k : Int} (h : 0 < k) : 0 ≤ (pickP xs u k).1 ∧ (pickP xs u k).1 < k := ⟨Int.emod_nonneg _ (by exact Om8 h), Int.emod_lt_of_pos _ h⟩
theorem UrnV.same {jo lo : Nat} {xs : List Int} {u : Int × Nat} (v : UrnV σ jo lo xs u) {X : List Nat} (s : Stay X σ σ') (h1 : jo ∉ X) (h2 : lo ∉ X) : UrnV σ' jo lo xs u := ⟨s.get _ _ h1 v.j, s.get _ _ h2 v.l, v.j0, v.xl⟩
theorem UrnV.ne {jo lo : Nat} {xs : List Int} {u : Int × Nat} (v : UrnV σ jo lo xs u) : jo ≠ lo := fun z => by
  have h1 := v.j
  rw [z, v.l] at h1
  cases hx : xs with
  | nil => rw [hx] at h1; simp at h1
  | cons x l =>
    rw [hx] at h1
    cases l with
    | nil => simp at h1
    | cons y l => simp at h1
theorem UrnV.put {jo lo : Nat} {xs : List Int} {u : Int × Nat} (v : UrnV σ jo lo xs u) (u' : Int × Nat) : UrnV (σ.set jo (.list [.int u'.1, .obj lo, .int u'.2])) jo lo xs u' :=
  ⟨by rw [set_get, if_pos rfl, if_pos (lt_of_get v.j)], by rw [set_get, if_neg v.ne]; exact v.l, v.j0, v.xl⟩
theorem UrnV.i0 {jo lo : Nat} {xs : List Int} {u : Int × Nat} (v : UrnV σ jo lo xs u) : itemAt σ (.obj jo) (.int 0) = some (.int u.1) := list_item v.j (by exact Om167) (by simp) rfl
theorem UrnV.i1 {jo lo : Nat} {xs : List Int} {u : Int × Nat} (v : UrnV σ jo lo xs u) : itemAt σ (.obj jo) (.int 1) = some (.obj lo) := list_item v.j (by exact Om168) (by simp) rfl
theorem UrnV.i2 {jo lo : Nat} {xs : List Int} {u : Int × Nat} (v : UrnV σ jo lo xs u) : itemAt σ (.obj jo) (.int 2) = some (.int u.2) := list_item v.j (by exact Om169) (by simp) rfl
theorem UrnV.p0 {jo lo : Nat} {xs : List Int} {u : Int × Nat} (v : UrnV σ jo lo xs u) (n : Int) : itemPut σ (.obj jo) (.int 0) (.int n) = some (σ.set jo (.list [.int n, .obj lo, .int u.2])) := list_put (k := 0) (u := .int n) v.j v.j0 (by exact Om167) (by simp) (by simp)
theorem UrnV.p2 {jo lo : Nat} {xs : List Int} {u : Int × Nat} (v : UrnV σ jo lo xs u) (n : Int) : itemPut σ (.obj jo) (.int 2) (.int n) = some (σ.set jo (.list [.int u.1, .obj lo, .int n])) := list_put (k := 2) (u := .int n) v.j v.j0 (by exact Om169) (by simp) (by simp)
theorem UrnV.len {jo lo : Nat} {xs : List Int} {u : Int × Nat} (v : UrnV σ jo lo xs u) : bltV σ 0 [.obj lo] = some (.int xs.length, σ) := by
  have kl := list_len v.l (by rw [List.length_map]; have := v.xl; exact Om77 this)
  rwa [List.length_map] at kl

noncomputable def pickRest : SL := (.cons (.assign (.loc 2) (.bin .mod (.sub (.loc 0) (.kint 0)) (.loc 1))) (.cons (.augSub (.loc 0) (.kint 0) .fdiv (.loc 1)) (.cons (.ret (.loc 2)) .nil)))
theorem pick_rest {cf : Cf} {ρ : En} {Q : Fl → En → AH → Prop} {jo lo : Nat} {xs : List Int} {u : Int × Nat} {lim : Int} (v : UrnV σ jo lo xs u) (h0 : 0 < lim) (h1 : lim < 2 ^ 100) (r0 : ρ 0 = some (.obj jo)) (r1 : ρ 1 = some (.int lim))
    (h : ∀ ρ', Q (.ret (.int (u.1 % lim))) ρ' (σ.set jo (.list [.int (u.1 / lim), .obj lo, .int u.2]))) : wSL P2 cf pickRest ρ σ Q :=
  s_loc (.bin (.sub (.loc r0) .kint v.i0) (.loc r1) (if_pos h0)) (s_augSub (.loc r0) .kint v.i0 (.loc r1) (if_pos (by rw [decide_eq_true h0, decide_eq_true h1]; rfl)) (v.p0 _) (s_ret (.loc rfl) (h _)))
theorem pick_ok {jo lo : Nat} {xs : List Int} {u : Int × Nat} {lim : Int} (v : UrnV σ jo lo xs u) (h0 : 0 < lim) (h1 : lim < 2 ^ 100) (h : ∀ σ', UrnV σ' jo lo xs (pickP xs u lim).2 → Stay [jo] σ σ' → σ'.length = σ.length → Q (.int (pickP xs u lim).1) σ') : callN P2 fns2 (m + 1) 39 [.obj jo, .int lim] σ Q := by
  have fin : ∀ {τ : AH} {ρ : En} (u' : Int × Nat), fillP xs u = u' → UrnV τ jo lo xs u' → Stay [jo] σ τ → τ.length = σ.length → ρ 0 = some (.obj jo) → ρ 1 = some (.int lim) → wSL P2 (callX P2 fns2 m) pickRest ρ τ (fun fl _ σ' => match fl with | .ret v => Q v σ' | .exc => noX σ' | _ => Q .none σ') := by
    intro τ ρ u' e w s l r0 r1
    subst e
    exact pick_rest w h0 h1 r0 r1 fun _ => h _ (w.put ((fillP xs u).1 / lim, (fillP xs u).2)) (s.trans (.set (.head _))) ((List.length_set ..).trans l)
  refine call_of (fn := f__law_pick) rfl rfl (s_if (.bool (.and (.cmp (.sub (.loc rfl) .kint v.i0) .kint cmp_int) fun _ => .cmp (.sub (.loc rfl) .kint v.i2) (.blt (.one (.sub (.loc rfl) .kint v.i1)) v.len) rfl)) (fun hz => ?_) fun hz => fin u ?_ v (.refl _ _) rfl rfl rfl)
  · have hp : u.2 < xs.length := Int.ofNat_lt.mp hz.2
    have hg := List.getElem?_eq_getElem hp
    have k2 : itemAt σ (.obj lo) (.int (u.2 : Int)) = some (.int xs[u.2]) := list_item v.l (Int.natCast_nonneg _) (by rw [List.length_map]; have := v.xl; exact Om77 this) (by rw [List.getElem?_map]; exact congrArg _ hg)
    have hfu : fillP xs u = (((xs[u.2].natAbs : Nat) : Int), u.2 + 1) := by unfold fillP; rw [if_pos hz.1, hg]
    have w1 := v.put (((xs[u.2].natAbs : Nat) : Int), u.2)
    exact s_sub (.blt (.one (.blt (.one (.sub (.sub (.loc rfl) .kint v.i1) (.sub (.loc rfl) .kint v.i2) k2)) rfl)) rfl) (.loc rfl) .kint (v.p0 _) (s_augSub (.loc rfl) .kint w1.i2 .kint rfl (w1.p2 _) (fin _ hfu (w1.put (_, u.2 + 1)) (.trans (.set (.head _)) (.set (.head _))) (by rw [List.length_set, List.length_set]) rfl rfl))
  · unfold fillP
    by_cases h : u.1 = 0
    · rw [if_pos h, List.getElem?_eq_none (Nat.le_of_not_lt fun l => hz ⟨h, Int.ofNat_lt.mpr l⟩)]
    · rw [if_neg h]

theorem View.happ (v : View σ so r st) (c : Cell) : methV σ 0 (.obj r.h) [cV c] = some (.none, σ.set r.h (.list ((st.H ++ [c]).map cV))) := by
  rw [list_app v.h v.h0 (by rw [List.length_map]; have := v.hl; exact Om62 this), List.map_append]; rfl

theorem push_ok (v : View σ so r st) (hl : st.H.length < 59) {c : Cell} (h : ∀ σ', View σ' so r { st with H := st.H ++ [c] } → Stay [r.h] σ σ' → σ'.length = σ.length → Q (.int st.H.length) σ') : callN P2 fns2 (m + 1) 12 [.obj so, cV c] σ Q :=
  call_of (fn := f_Cells_push) rfl rfl (s_loc (.blt (.one (.attr (.loc rfl) v.a6)) v.hlen) (s_no (.cmp (.loc rfl) (.attr (.loc rfl) v.a5) rfl) (by exact Om170 hl) (s_expr (.meth (.attr (.loc rfl) v.a6) (list_mok v.h).1 (.one (.loc rfl)) (v.happ _)) (s_ret (.loc rfl) (h _ (v.setH (by rw [List.length_append, List.length_singleton]; exact Om171 hl)) (.set (.head _)) (List.length_set ..))))))
theorem newvar_ok (v : View σ so r st) (hl : st.H.length < 59) (h : ∀ σ', View σ' so r { st with H := st.H ++ [(0, (st.H.length : Int))] } → Stay [r.h] σ σ' → σ'.length = σ.length → Q (cV (0, (st.H.length : Int))) σ') : callN P2 fns2 (m + 2) 13 [.obj so] σ Q :=
  call_of (fn := f_Cells_new_var) rfl rfl (s_loc (v := cV (0, (st.H.length : Int))) (.tup (.cons (.glob g0) (.one (.blt (.one (.attr (.loc rfl) v.a6)) v.hlen)))) (c_expr (x_M (.loc rfl) v.cl me5 (.one (.loc rfl)) (push_ok v hl fun σ' a b c => s_ret (.loc rfl) (h σ' a b c)))))
theorem upFrom_up (a : Int) (k : Nat) : upFrom a 1 (k + 1) = .int a :: upFrom (a + 1) 1 k := rfl
theorem reserve_loop {cf : Cf} {all : List V} {L : Nat} : ∀ (k j : Nat) (st : St) (σ : AH) (ρ : En) (Q : Fl → En → AH → Prop), View σ so r st → st.H.length + k < 60 → ρ 0 = some (.obj so) → ρ 2 = some (.int L) →
    (∀ σ' ρ', View σ' so r { st with H := st.H ++ (List.range k).map fun i => (0, ((L + j + i : Nat) : Int)) } → Stay [r.h] σ σ' → σ'.length = σ.length → ρ' 2 = some (.int L) → Q .next ρ' σ') →
    forGo all .range (wT P2 cf (.loc 3)) (wSL P2 cf (.cons (.expr (.meth 0 (.attr (.loc 0) 6) (.cons (.tup (.cons (.glob 0) (.cons (.bin .add (.loc 2) (.loc 3)) .nil))) .nil))) .nil)) (upFrom (j : Int) 1 k) ρ σ Q
  | 0, j, st, σ, ρ, Q, v, hl, h0, h2, h => f_end (h σ ρ (by rw [show st.H ++ (List.range 0).map (fun i => ((0 : Int), ((L + j + i : Nat) : Int))) = st.H from List.append_nil _]; exact v) (.refl _ _) rfl h2)
  | k + 1, j, st, σ, ρ, Q, v, hl, h0, h2, h => by
    rw [upFrom_up]
    have hl' : (st.H ++ [((0 : Int), (L : Int) + (j : Int))]).length = st.H.length + 1 := by rw [List.length_append]; rfl
    have v1 := v.setH (H' := st.H ++ [(0, (L : Int) + (j : Int))]) (by exact Om172 hl hl')
    refine f_go (s_expr (.meth (.attr (.loc h0) v.a6) (list_mok v.h).1 (.one (.tup (.cons (.glob g0) (.one (.bin (.loc h2) (.loc rfl) rfl))))) (v.happ (0, (L : Int) + (j : Int)))) ?_)
    refine reserve_loop (L := L) k (j + 1) _ _ _ Q v1 (by rw [show ({ st with H := st.H ++ [(0, (L : Int) + (j : Int))] } : St).H.length = st.H.length + 1 from hl']; exact Om173 hl hl') h0 h2 fun σ' ρ' v' s' l' h' => ?_
    refine h σ' ρ' ?_ ((Stay.set (.head _)).trans s') (l'.trans (List.length_set ..)) h'
    have e2 : (List.range (k + 1)).map (fun i => ((0 : Int), ((L + j + i : Nat) : Int))) = (0, (L : Int) + (j : Int)) :: (List.range k).map fun i => (0, ((L + (j + 1) + i : Nat) : Int)) := by
      rw [List.range_succ_eq_map, List.map_cons, List.map_map]
      refine congr (congrArg _ rfl) (List.map_congr_left fun i _ => ?_)
      exact congrArg (fun n : Nat => ((0 : Int), (n : Int))) (Nat.add_right_comm (L + j) i 1)
    rw [e2]
    rw [List.append_assoc] at v'
    exact v'
theorem range1 {n : Nat} (h : n < 1000) : rangeV [.int (n : Int)] = some (upFrom 0 1 n) := by
  have h2 : small (n : Int) = true := by unfold small; simp; exact Om174 h
  show (if small (n : Int) = true then some (upFrom 0 1 (n : Int).toNat) else none) = _
  rw [if_pos h2, Int.toNat_natCast]
end

end Mine
end

/-! D16 -/
noncomputable section
set_option maxHeartbeats 200000
open PySem
namespace Mine

section
variable {m : Nat} {σ σ' : AH} {sy so : Nat} {r : Rc} {st : St} {q : Rs} {tx : List PySem.Str} {fu : List (Int × Int)} {Q : V → AH → Prop}

noncomputable def resLoop : SL := (.cons (.for_ (.loc 3) (.blt 1 (.cons (.loc 1) .nil)) (.cons (.expr (.meth 0 (.attr (.loc 0) 6) (.cons (.tup (.cons (.glob 0) (.cons (.bin .add (.loc 2) (.loc 3)) .nil))) .nil))) .nil)) (.cons (.ret (.loc 2)) .nil))
theorem res_rest (v : View σ so r st) {n : Nat} (hl : st.H.length + n < 60) {cf : Cf} {ρ : En} {Q : Fl → En → AH → Prop} (h0 : ρ 0 = some (.obj so)) (h1 : ρ 1 = some (.int n)) (h2 : ρ 2 = some (.int st.H.length))
    (h : ∀ σ' ρ', View σ' so r { st with H := st.H ++ (List.range n).map fun i => (0, ((st.H.length + i : Nat) : Int)) } → Stay [r.h] σ σ' → σ'.length = σ.length → Q (.ret (.int st.H.length)) ρ' σ') : wSL P2 cf resLoop ρ σ Q :=
  s_range (l_ev (.one (.loc h1)) (rg_ok (range1 (by exact Om175 hl)) (reserve_loop (L := st.H.length) n 0 st σ ρ _ v hl h0 h2 fun σ' ρ' v' s' l' h' => s_ret (.loc h') (h σ' ρ' v' s' l'))))
theorem reserve_ok (v : View σ so r st) {n : Nat} (hl : st.H.length + n < 60) (h : ∀ σ', View σ' so r { st with H := st.H ++ (List.range n).map fun i => (0, ((st.H.length + i : Nat) : Int)) } → Stay [r.h] σ σ' → σ'.length = σ.length → Q (.int st.H.length) σ') : callN P2 fns2 (m + 1) 14 [.obj so, .int n] σ Q :=
  call_of (fn := f_Cells_reserve) rfl rfl (s_loc (.blt (.one (.attr (.loc rfl) v.a6)) v.hlen) (s_no (.cmp (.bin (.loc rfl) (.loc rfl) rfl) (.attr (.loc rfl) v.a5) rfl) (by exact Om176 hl) (res_rest v hl rfl rfl rfl fun σ' ρ' a b c => h σ' a b c)))
theorem newblock_ok (W : Wd σ so r st q tx fu) {k : Int} {c : Int × Int} (h0 : 0 < k) (hk : fu[k.toNat]? = some c) (n : Nat) (hn : c.2 = n) (hl : st.H.length + (n + 1) < 60)
    (h : ∀ σ', Wd σ' so r { st with H := st.H ++ (6, k) :: (List.range n).map fun i => (0, ((st.H.length + 1 + i : Nat) : Int)) } q tx fu → Stay [r.h] σ σ' → σ'.length = σ.length → Q (cV (2, (st.H.length : Int))) σ') : callN P2 fns2 (m + 2) 25 [.obj so, .int k] σ Q := by
  refine call_of (fn := f_Cells_new_block) rfl rfl (s_no (.cmp (.loc rfl) (.glob g8) cmp_int) (Int.ne_of_gt h0) (c_loc (x_M' (.loc rfl) W.v.cl me7 (l_one (x_bin .kint (x_M (.attr (.loc rfl) W.v.a4) W.y.cl ms4 (.one (.loc rfl)) (arity_ok W.y (Int.le_of_lt h0) hk (bn_ok (v := .int ((n + 1 : Nat) : Int)) ?_ (reserve_ok W.v (n := n + 1) hl fun σ₁ v1 s1 l1 => ?_)))))))))
  · rw [hn]; exact congrArg (fun x => some (V.int x)) (Int.add_comm ..)
  have e2 : st.H ++ (List.range (n + 1)).map (fun i => ((0 : Int), ((st.H.length + i : Nat) : Int))) = st.H ++ (0, (st.H.length : Int)) :: (List.range n).map fun i => (0, ((st.H.length + 1 + i : Nat) : Int)) := by
    rw [List.range_succ_eq_map, List.map_cons, List.map_map]
    exact congrArg (fun l => st.H ++ (0, (st.H.length : Int)) :: l) (List.map_congr_left fun i _ => congrArg (fun n : Nat => ((0 : Int), (n : Int))) (Nat.add_right_comm st.H.length i 1))
  rw [e2] at v1
  have hlen : (st.H ++ (0, (st.H.length : Int)) :: (List.range n).map fun i => ((0 : Int), ((st.H.length + 1 + i : Nat) : Int))).length = st.H.length + (n + 1) := by rw [List.length_append, List.length_cons, List.length_map, List.length_range]
  have e3 : (st.H ++ (0, (st.H.length : Int)) :: (List.range n).map fun i => (0, ((st.H.length + 1 + i : Nat) : Int))).set (st.H.length : Int).toNat (6, k) = st.H ++ (6, k) :: (List.range n).map fun i => (0, ((st.H.length + 1 + i : Nat) : Int)) := by
    rw [Int.toNat_natCast, List.set_append_right _ _ (Nat.le_refl _), Nat.sub_self]; rfl
  have hp := v1.hput (6, k) (k := (st.H.length : Int)) (Int.natCast_nonneg _) (by show _ < List.length (st.H ++ _); rw [hlen, Int.toNat_natCast]; exact Om177 hlen)
  have v2 := v1.setH (H' := (st.H ++ (0, (st.H.length : Int)) :: (List.range n).map fun i => (0, ((st.H.length + 1 + i : Nat) : Int))).set (st.H.length : Int).toNat (6, k)) (by rw [List.length_set, hlen]; exact hl)
  dsimp only at hp v2
  rw [e3] at hp v2
  have s2 : Stay [r.h] σ (σ₁.set r.h (.list ((st.H ++ (6, k) :: (List.range n).map fun i => (0, ((st.H.length + 1 + i : Nat) : Int))).map cV))) := s1.trans (.set (.head _))
  exact s_sub (.tup (.cons (.glob g6) (.one (.loc rfl)))) (.attr (.loc rfl) v1.a6) (.loc rfl) hp (s_ret (.tup (.cons (.glob g2) (.one (.loc rfl)))) (h _ (W.turn v2 (s2.weak fun i h => List.mem_append_left [r.s, r.t] h)) s2 ((List.length_set ..).trans l1)))
end

end Mine
end

/-! D17 -/
noncomputable section
set_option maxHeartbeats 200000
open PySem
namespace Mine

section
variable {m : Nat} {σ σ' : AH} {sy so : Nat} {r : Rc} {st : St} {q : Rs} {tx : List PySem.Str} {fu : List (Int × Int)} {Q : V → AH → Prop}

theorem no_stack (hS : st.S = []) {c : Cell} (hv : Valid st c) : c.1 ≠ 1 := fun h => by
  have := (hv.2 h).2
  rw [hS] at this
  simp at this
theorem glob_ok (v : View σ so r st) (w : WF st) (hS : st.S = []) {c : Cell} (hv : Valid st c) (h : Q (cV (der st c)) σ) : callN P2 fns2 (m + 2) 18 [.obj so, cV c] σ Q :=
  call_of (fn := f_Cells_globalise) rfl rfl (c_loc (x_M (.loc rfl) v.cl me8 (.one (.loc rfl)) (deref_ok v w hv (s_no (.cmp (.sub (.loc rfl) .kint (tup0 _ _)) (.glob g1) cmp_int) (no_stack hS (der_end w hv).1) (s_ret (.loc rfl) h)))))

theorem newlis_ok (v : View σ so r st) (hl : st.H.length + 2 < 60) (h : ∀ σ', View σ' so r { st with H := st.H ++ (List.range 2).map fun i => (0, ((st.H.length + i : Nat) : Int)) } → Stay [r.h] σ σ' → σ'.length = σ.length → Q (cV (3, (st.H.length : Int))) σ') : callN P2 fns2 (m + 2) 25 [.obj so, .int 0] σ Q :=
  call_of (fn := f_Cells_new_block) rfl rfl (s_yes (.cmp (.loc rfl) (.glob g8) cmp_int) rfl (c_ret (x_tup (l_cons (.glob g3) (l_one (x_M (.loc rfl) v.cl me7 (.one .kint) (reserve_ok v (n := 2) hl fun σ₁ v1 s1 l1 => h σ₁ v1 s1 l1)))))))

/-- what a new structure is, and the store after it -/
noncomputable def newSP (st : St) (k : Int) (args : List Cell) : Cell × St :=
  if k = 0 then ((3, (st.H.length : Int)), { st with H := st.H ++ args }) else ((2, (st.H.length : Int)), { st with H := st.H ++ (6, k) :: args })

theorem block_ok (W : Wd σ so r st q tx fu) {k : Int} {c : Int × Int} (h0 : 0 ≤ k) (hk : fu[k.toNat]? = some c) (n : Nat) (hn : c.2 = n) (hz : k = 0 → n = 2) (hl : st.H.length + (n + 1) < 60)
    (h : ∀ σ' xs, xs.length = n → Wd σ' so r (newSP st k xs).2 q tx fu → Stay [r.h] σ σ' → σ'.length = σ.length → Q (cV (newSP st k xs).1) σ') : callN P2 fns2 (m + 2) 25 [.obj so, .int k] σ Q := by
  have hr : ∀ i ∈ [r.h], i ∈ [r.h, r.s, r.t] := fun i h => List.mem_append_left [r.s, r.t] h
  by_cases z : k = 0
  · subst z
    have e2 := hz rfl
    subst e2
    refine newlis_ok W.v (by exact Om178 hl) fun σ' v' s l => ?_
    exact h σ' ((List.range 2).map fun i => (0, ((st.H.length + i : Nat) : Int))) rfl (W.turn v' (s.weak hr)) s l
  · refine newblock_ok W (by exact Om179 h0 z) hk n hn hl fun σ' W' s l => ?_
    have := h σ' ((List.range n).map fun i => (0, ((st.H.length + 1 + i : Nat) : Int))) (by rw [List.length_map, List.length_range])
    unfold newSP at this
    rw [if_neg z] at this
    exact this W' s l

theorem list_it {o : Nat} {xs : List V} (e : σ[o]? = some (.list xs)) (hl : xs.length < 1000000) : iterV σ (.obj o) = some (xs, .list o) := by
  simp only [iterV, e]
  rw [if_pos hl]
/-- the values are gathered -/
theorem gather_loop {ao vo : Nat} {args : List V} (w : WF st) (hS : st.S = []) (hne : ao ≠ vo) (hz : vo ≠ 0) : ∀ (l : List Cell) (done : List V) (σ : AH) (ρ : En) (Q : Fl → En → AH → Prop), View σ so r st → vo ∉ [so, r.d, r.h, r.s, r.t] → σ[ao]? = some (.list args) → σ[vo]? = some (.list done) → done.length + l.length < 1000 → (∀ c ∈ l, Valid st c) →
    ρ 0 = some (.obj so) → ρ 3 = some (.obj vo) →
    (∀ ρ', (∀ i, i ≠ 4 → ρ' i = ρ i) → Q .next ρ' (σ.set vo (.list (done ++ l.map fun c => cV (der st c))))) →
    forGo args (.list ao) (wT P2 (callX P2 fns2 (m + 2)) (.loc 4)) (wSL P2 (callX P2 fns2 (m + 2)) (.cons (.expr (.meth 0 (.loc 3) (.cons (.callM 11 (.loc 0) (.cons (.loc 4) .nil)) .nil))) .nil)) (l.map cV) ρ σ Q
  | [], done, σ, ρ, Q, v, hv, ha, hd, hl, hc, r0, r3, h => g_end ha (by
    have := h ρ (fun _ _ => rfl)
    rwa [List.map_nil, List.append_nil, set_self hd] at this)
  | c :: l, done, σ, ρ, Q, v, hv, ha, hd, hl, hc, r0, r3, h => by
    rw [List.length_cons] at hl
    have s1 : Stay [vo] σ (σ.set vo (.list (done ++ [cV (der st c)]))) := .set (.head _)
    refine g_go ha (c_meth (.loc r3) (list_mok hd).1 (x_M (.loc r0) v.cl me11 (.one (.loc rfl)) (glob_ok v w hS (hc c (.head _)) (mc_ok (list_app hd hz (by exact Om180 hl)) ?_))))
    refine gather_loop w hS hne hz l (done ++ [cV (der st c)]) _ _ Q (v.off s1 hv) hv (s1.get _ _ (no1 hne) ha) (get_hit hd) (by rw [List.length_append, List.length_singleton]; exact Om181 hl) (fun x hx => hc x (.tail _ hx)) r0 r3 fun ρ' e => ?_
    have := h ρ' fun i hi => (e i hi).trans (if_neg hi)
    rw [List.set_set, List.append_assoc]
    exact this

/-- the values are laid down -/
theorem lay_loop {vo : Nat} {vals : List Cell} : ∀ (l : List Cell) (pre old : List Cell) (st : St) (σ : AH) (ρ : En) (Q : Fl → En → AH → Prop), View σ so r st → r.h ≠ vo → σ[vo]? = some (.list (vals.map cV)) → st.H = pre ++ old → old.length = l.length →
    ρ 0 = some (.obj so) → ρ 6 = some (.int pre.length) →
    (∀ σ' ρ', View σ' so r { st with H := pre ++ l } → Stay [r.h] σ σ' → σ'.length = σ.length → (∀ i, i ≠ 6 → i ≠ 7 → ρ' i = ρ i) → Q .next ρ' σ') →
    forGo (vals.map cV) (.list vo) (wT P2 (callX P2 fns2 (m + 2)) (.loc 7)) (wSL P2 (callX P2 fns2 (m + 2)) (.cons (.assign (.sub (.attr (.loc 0) 6) (.loc 6)) (.loc 7)) (.cons (.augLoc 6 .add (.kint 1)) .nil))) (l.map cV) ρ σ Q
  | [], pre, old, st, σ, ρ, Q, v, hne, hv, e, el, r0, r6, h => by
    have e0 : old = [] := List.length_eq_zero_iff.mp el
    subst e0
    rw [← e] at h
    exact g_end hv (h σ ρ v (.refl _ _) rfl fun _ _ _ => rfl)
  | c :: l, pre, [], st, σ, ρ, Q, v, hne, hv, e, el, r0, r6, h => nomatch el
  | c :: l, pre, o :: old, st, σ, ρ, Q, v, hne, hv, e, el, r0, r6, h => by
    have lt : (pre.length : Int).toNat < st.H.length := by rw [e, List.length_append, Int.toNat_natCast]; exact Nat.lt_add_of_pos_right (Nat.succ_pos _)
    have e1 : st.H.set (pre.length : Int).toNat c = (pre ++ [c]) ++ old := by rw [e, Int.toNat_natCast, List.set_append_right _ _ (Nat.le_refl _), Nat.sub_self, List.append_assoc]; rfl
    have v1 := v.setH (H' := st.H.set (pre.length : Int).toNat c) (by rw [List.length_set]; exact v.hl)
    have s1 : Stay [r.h] σ (σ.set r.h (.list ((st.H.set (pre.length : Int).toNat c).map cV))) := .set (.head _)
    refine g_go hv (s_sub (.loc rfl) (.attr (.loc r0) v.a6) (.loc r6) (v.hput c (Int.natCast_nonneg _) lt) (s_aug r6 .kint rfl ?_))
    refine lay_loop l (pre ++ [c]) old _ _ _ Q v1 hne (s1.get _ _ (no1 (Ne.symm hne)) hv) e1 (Nat.succ.inj el) r0 (by rw [List.length_append]; rfl) fun σ' ρ' v' s' l' e' => ?_
    rw [List.append_assoc] at v'
    exact h σ' ρ' v' (s1.trans s') (l'.trans (List.length_set ..)) fun i h6 h7 => (e' i h6 h7).trans ((if_neg h6).trans (if_neg h7))

theorem newSP_H (st : St) (k : Int) (xs : List Cell) : (newSP st k xs).2.H = (if k = 0 then st.H else st.H ++ [(6, k)]) ++ xs ∧ (newSP st k xs).2 = { st with H := (newSP st k xs).2.H } := by
  unfold newSP
  split <;> simp
theorem newSP_c (st : St) (k : Int) (xs ys : List Cell) : (newSP st k xs).1 = (newSP st k ys).1 := by
  unfold newSP
  split <;> rfl

theorem newstruct_ok (W : Wd σ so r st q tx fu) (F : WF st) (hS : st.S = []) {ao : Nat} {k : Int} {c : Int × Int} {args : List Cell} (ha : σ[ao]? = some (.list (args.map cV))) (hao : ao ∉ keptL so r q) (hv : ∀ x ∈ args, Valid st x) (h0 : 0 ≤ k) (hk : fu[k.toNat]? = some c) (hn : c.2 = args.length) (hz : k = 0 → args.length = 2) (hpos : args ≠ []) (hl : st.H.length + (args.length + 1) < 60) (hσ : 0 < σ.length)
    (h : ∀ σ', Wd σ' so r (newSP st k (args.map (der st))).2 q tx fu → Stay [r.h] σ σ' → Q (cV (newSP st k (args.map (der st))).1) σ') : callN P2 fns2 (m + 3) 26 [.obj so, .int k, .obj ao] σ Q := by
  have hlen := list_len ha (by rw [List.length_map]; exact Om182 hl)
  rw [List.length_map] at hlen
  have hne0 : ¬ ((args.length : Int) = 0) := fun e => hpos (List.length_eq_zero_iff.mp (Int.ofNat_eq_zero.mp e))
  have s1 : Stay [] σ (σ ++ [.list []]) := .app _
  have W1 := W.nil s1
  have ha1 := app_get (l := [AObj.list []]) ha
  have hv1 : (σ ++ [AObj.list []])[σ.length]? = some (.list []) := snoc_get
  have above := above_kept W (Nat.le_refl σ.length)
  have hr : ∀ i ∈ [r.h], i ∈ [r.h, r.s, r.t] := fun i h => List.mem_append_left [r.s, r.t] h
  refine call_of (fn := f_Store_new_struct) rfl rfl (s_no (.cmp (.blt (.one (.loc rfl)) hlen) .kint cmp_int) hne0 (s_loc (.list .nil) (s_forL rfl (list_it ha1 (by rw [List.length_map]; exact Om182 hl)) (gather_loop (ao := ao) (vo := σ.length) F hS (Nat.ne_of_lt (lt_of_get ha)) (Nat.ne_of_gt hσ) args [] _ _ _ W1.v (kept5 above) ha1 hv1 (by rw [List.length_nil]; exact Om183 hl) hv rfl rfl fun ρ₁ e₁ => ?_))))
  rw [List.nil_append]
  have s2 : Stay [] σ ((σ ++ [AObj.list []]).set σ.length (.list (args.map fun c => cV (der st c)))) := ((s1.weak (Y := [σ.length]) nofun).trans (.set (.head _))).strong fun i hi => .inr (Nat.le_of_eq (List.mem_singleton.mp hi).symm)
  have hvo : ((σ ++ [AObj.list []]).set σ.length (.list (args.map fun c => cV (der st c))))[σ.length]? = some (.list ((args.map (der st)).map cV)) := (get_hit hv1).trans (by rw [List.map_map]; rfl)
  generalize (σ ++ [AObj.list []]).set σ.length (.list (args.map fun c => cV (der st c))) = σ₂ at s2 hvo
  have W2 := W.nil s2
  have r0 : ρ₁ 0 = some (.obj so) := e₁ 0 (by decide)
  have r1 : ρ₁ 1 = some (.int k) := e₁ 1 (by decide)
  have r3 : ρ₁ 3 = some (.obj σ.length) := e₁ 3 (by decide)
  refine c_loc (x_M (.loc r0) W2.v.cl me18 (.one (.loc r1)) (block_ok W2 h0 hk args.length hn hz hl fun σ₃ xs hx W3 s3 l3 => c_loc (x_M (.loc r0) W3.v.cl me17 (.one (.loc rfl)) (base_ok ?_))))
  have hvo3 : σ₃[σ.length]? = some (.list ((args.map (der st)).map cV)) := s3.get _ _ (fun z => above (List.mem_singleton.mp z ▸ .tail _ (.tail _ (.head _)))) hvo
  obtain ⟨eH, eS⟩ := newSP_H st k xs
  have eb : (if (newSP st k xs).1.1 = 3 then (newSP st k xs).1.2 else (newSP st k xs).1.2 + 1) = (((if k = 0 then st.H else st.H ++ [(6, k)]).length : Nat) : Int) := by
    unfold newSP
    split
    · rfl
    · rw [List.length_append]; rfl
  rw [eb]
  refine s_forL r3 (list_it hvo3 (by rw [List.length_map, List.length_map]; exact Om184 hl hx)) (lay_loop (vo := σ.length) (vals := args.map (der st)) (args.map (der st)) (if k = 0 then st.H else st.H ++ [(6, k)]) xs _ _ _ _ W3.v (fun z => above (z ▸ .tail _ (.tail _ (.head _)))) hvo3 eH (hx.trans (List.length_map _).symm) r0 rfl fun σ₄ ρ₄ v4 s4 l4 e4 => s_ret (.loc (e4 5 (by decide) (by decide))) ?_)
  rw [newSP_c st k xs (args.map (der st))]
  obtain ⟨eH', eS'⟩ := newSP_H st k (args.map (der st))
  have ee : ({ (newSP st k xs).2 with H := (if k = 0 then st.H else st.H ++ [(6, k)]) ++ args.map (der st) } : St) = (newSP st k (args.map (der st))).2 := by
    rw [← eH', eS', eS]
  rw [ee] at v4
  have s5 : Stay [r.h] σ σ₄ := s2.nil.trans (s3.trans s4)
  exact h σ₄ (W.turn v4 (s5.weak hr)) s5
end

end Mine
end

/-! D18 -/
noncomputable section
set_option maxHeartbeats 200000
open PySem
namespace Mine

section
variable {m : Nat} {σ σ' : AH} {sy so : Nat} {r : Rc} {st : St} {q : Rs} {tx : List PySem.Str} {fu : List (Int × Int)} {Q : V → AH → Prop}

theorem list_tup {o : Nat} {xs : List V} (e : σ[o]? = some (.list xs)) (hl : xs.length < 1000000) : bltV σ 6 [.obj o] = some (.tup xs, σ) := by
  simp only [bltV, listAt, e]
  rw [if_pos hl]
theorem xinit_ok {n : Nat} {b : V} (e : σ[n]? = some (.exc 0)) (h : Q .none (σ.set n (.exc 1))) : callN P2 fns2 (m + 1) 43 [.obj n, b] σ Q :=
  call_of (fn := f_PrologError___init__) rfl rfl (s_attr (.loc rfl) (.loc rfl) (show attrPut σ (.obj n) 13 b = some (σ.set n (.exc 1)) by simp [attrPut, e]) h)
theorem syserr_ok {f : V} (h : Q (.obj σ.length) (σ ++ [.exc 1])) : callN P2 fns2 (m + 2) 8 [f] σ Q :=
  call_of (fn := f_system_error) rfl rfl (c_ret (x_newX (.one (.tup (.cons .kstr (.cons (.glob g12) (.one (.tup (.cons (.loc rfl) (.one (.tup (.cons .kstr (.one (.glob g13))))))))))))  (xinit_ok (n := σ.length) snoc_get (by rw [show (σ ++ [AObj.exc 0]).set σ.length (.exc 1) = σ ++ [.exc 1] by simp]; exact ⟨rfl, h⟩))))
theorem formal_ok (v : SyView σ sy q tx fu) (tl : tx.length < 800) (fl : fu.length < 800) {nm w : PySem.Str} (hpos : 0 < σ.length) (h : ∀ σ' u, Stay (syL q) σ σ' → Q u σ') : callN P2 fns2 (m + 3) 9 [.obj sy, .str nm, .tup [.str w]] σ Q := by
  have v1 : SyView (σ ++ [.list []]) sy q tx fu := v.same (X := []) (.app _) nofun
  have g1 : (σ ++ [AObj.list []])[σ.length]? = some (.list []) := snoc_get
  have above : σ.length ∉ [sy, q.d, q.tx, q.an, q.fu, q.fn] := fun z => Nat.lt_irrefl _ (v.lt _ z)
  have ho : σ.length ∉ syL q := fun z => above (List.mem_append_right [sy, q.d] z)
  have k1 := numP_len tx w
  refine call_of (fn := f_formal_of) rfl rfl (s_loc (.list .nil) (s_forL rfl rfl (g_go trivial (c_meth (.loc rfl) (list_mok g1).1 (x_ifT (.isStr (.loc rfl) rfl) (x_tup (l_cons .kstr (l_one (x_M (.loc rfl) v1.cl ms0 (.one (.loc rfl)) (atom_ok v1 (by exact Om185 tl) fun σ₂ v2 s2 l2 => ?_))))))))))
  have g2 := s2.get _ _ ho g1
  refine mc_ok (list_app g2 (Nat.ne_of_gt hpos) (by decide)) (s_nil (g_end (src := .tup [.str w]) trivial ?_))
  have v3 := v2.same (X := [σ.length]) (.set (o := .list ([] ++ [.tup [.str (PySem.Str.ofString "a"), .int (numP tx w).1]])) (.head _)) (on1 above)
  have g3 := get_hit (o := .list ([] ++ [.tup [.str (PySem.Str.ofString "a"), .int (numP tx w).1]])) g2
  have s3 : Stay (σ.length :: syL q) σ (σ₂.set σ.length (.list ([] ++ [.tup [.str (PySem.Str.ofString "a"), .int (numP tx w).1]]))) := ((Stay.app (X := σ.length :: syL q) [.list []]).trans (s2.weak fun i hi => .tail _ hi)).trans (.set (.head _))
  generalize σ₂.set σ.length (.list ([] ++ [.tup [.str (PySem.Str.ofString "a"), .int (numP tx w).1]])) = σ₃ at v3 g3 s3
  refine c_ret (x_tup (l_cons .kstr (l_call (x_M (.loc rfl) v3.cl ms2 (.cons (.loc rfl) (.one (.blt (.one (.loc rfl)) (list_len g3 (show (1 : Nat) < 1000000 by decide))))) (func_ok v3 (by exact Om186 tl k1) (by exact Om185 fl) fun σ₄ v4 s4 l4 => ?_)))))
  have g4 := s4.get _ _ ho g3
  refine l_ev (.one (.blt (.one (.loc rfl)) (list_tup g4 (show (1 : Nat) < 1000000 by decide)))) (h _ _ ((s3.trans (s4.weak fun i hi => .tail _ hi)).strong fun i hi => (List.mem_cons.mp hi).elim (fun e => .inr (Nat.le_of_eq e.symm)) .inl))
theorem resource_ok (v : SyView σ sy q tx fu) (tl : tx.length < 800) (fl : fu.length < 800) {w : PySem.Str} (hpos : 0 < σ.length) (h : ∀ σ' n, σ'[n]? = some (.exc 1) → σ.length ≤ n → Stay (syL q) σ σ' → Q (.obj n) σ') : callN P2 fns2 (m + 4) 10 [.obj sy, .str w] σ Q :=
  call_of (fn := f_resource_error) rfl rfl (c_ret (x_F' (l_one (x_F (.cons (.loc rfl) (.cons .kstr (.one (.tup (.one (.loc rfl)))))) (formal_ok v tl fl hpos fun σ₁ u s1 => syserr_ok (h _ _ snoc_get s1.len (s1.trans (.app _))))))))
/-- raised -/
theorem raise_ok {n : Nat} (e : σ[n]? = some (.exc 1)) : raiseV σ (.obj n) = some (σ.set n (.exc 2)) := by simp [raiseV, e]
end

end Mine
end

/-! D19 -/
noncomputable section
set_option maxHeartbeats 200000
open PySem
namespace Mine

section
variable {m : Nat} {σ σ' : AH} {sy so : Nat} {r : Rc} {st : St} {q : Rs} {tx : List PySem.Str} {fu : List (Int × Int)} {Q : V → AH → Prop}

theorem funct_ok (v : View σ so r st) {c : Cell} (hc : c.1 = 2 ∨ c.1 = 3) (hs : Sound2 st fu c) (h : ∀ u, Q u σ) : callN P2 fns2 (m + 1) 22 [.obj so, cV c] σ Q := by
  refine call_of (fn := f_Cells_functor_of) rfl rfl (s_loc (.sub (.loc rfl) .kint (tup0 _ _)) (s_if (.cmp (.loc rfl) (.glob g2) cmp_int) (fun t2 => ?_) fun t2 => s_yes (.cmp (.loc rfl) (.glob g3) cmp_int) (hc.resolve_left t2) (s_ret (.glob g8) (h _))))
  obtain ⟨a, f, b, n, e, _⟩ := hs.1 t2
  exact s_ret (.sub (.sub (.attr (.loc rfl) v.a6) (.sub (.loc rfl) .kint (tup1 _ _)) (v.hget a e)) .kint (tup1 _ _)) (h _)

noncomputable def szBody : SL := (.cons (.assign (.loc 6) (.callM 8 (.loc 0) (.cons (.sub (.attr (.loc 0) 6) (.bin .add (.loc 4) (.loc 5))) .nil))) (.cons (.ite (.callM 14 (.loc 0) (.cons (.loc 6) .nil)) (.cons (.augLoc 3 .add (.sub (.loc 2) (.sub (.loc 6) (.kint 1)))) .nil) (.cons (.augLoc 3 .add (.kint 1)) .nil)) .nil))
theorem size_loop {zo : Nat} {es : List (Int × V)} {B : Int} (hB : 1 ≤ B) (v : View σ so r st) (w : WF st) (hz : σ[zo]? = some (.dictI es)) {all : List V} {b : Nat} : ∀ (l : List Cell) (j : Nat) (s : Int) (ρ : En) (Q : Fl → En → AH → Prop),
    (∀ i x, l[i]? = some x → st.H[b + j + i]? = some x) → (∀ x ∈ l, Valid st x ∧ (compound (der st x) = true → ∃ n, vAt es (der st x).2 = some (.int n) ∧ n ≤ B)) →
    ρ 0 = some (.obj so) → ρ 2 = some (.obj zo) → ρ 3 = some (.int s) → ρ 4 = some (.int b) →
    (∀ ρ' n, n ≤ s + l.length * B → ρ' 3 = some (.int n) → Q .next ρ' σ) →
    forGo all .range (wT P2 (callX P2 fns2 (m + 2)) (.loc 5)) (wSL P2 (callX P2 fns2 (m + 2)) szBody) (upFrom (j : Int) 1 l.length) ρ σ Q
  | [], j, s, ρ, Q, hi, hc, r0, r2, r3, r4, h => f_end (h ρ s (by rw [List.length_nil]; omega) r3)
  | x :: l, j, s, ρ, Q, hi, hc, r0, r2, r3, r4, h => by
    rw [List.length_cons, upFrom_up]
    obtain ⟨hv, hs⟩ := hc x (.head _)
    have hg : itemAt σ (.obj r.h) (.int ((b : Int) + (j : Int))) = some (cV x) := v.hget (Int.natCast_nonneg (b + j)) (hi 0 x rfl)
    have next : ∀ (k : Int) {ρ₁ : En}, k ≤ B → ρ₁ 0 = some (.obj so) → ρ₁ 2 = some (.obj zo) → ρ₁ 3 = some (.int (s + k)) → ρ₁ 4 = some (.int b) → forGo all .range (wT P2 (callX P2 fns2 (m + 2)) (.loc 5)) (wSL P2 (callX P2 fns2 (m + 2)) szBody) (upFrom ((j : Int) + 1) 1 l.length) ρ₁ σ Q := fun k ρ₁ hk a0 a2 a3 a4 =>
      size_loop hB v w hz l (j + 1) (s + k) ρ₁ Q (fun i y hy => (congrArg (st.H[·]?) (Nat.add_right_comm (b + j) 1 i : b + (j + 1) + i = b + j + (i + 1))).trans (hi (i + 1) y hy)) (fun y hy => hc y (.tail _ hy)) a0 a2 a3 a4 fun ρ' n hn e => h ρ' n (by
        rw [List.length_cons, Int.natCast_add, Int.add_mul, Int.natCast_one, Int.one_mul]
        exact Om187 hk hn) e
    refine f_go (c_loc (x_M (.loc r0) v.cl me8 (.one (.sub (.attr (.loc r0) v.a6) (.bin (.loc r4) (.loc rfl) rfl) hg)) (deref_ok v w hv (br_ite (x_M (.loc r0) v.cl me14 (.one (.loc rfl)) (compound_ok ?_))))))
    by_cases hcm : (der st x).1 = 2 ∨ (der st x).1 = 3
    · obtain ⟨n, en, le⟩ := hs (compound_iff.mpr hcm)
      exact br_yes hcm (s_aug r3 (.sub (.loc r2) (.sub (.loc rfl) .kint (tup1 _ _)) (dI_get hz en)) rfl (next n le r0 r2 rfl r4))
    · exact br_no hcm (s_aug r3 .kint rfl (next 1 hB r0 r2 rfl r4))

theorem args_at {st : St} {fu : List (Int × Int)} {c x : Cell} {i : Nat} (h : (argsP st fu c)[i]? = some x) : st.H[baseP c + i]? = some x := by
  unfold argsP at h
  rw [List.getElem?_take] at h
  split at h
  · rw [List.getElem?_drop] at h; exact h
  · cases h
theorem args_length {st : St} {fu : List (Int × Int)} {c : Cell} (hc : c.1 = 2 ∨ c.1 = 3) (hs : Sound2 st fu c) : (argsP st fu c).length = widthP st fu c := by
  have := hs.fits hc
  unfold argsP
  rw [List.length_take, List.length_drop]
  omega
theorem size_ok (W : Wd σ so r st q tx fu) (F : WF2 st fu) {zo : Nat} {es : List (Int × V)} {B : Int} (hB : 1 ≤ B) (hz : σ[zo]? = some (.dictI es)) {c : Cell} (hc : c.1 = 2 ∨ c.1 = 3) (hs : Sound2 st fu c)
    (ha : ∀ x ∈ argsP st fu c, compound (der st x) = true → ∃ n, vAt es (der st x).2 = some (.int n) ∧ n ≤ B) (h : ∀ n, n ≤ 1 + widthP st fu c * B → Q (.int n) σ) : callN P2 fns2 (m + 3) 27 [.obj so, cV c, .obj zo] σ Q := by
  have al := args_length hc hs
  have hw := (hs.fits hc).2.1
  refine call_of (fn := f_Store_whole_size) rfl rfl (s_loc .kint (c_loc (x_M (.loc rfl) W.v.cl me17 (.one (.loc rfl)) (base_ok ?_))))
  rw [base_nat (hs.fits hc).2.2]
  rw [← al] at h
  exact s_range (l_one (x_M (.loc rfl) W.v.cl me16 (.one (.loc rfl)) (width_ok W hs (rg_ok (range1 (by exact Om188 al hw)) (by
    rw [← al]
    exact size_loop hB W.v F.wf hz (argsP st fu c) 0 1 _ _ (fun i x e => by rw [Nat.add_zero]; exact args_at e) (fun x hx => ⟨(args_ok F hx).1, ha x hx⟩) rfl rfl rfl rfl fun ρ' n hn e => s_ret (.loc e) (h n hn))))))
end

end Mine
end

/-! D20 -/
noncomputable section
set_option maxHeartbeats 200000
open PySem
namespace Mine

noncomputable def tkRaise : SL := (.cons (.raise (.callF 10 (.cons (.attr (.loc 0) 4) (.cons (.kstr (PySem.Str.ofString "memory")) .nil)))) .nil)
noncomputable def tkBuild : SL := (.cons (.assign (.loc 8) (.callM 15 (.loc 0) (.cons (.loc 1) .nil))) (.cons (.assign (.loc 9) (.bin .sub (.blt 0 (.cons (.loc 5) .nil)) (.callM 16 (.loc 0) (.cons (.loc 1) .nil)))) (.cons (.assign (.loc 10) (.tup (.cons (.kstr (PySem.Str.ofString "s")) (.cons (.loc 8) (.cons (.blt 6 (.cons (.slFrom 5 9) .nil)) .nil))))) (.cons (.delFrom 5 9) (.cons (.assign (.sub (.loc 3) (.sub (.loc 1) (.kint 1))) (.loc 10)) (.cons (.assign (.sub (.loc 4) (.sub (.loc 1) (.kint 1))) (.callM 20 (.loc 0) (.cons (.loc 1) (.cons (.loc 4) .nil)))) (.cons (.ite (.cmp .gt (.sub (.loc 4) (.sub (.loc 1) (.kint 1))) (.bin .add (.attr (.loc 0) 5) (.kint 1))) tkRaise .nil) (.cons (.expr (.meth 0 (.loc 5) (.cons (.loc 10) .nil))) (.cons .cont .nil)))))))))
noncomputable def tkExpand : SL := (.cons (.assign (.sub (.loc 3) (.sub (.loc 1) (.kint 1))) .knone) (.cons (.expr (.meth 0 (.loc 6) (.cons (.tup (.cons (.glob 11) (.cons (.loc 1) .nil))) .nil))) (.cons (.assign (.loc 12) (.callM 17 (.loc 0) (.cons (.loc 1) .nil))) (.cons (.for_ (.loc 13) (.blt 1 (.cons (.bin .sub (.callM 16 (.loc 0) (.cons (.loc 1) .nil)) (.kint 1)) (.cons (.neg (.kint 1)) (.cons (.neg (.kint 1)) .nil)))) (.cons (.expr (.meth 0 (.loc 6) (.cons (.tup (.cons (.glob 10) (.cons (.sub (.attr (.loc 0) 6) (.bin .add (.loc 12) (.loc 13))) .nil))) .nil))) .nil)) .nil))))
noncomputable def tkKnown : SL := (.cons (.assign (.loc 10) (.sub (.loc 3) (.sub (.loc 1) (.kint 1)))) (.cons (.ite (.isNone (.loc 10)) tkRaise .nil) (.cons (.expr (.meth 0 (.loc 5) (.cons (.loc 10) .nil))) .nil)))
noncomputable def tkVarT : SL := (.cons (.expr (.meth 0 (.loc 5) (.cons (.tup (.cons (.kstr (PySem.Str.ofString "v")) (.cons (.sub (.loc 2) (.sub (.loc 1) (.kint 1))) .nil))) .nil))) .nil)
noncomputable def tkVar : SL := (.cons (.ite (.cmp .notIn (.sub (.loc 1) (.kint 1)) (.loc 2)) (.cons (.assign (.sub (.loc 2) (.sub (.loc 1) (.kint 1))) (.blt 0 (.cons (.loc 2) .nil))) .nil) .nil) tkVarT)
noncomputable def tkVisit : SL := (.cons (.assign (.loc 1) (.callM 8 (.loc 0) (.cons (.loc 1) .nil))) (.cons (.assign (.loc 11) (.sub (.loc 1) (.kint 0))) (.cons (.ite (.cmp .eq (.loc 11) (.glob 0)) tkVar (.cons (.ite (.cmp .eq (.loc 11) (.glob 4)) (.cons (.expr (.meth 0 (.loc 5) (.cons (.tup (.cons (.kstr (PySem.Str.ofString "a")) (.cons (.sub (.loc 1) (.kint 1)) .nil))) .nil))) .nil) (.cons (.ite (.cmp .eq (.loc 11) (.glob 5)) (.cons (.expr (.meth 0 (.loc 5) (.cons (.tup (.cons (.kstr (PySem.Str.ofString "i")) (.cons (.sub (.loc 1) (.kint 1)) .nil))) .nil))) .nil) (.cons (.ite (.cmp .isIn (.sub (.loc 1) (.kint 1)) (.loc 3)) tkKnown tkExpand) .nil)) .nil)) .nil)) .nil)))
noncomputable def tkCond : E := (.cmp .gt (.blt 0 (.cons (.loc 6) .nil)) (.kint 0))
noncomputable def tkTail : SL := .cons (.ite (.cmp .eq (.loc 7) (.glob 11)) tkBuild .nil) tkVisit
noncomputable def tkBody : SL := .cons (.assign (.tup [7, 1]) (.meth 1 (.loc 6) .nil)) tkTail
noncomputable def wV (e : Bool × Cell) : V := .tup [.int (if e.1 then 1 else 0), cV e.2]

section
variable {m : Nat} {σ σ' : AH} {sy so : Nat} {r : Rc} {st : St} {q : Rs} {tx : List PySem.Str} {fu : List (Int × Int)}

/-- what take_term holds -/
structure Tk (σ : AH) (ρ : En) (so to ko zo ro wo : Nat) (tb kn zs : List (Int × V)) (rs : List V) (w : List (Bool × Cell)) : Prop where
  r0 : ρ 0 = some (.obj so)
  r2 : ρ 2 = some (.obj to)
  r3 : ρ 3 = some (.obj ko)
  r4 : ρ 4 = some (.obj zo)
  r5 : ρ 5 = some (.obj ro)
  r6 : ρ 6 = some (.obj wo)
  t : σ[to]? = some (.dictI tb)
  k : σ[ko]? = some (.dictI kn)
  z : σ[zo]? = some (.dictI zs)
  r : σ[ro]? = some (.list rs)
  w : σ[wo]? = some (.list (w.reverse.map wV))
/-- its objects lie apart -/
structure Ap (so : Nat) (r : Rc) (q : Rs) (to ko zo ro wo : Nat) : Prop where
  off : ∀ i ∈ [to, ko, zo, ro, wo], i ∉ keptL so r q
  tk : to ≠ ko
  tz : to ≠ zo
  kz : ko ≠ zo
  rw : ro ≠ wo
  r0 : ro ≠ 0
  w0 : wo ≠ 0

theorem dI_put {o : Nat} {es : List (Int × V)} {k : Int} {u : V} (e : σ[o]? = some (.dictI es)) (hl : es.length < 100000) : itemPut σ (.obj o) (.int k) u = some (σ.set o (.dictI (vPut es k u))) := by
  simp only [itemPut, e, dictPut]
  rw [if_pos hl]; rfl
theorem find_map_snd {K : Type} [DecidableEq K] (k : K) (u : V) (p : K → Bool) : ∀ es : List (K × V), (es.map fun kv => if kv.1 = k then (kv.1, u) else kv).find? (fun kv => p kv.1) = (es.find? fun kv => p kv.1).map fun kv => if kv.1 = k then (kv.1, u) else kv
  | [] => rfl
  | (a, b) :: es => by
    rw [List.map_cons, List.find?_cons, List.find?_cons, find_map_snd k u p es]
    by_cases h : a = k
    · simp only [h, if_true]
      cases p k <;> simp
    · simp only [h, if_false]
      cases p a <;> simp [h]
set_option tactic.hygienic true in
theorem vput_at {K : Type} [DecidableEq K] {es : List (K × V)} {k j : K} {u : V} : vAt (vPut es k u) j = if j = k then some u else vAt es j := by
  unfold vPut vAt
  split
  · rename_i ha
    rw [find_map_snd k u (fun x => decide (x = j)) es]
    by_cases h : j = k
    · subst h
      rw [if_pos rfl]
      obtain ⟨x, hx, e⟩ := List.any_eq_true.mp ha
      cases hf : es.find? (fun kv => decide (kv.1 = j)) with
      | none => exact absurd e (List.find?_eq_none.mp hf x hx)
      | some y =>
        have := List.find?_some hf
        simp only [decide_eq_true_eq] at this
        simp [this]
    · rw [if_neg h]
      cases hf : es.find? (fun kv => decide (kv.1 = j)) with
      | none => rfl
      | some y =>
        have := List.find?_some hf
        simp only [decide_eq_true_eq] at this
        have h2 : ¬ y.1 = k := fun e => h (this.symm.trans e)
        simp [h2]
  · rename_i ha
    have hn : es.find? (fun kv => decide (kv.1 = k)) = none := by
      rw [List.find?_eq_none]
      intro x hx e
      exact ha (List.any_eq_true.mpr ⟨x, hx, e⟩)
    rw [List.find?_append]
    by_cases h : j = k
    · subst h
      rw [if_pos rfl, hn]; simp
    · rw [if_neg h]
      have h2 : ¬ k = j := fun e => h e.symm
      simp [h2]
theorem vput_len {K : Type} [DecidableEq K] {es : List (K × V)} {k : K} {u : V} : (vPut es k u).length = if (vAt es k).isSome then es.length else es.length + 1 := by
  unfold vPut vAt
  by_cases ha : es.any (fun kv => decide (kv.1 = k)) = true
  · rw [if_pos ha]
    obtain ⟨x, hx, e⟩ := List.any_eq_true.mp ha
    cases hf : es.find? (fun kv => decide (kv.1 = k)) with
    | none => exact absurd e (List.find?_eq_none.mp hf x hx)
    | some y => simp
  · rw [if_neg ha]
    have hn : es.find? (fun kv => decide (kv.1 = k)) = none := by
      rw [List.find?_eq_none]
      intro x hx e
      exact ha (List.any_eq_true.mpr ⟨x, hx, e⟩)
    rw [hn]; simp

section
variable {to ko zo ro wo : Nat} {ρ ρ' : En} {tb kn zs : List (Int × V)} {rs : List V} {w : List (Bool × Cell)}
noncomputable abbrev tkL (to ko zo ro wo : Nat) : List Nat := [to, ko, zo, ro, wo]
theorem Tk.env (T : Tk σ ρ so to ko zo ro wo tb kn zs rs w) (h : ∀ i, i = 0 ∨ i = 2 ∨ i = 3 ∨ i = 4 ∨ i = 5 ∨ i = 6 → ρ' i = ρ i) : Tk σ ρ' so to ko zo ro wo tb kn zs rs w :=
  ⟨(h 0 (by decide)).trans T.r0, (h 2 (by decide)).trans T.r2, (h 3 (by decide)).trans T.r3, (h 4 (by decide)).trans T.r4, (h 5 (by decide)).trans T.r5, (h 6 (by decide)).trans T.r6, T.t, T.k, T.z, T.r, T.w⟩
theorem Tk.app (T : Tk σ ρ so to ko zo ro wo tb kn zs rs w) (l : AH) : Tk (σ ++ l) ρ so to ko zo ro wo tb kn zs rs w :=
  ⟨T.r0, T.r2, T.r3, T.r4, T.r5, T.r6, app_get T.t, app_get T.k, app_get T.z, app_get T.r, app_get T.w⟩
theorem Tk.setR (A : Ap so r q to ko zo ro wo) (T : Tk σ ρ so to ko zo ro wo tb kn zs rs w) (rs' : List V) : Tk (σ.set ro (.list rs')) ρ so to ko zo ro wo tb kn zs rs' w :=
  ⟨T.r0, T.r2, T.r3, T.r4, T.r5, T.r6, get_set T.t (ne_of_get T.r T.t fun h => nomatch h), get_set T.k (ne_of_get T.r T.k fun h => nomatch h), get_set T.z (ne_of_get T.r T.z fun h => nomatch h), get_hit T.r, get_set T.w A.rw⟩
theorem Tk.setW (A : Ap so r q to ko zo ro wo) (T : Tk σ ρ so to ko zo ro wo tb kn zs rs w) (w' : List (Bool × Cell)) : Tk (σ.set wo (.list (w'.reverse.map wV))) ρ so to ko zo ro wo tb kn zs rs w' :=
  ⟨T.r0, T.r2, T.r3, T.r4, T.r5, T.r6, get_set T.t (ne_of_get T.w T.t fun h => nomatch h), get_set T.k (ne_of_get T.w T.k fun h => nomatch h), get_set T.z (ne_of_get T.w T.z fun h => nomatch h), get_set T.r (Ne.symm A.rw), get_hit T.w⟩
theorem Tk.setT (A : Ap so r q to ko zo ro wo) (T : Tk σ ρ so to ko zo ro wo tb kn zs rs w) (tb' : List (Int × V)) : Tk (σ.set to (.dictI tb')) ρ so to ko zo ro wo tb' kn zs rs w :=
  ⟨T.r0, T.r2, T.r3, T.r4, T.r5, T.r6, get_hit T.t, get_set T.k A.tk, get_set T.z A.tz, get_set T.r (ne_of_get T.t T.r fun h => nomatch h), get_set T.w (ne_of_get T.t T.w fun h => nomatch h)⟩
theorem Tk.setK (A : Ap so r q to ko zo ro wo) (T : Tk σ ρ so to ko zo ro wo tb kn zs rs w) (kn' : List (Int × V)) : Tk (σ.set ko (.dictI kn')) ρ so to ko zo ro wo tb kn' zs rs w :=
  ⟨T.r0, T.r2, T.r3, T.r4, T.r5, T.r6, get_set T.t (Ne.symm A.tk), get_hit T.k, get_set T.z A.kz, get_set T.r (ne_of_get T.k T.r fun h => nomatch h), get_set T.w (ne_of_get T.k T.w fun h => nomatch h)⟩
theorem Tk.setZ (A : Ap so r q to ko zo ro wo) (T : Tk σ ρ so to ko zo ro wo tb kn zs rs w) (zs' : List (Int × V)) : Tk (σ.set zo (.dictI zs')) ρ so to ko zo ro wo tb kn zs' rs w :=
  ⟨T.r0, T.r2, T.r3, T.r4, T.r5, T.r6, get_set T.t (Ne.symm A.tz), get_set T.k (Ne.symm A.kz), get_hit T.z, get_set T.r (ne_of_get T.z T.r fun h => nomatch h), get_set T.w (ne_of_get T.z T.w fun h => nomatch h)⟩
theorem Wd.tk (W : Wd σ so r st q tx fu) (A : Ap so r q to ko zo ro wo) (s : Stay (tkL to ko zo ro wo) σ σ') : Wd σ' so r st q tx fu := W.same s A.off
end

theorem list_drop {o : Nat} {xs : List V} {k : Nat} (e : σ[o]? = some (.list xs)) (hk : k ≤ xs.length) (hl : xs.length < 1000000) : dropV σ (.obj o) (.int (k : Int)) = some (xs.drop k) := by
  simp only [dropV, listAt, e]
  rw [if_pos ⟨Int.natCast_nonneg _, Int.ofNat_le.mpr hk, hl⟩]; rfl
theorem list_cut {o : Nat} {xs : List V} {k : Nat} (e : σ[o]? = some (.list xs)) (hz : o ≠ 0) (hk : k ≤ xs.length) (hl : xs.length < 1000000) : cutV σ (.obj o) (.int (k : Int)) = some (σ.set o (.list (xs.take k))) := by
  simp only [cutV, e]
  rw [if_pos ⟨hz, Int.natCast_nonneg _, Int.ofNat_le.mpr hk, hl⟩]; rfl
noncomputable def tkFree (i : Nat) : Bool := i == 1 || Nat.ble 7 i
theorem Tk.put {to ko zo ro wo : Nat} {ρ : En} {tb kn zs : List (Int × V)} {rs : List V} {w : List (Bool × Cell)} (T : Tk σ ρ so to ko zo ro wo tb kn zs rs w) {i : Nat} {v : V} (h : tkFree i = true) : Tk σ (ρ.put i v) so to ko zo ro wo tb kn zs rs w := T.env fun j hj => if_neg fun e => by
  subst e
  rcases hj with rfl | rfl | rfl | rfl | rfl | rfl <;> cases h
section
variable {to ko zo ro wo : Nat}
theorem tk_to : to ∈ tkL to ko zo ro wo := .head _
theorem tk_ko : ko ∈ tkL to ko zo ro wo := .tail _ (.head _)
theorem tk_zo : zo ∈ tkL to ko zo ro wo := .tail _ (.tail _ (.head _))
theorem tk_ro : ro ∈ tkL to ko zo ro wo := .tail _ (.tail _ (.tail _ (.head _)))
theorem tk_wo : wo ∈ tkL to ko zo ro wo := .tail _ (.tail _ (.tail _ (.tail _ (.head _))))
end
theorem tk_build (W : Wd σ so r st q tx fu) (F : WF2 st fu) {to ko zo ro wo : Nat} (A : Ap so r q to ko zo ro wo) {ρ : En} {tb kn zs : List (Int × V)} {rs : List V} {w : List (Bool × Cell)} {c : Cell} (T : Tk σ ρ so to ko zo ro wo tb kn zs rs w) (r1 : ρ 1 = some (cV c))
    (hc : c.1 = 2 ∨ c.1 = 3) (hs : CellOk st fu c) (hw : widthP st fu c ≤ rs.length) (h2 : widthP st fu c ≤ 2) {B : Int} (hB : 1 ≤ B) (hB2 : B ≤ 50000) (l1 : rs.length < 1000) (l2 : kn.length < 1000) (l3 : zs.length < 1000)
    (ha : ∀ x ∈ argsP st fu c, compound (der st x) = true → ∃ n, vAt zs (der st x).2 = some (.int n) ∧ n ≤ B) {Q : Fl → En → AH → Prop}
    (h : ∀ ρ' σ' n us, n ≤ 1 + 2 * B → Stay [to, ko, zo, ro, wo] σ σ' → Tk σ' ρ' so to ko zo ro wo tb (vPut kn c.2 (.tup us)) (vPut zs c.2 (.int n)) (rs.take (rs.length - widthP st fu c) ++ [.tup us]) w → Q .cont ρ' σ') :
    wSL P2 (callX P2 fns2 (m + 3)) tkBuild ρ σ Q := by
  have hsub : binV .sub (.int (rs.length : Int)) (.int (widthP st fu c : Int)) = some (.int ((rs.length - widthP st fu c : Nat) : Int)) := by
    rw [Int.ofNat_sub hw]; rfl
  have hkl : rs.length - widthP st fu c ≤ rs.length := Nat.sub_le ..
  generalize rs.length - widthP st fu c = k at hsub hkl h
  refine c_loc (x_M (.loc T.r0) W.v.cl me15 (.one (.loc r1)) (funct_ok W.v hc hs.2 fun f => c_loc (x_bin (.blt (.one (.loc T.r5)) (list_len T.r (by exact Om77 l1))) (x_M (.loc T.r0) W.v.cl me16 (.one (.loc r1)) (width_ok W hs.2 (bn_ok hsub ?_))))))
  have T1 := T.app [.list (rs.drop k)]
  refine s_loc (.tup (.cons .kstr (.cons (.loc rfl) (.one (.blt (.one (.slFrom T.r5 rfl (list_drop T.r hkl (by exact Om77 l1)))) (list_tup snoc_get (by rw [List.length_drop]; exact Om189 l1 hkl))))))) (s_del T.r5 rfl (list_cut T1.r A.r0 hkl (by exact Om77 l1)) ?_)
  have T2 := T1.setR A (rs.take k)
  have s2 : Stay (tkL to ko zo ro wo) σ ((σ ++ [AObj.list (rs.drop k)]).set ro (.list (rs.take k))) := (Stay.app _).trans (.set tk_ro)
  generalize (σ ++ [AObj.list (rs.drop k)]).set ro (.list (rs.take k)) = σ2 at T2 s2 ⊢
  refine s_sub (.loc rfl) (.loc T.r3) (.sub (.loc r1) .kint (tup1 _ _)) (dI_put T2.k (by exact Om190 l2)) ?_
  have T3 := T2.setK A (vPut kn c.2 (.tup [.str (PySem.Str.ofString "s"), f, .tup (rs.drop k)]))
  have s3 : Stay (tkL to ko zo ro wo) σ (σ2.set ko (.dictI (vPut kn c.2 (.tup [.str (PySem.Str.ofString "s"), f, .tup (rs.drop k)])))) := s2.trans (.set tk_ko)
  generalize σ2.set ko (.dictI (vPut kn c.2 (.tup [.str (PySem.Str.ofString "s"), f, .tup (rs.drop k)]))) = σ3 at T3 s3 ⊢
  have W3 := W.tk A s3
  refine c_assign (x_M (.loc T.r0) W3.v.cl me20 (.cons (.loc r1) (.one (.loc T.r4))) (size_ok W3 F hB T3.z hc hs.2 ha fun n hn => t_sub (.loc T.r4) (.sub (.loc r1) .kint (tup1 _ _)) (dI_put T3.z (by exact Om190 l3)) ?_))
  have hn2 : n ≤ 1 + 2 * B := by
    have : (widthP st fu c : Int) * B ≤ 2 * B := Int.mul_le_mul_of_nonneg_right (by exact Om191 h2) (by exact Om192 hB hB2)
    exact Om193 hn this
  have T4 := T3.setZ A (vPut zs c.2 (.int n))
  have s4 : Stay (tkL to ko zo ro wo) σ (σ3.set zo (.dictI (vPut zs c.2 (.int n)))) := s3.trans (.set tk_zo)
  generalize σ3.set zo (.dictI (vPut zs c.2 (.int n))) = σ4 at T4 s4 ⊢
  have W4 := W.tk A s4
  exact s_no (.cmp (.sub (.loc T.r4) (.sub (.loc r1) .kint (tup1 _ _)) (dI_get T4.z (by rw [vput_at, if_pos rfl]))) (.bin (.attr (.loc T.r0) W4.v.a5) .kint rfl) rfl) (by exact Om194 hB hB2 hn2) (s_expr (.meth (.loc T.r5) (list_mok T4.r).1 (.one (.loc rfl)) (list_app T4.r A.r0 (by rw [List.length_take]; omega))) (s_cont (h _ _ n _ hn2 (s4.trans (.set tk_ro)) ((((T4.setR A _).put rfl).put rfl).put rfl))))
end

end Mine
end

/-! D21 -/
noncomputable section
set_option maxHeartbeats 200000
open PySem
namespace Mine

section
variable {m : Nat} {σ σ' : AH} {sy so : Nat} {r : Rc} {st : St} {q : Rs} {tx : List PySem.Str} {fu : List (Int × Int)}
variable {to ko zo ro wo : Nat} {ρ ρ' : En} {tb kn zs : List (Int × V)} {rs : List V} {w : List (Bool × Cell)}

noncomputable def tpBody : SL := (.cons (.expr (.meth 0 (.loc 6) (.cons (.tup (.cons (.glob 10) (.cons (.sub (.attr (.loc 0) 6) (.bin .add (.loc 12) (.loc 13))) .nil))) .nil))) .nil)
theorem tp_loop {cf : Cf} {b : Nat} {all : List V} : ∀ (k : Nat) {σ : AH} {W : List V} {ρ : En} {Q : Fl → En → AH → Prop}, View σ so r st → σ[wo]? = some (.list W) → wo ≠ 0 → wo ∉ [so, r.d, r.h, r.s, r.t] → W.length + k < 1000000 → b + k ≤ st.H.length →
    ρ 0 = some (.obj so) → ρ 6 = some (.obj wo) → ρ 12 = some (.int b) → (∀ ρ', (∀ i, i ≠ 13 → ρ' i = ρ i) → Q .next ρ' (σ.set wo (.list (W ++ ((st.H.drop b).take k).reverse.map fun c => wV (false, c))))) →
    forGo all .range (wT P2 cf (.loc 13)) (wSL P2 cf tpBody) (upFrom ((k : Int) - 1) (-1) k) ρ σ Q
  | 0, σ, W, ρ, Q, v, e, hz, hw, hl, hb, h0, h2, h3, qq => f_end (by
    have := qq ρ (fun _ _ => rfl)
    rwa [show ((st.H.drop b).take 0).reverse.map (fun c => wV (false, c)) = [] from rfl, List.append_nil, set_self e] at this)
  | k + 1, σ, W, ρ, Q, v, e, hz, hw, hl, hb, h0, h2, h3, qq => by
    rw [upFrom_down]
    have hbk : b + k < st.H.length := by exact Om87 hb
    refine f_go (s_expr (.meth (.loc h2) (list_mok e).1 (.one (.tup (.cons (.glob g10) (.one (.sub (.attr (.loc h0) v.a6) (.bin (.loc h3) (.loc rfl) rfl) (v.hsum hbk)))))) (list_app e hz (by exact Om88 hl))) ?_)
    refine tp_loop (b := b) k (v.off (.set (.head _)) hw) (get_hit e) hz hw (by rw [List.length_append, List.length_singleton]; exact Om89 hl) (by exact Om90 hb) h0 h2 h3 fun ρ' er => ?_
    have := qq ρ' fun i hi => (er i hi).trans (if_neg hi)
    rw [List.set_set]
    rwa [drop_snoc hbk, List.reverse_append, List.map_append, ← List.append_assoc] at this

theorem tk_expand (W : Wd σ so r st q tx fu) (A : Ap so r q to ko zo ro wo) {d : Cell} (T : Tk σ ρ so to ko zo ro wo tb kn zs rs w) (r1 : ρ 1 = some (cV d)) (hc : d.1 = 2 ∨ d.1 = 3) (hs : Sound2 st fu d) (l2 : kn.length < 1000) (l3 : w.length < 1000) {Q : Fl → En → AH → Prop}
    (h : ∀ ρ' σ', Stay (tkL to ko zo ro wo) σ σ' → Tk σ' ρ' so to ko zo ro wo tb (vPut kn d.2 .none) zs rs ((argsP st fu d).map (fun c => (false, c)) ++ (true, d) :: w) → Q .next ρ' σ') :
    wSL P2 (callX P2 fns2 (m + 3)) tkExpand ρ σ Q := by
  have T2 := T.setK A (vPut kn d.2 .none)
  have s2 : Stay (tkL to ko zo ro wo) σ (σ.set ko (.dictI (vPut kn d.2 .none))) := .set tk_ko
  refine s_sub .knone (.loc T.r3) (.sub (.loc r1) .kint (tup1 _ _)) (dI_put T.k (by exact Om190 l2)) ?_
  generalize σ.set ko (.dictI (vPut kn d.2 .none)) = σ2 at T2 s2 ⊢
  have e3 : (w.reverse.map wV ++ [wV (true, d)]) = ((true, d) :: w).reverse.map wV := by rw [List.reverse_cons, List.map_append]; rfl
  have hwl : (((true, d) :: w).reverse.map wV).length = w.length + 1 := by rw [List.length_map, List.length_reverse]; rfl
  have p3 := list_app (u := wV (true, d)) T2.w A.w0 (by rw [List.length_map, List.length_reverse]; exact Om195 l3 hwl)
  rw [e3] at p3
  have T3 := T2.setW A ((true, d) :: w)
  have s3 : Stay (tkL to ko zo ro wo) σ (σ2.set wo (.list (((true, d) :: w).reverse.map wV))) := s2.trans (.set tk_wo)
  refine s_expr (.meth (.loc T2.r6) (list_mok T2.w).1 (.one (.tup (.cons (.glob g11) (.one (.loc r1))))) p3) ?_
  generalize σ2.set wo (.list (((true, d) :: w).reverse.map wV)) = σ3 at T3 s3 ⊢
  have W3 := W.tk A s3
  have hf := hs.fits hc
  refine c_loc (x_M (.loc T.r0) W3.v.cl me17 (.one (.loc r1)) (base_ok ?_))
  rw [base_nat hf.2.2]
  refine s_down (x_M (.loc T.r0) W3.v.cl me16 (.one (.loc r1)) (width_ok W3 hs (dn_ok (range3' (by exact Om196 hf)) (tp_loop (b := baseP d) (widthP st fu d) W3.v T3.w A.w0 (kept5 (A.off wo tk_wo)) (by rw [hwl]; exact Om197 l3 hwl hf) hf.1 T.r0 T.r6 rfl fun ρ' er => ?_))))
  have e4 : ((true, d) :: w).reverse.map wV ++ ((st.H.drop (baseP d)).take (widthP st fu d)).reverse.map (fun c => wV (false, c)) = ((argsP st fu d).map (fun c => (false, c)) ++ (true, d) :: w).reverse.map wV := by
    rw [List.reverse_append, List.map_append, ← List.map_reverse, List.map_map]; rfl
  rw [e4]
  exact h _ _ (s3.trans (.set tk_wo)) (((T3.put rfl).setW A _).env fun i hi => er i (by rintro rfl; rcases hi with h | h | h | h | h | h <;> cases h))

theorem dI_out {o : Nat} {es : List (Int × V)} {k : Int} (e : σ[o]? = some (.dictI es)) : cmpV σ .notIn (.int k) (.obj o) = some (!(vAt es k).isSome) := by
  show (inV σ (.int k) (.obj o)).map (!·) = _
  simp only [inV, e]; rfl
theorem dI_in {o : Nat} {es : List (Int × V)} {k : Int} (e : σ[o]? = some (.dictI es)) : cmpV σ .isIn (.int k) (.obj o) = some (vAt es k).isSome := by
  show inV σ (.int k) (.obj o) = _
  simp only [inV, e]; rfl
theorem dI_len {o : Nat} {es : List (Int × V)} (e : σ[o]? = some (.dictI es)) (hl : es.length < 1000000) : bltV σ 0 [.obj o] = some (.int es.length, σ) := by
  simp only [bltV, lenV, e]
  rw [if_pos hl]
theorem tk_var (A : Ap so r q to ko zo ro wo) {d : Cell} (T : Tk σ ρ so to ko zo ro wo tb kn zs rs w) (r1 : ρ 1 = some (cV d)) (l1 : rs.length < 1000) (l2 : tb.length < 10000) {cf : Cf} {Q : Fl → En → AH → Prop}
    (h : ∀ ρ' σ' tb' u, tb'.length ≤ tb.length + 1 → Stay (tkL to ko zo ro wo) σ σ' → Tk σ' ρ' so to ko zo ro wo tb' kn zs (rs ++ [u]) w → Q .next ρ' σ') :
    wSL P2 cf tkVar ρ σ Q := by
  have fin : ∀ {σ1 : AH} {tb1 : List (Int × V)} {v : V}, tb1.length ≤ tb.length + 1 → Stay (tkL to ko zo ro wo) σ σ1 → Tk σ1 ρ so to ko zo ro wo tb1 kn zs rs w → vAt tb1 d.2 = some v → wSL P2 cf tkVarT ρ σ1 Q := fun hl s1 T1 e =>
    s_expr (.meth (.loc T1.r5) (list_mok T1.r).1 (.one (.tup (.cons .kstr (.one (.sub (.loc T1.r2) (.sub (.loc r1) .kint (tup1 _ _)) (dI_get T1.t e)))))) (list_app T1.r A.r0 (by exact Om77 l1))) (h _ _ _ _ hl (s1.trans (.set tk_ro)) (T1.setR A _))
  cases hv : vAt tb d.2 with
  | some v => exact s_else (.cmp (.sub (.loc r1) .kint (tup1 _ _)) (.loc T.r2) ((dI_out T.t).trans (by rw [hv]; rfl))) (fin (Nat.le_succ _) (.refl _ _) T hv)
  | none => exact s_then (.cmp (.sub (.loc r1) .kint (tup1 _ _)) (.loc T.r2) ((dI_out T.t).trans (by rw [hv]; rfl))) (s_sub (.blt (.one (.loc T.r2)) (dI_len T.t (by exact Om198 l2))) (.loc T.r2) (.sub (.loc r1) .kint (tup1 _ _)) (dI_put T.t (by exact Om199 l2)) (fin (by rw [vput_len, hv]; exact Nat.le_refl _) (.set tk_to) (T.setT A _) (by rw [vput_at, if_pos rfl])))

theorem tk_known (W : Wd σ so r st q tx fu) (tl : tx.length < 800) (fl : fu.length < 800) (hpos : 0 < σ.length) (A : Ap so r q to ko zo ro wo) {d : Cell} (T : Tk σ ρ so to ko zo ro wo tb kn zs rs w) (r1 : ρ 1 = some (cV d)) (l1 : rs.length < 1000) {Q : Fl → En → AH → Prop} {v : V} (hv : vAt kn d.2 = some v) (hk : v = .none ∨ ∃ us, v = .tup us)
    (h : v = .none → ∀ ρ' σ', Stay (syL q) σ σ' → Q .exc ρ' σ') (h' : ∀ us, v = .tup us → ∀ ρ' σ', Stay (tkL to ko zo ro wo) σ σ' → Tk σ' ρ' so to ko zo ro wo tb kn zs (rs ++ [.tup us]) w → Q .next ρ' σ') :
    wSL P2 (callX P2 fns2 (m + 4)) tkKnown ρ σ Q := by
  refine s_loc (.sub (.loc T.r3) (.sub (.loc r1) .kint (tup1 _ _)) (dI_get T.k hv)) ?_
  rcases hk with rfl | ⟨us, rfl⟩
  · refine s_then (.isNone (.loc rfl) rfl) (c_raise (x_F (.cons (.attr (.loc T.r0) W.v.a4) (.one .kstr)) (resource_ok W.y tl fl hpos fun σ' n e hlt s => rs_ok (raise_ok e) (h rfl _ _ ?_))))
    exact (s.weak (Y := n :: syL q) (fun i hi => .tail _ hi) |>.trans (.set (.head _))).strong fun i hi => (List.mem_cons.mp hi).elim (fun e => .inr (e ▸ hlt)) .inl
  · exact s_else (.isNone (.loc rfl) rfl) (s_expr (.meth (.loc T.r5) (list_mok T.r).1 (.one (.loc rfl)) (list_app T.r A.r0 (by exact Om77 l1))) (h' us rfl _ _ (.set tk_ro) ((T.setR A _).put rfl)))
end

end Mine
end

/-! D22 -/
noncomputable section
set_option maxHeartbeats 200000
open PySem
namespace Mine

/-! take_term, plainly: its steps and what holds along them -/
/-- a cell as the law makes them; Bl: the compounds there are -/
noncomputable def GC (st : St) (Bl : List Cell) (c : Cell) : Prop := (c.1 = 0 ∧ 0 ≤ c.2 ∧ ∃ x, st.H[c.2.toNat]? = some x ∧ x.1 ≠ 6) ∨ c.1 = 4 ∨ c.1 = 5 ∨ c ∈ Bl
structure Uni (st : St) (fu : List (Int × Int)) (Bl : List Cell) : Prop where
  gc : ∀ (a : Nat) (c : Cell), st.H[a]? = some c → c.1 ≠ 6 → GC st Bl c
  ag : ∀ c ∈ Bl, ∀ x ∈ argsP st fu c, x.1 ≠ 6
  inj : ∀ c ∈ Bl, ∀ d ∈ Bl, c.2 = d.2 → c = d
  cmp : ∀ c ∈ Bl, compound c = true
  len : Bl.length ≤ 8
  wid : ∀ c ∈ Bl, widthP st fu c ≤ 2
  ok : ∀ c ∈ Bl, CellOk st fu c

section
variable {st : St} {fu : List (Int × Int)} {Bl : List Cell}
theorem Uni.cell (U : Uni st fu Bl) {c : Cell} (g : GC st Bl c) : CellOk st fu c := by
  rcases g with ⟨h, h0, x, e, _⟩ | h | h | h
  · exact ⟨⟨fun _ => ⟨h0, (List.getElem?_eq_some_iff.mp e).1⟩, fun z => by exact Om200 h z⟩, fun z => by exact (Om201 h z).elim, fun z => by exact Om202 h z⟩
  · exact ⟨⟨fun z => by exact Om203 h z, fun z => by exact Om204 h z⟩, fun z => by exact (Om205 h z).elim, fun z => by exact Om206 h z⟩
  · exact ⟨⟨fun z => by exact Om207 h z, fun z => by exact Om208 h z⟩, fun z => by exact (Om209 h z).elim, fun z => by exact Om210 h z⟩
  · exact U.ok c h
set_option tactic.hygienic true in
theorem Uni.next (U : Uni st fu Bl) {c f : Cell} (g : GC st Bl c) (e : nextC st c = some f) : GC st Bl f := by
  have hb : ∀ h : c ∈ Bl, c.1 = 2 ∨ c.1 = 3 := fun h => compound_iff.mp (U.cmp c h)
  unfold nextC at e
  split at e
  · rename_i t
    rcases g with ⟨h, h0, x, ex, hx⟩ | h | h | h
    · rw [ex] at e; cases e; exact U.gc _ _ ex hx
    · exact (Om211 t h).elim
    · exact (Om212 t h).elim
    · have := hb h; exact (Om213 t this).elim
  · split at e
    · rename_i t t1
      rcases g with ⟨h, _⟩ | h | h | h
      · exact (Om214 t1 h).elim
      · exact (Om215 t1 h).elim
      · exact (Om216 t1 h).elim
      · have := hb h; exact (Om217 t1 this).elim
    · cases e
theorem Uni.der (U : Uni st fu Bl) {c : Cell} (g : GC st Bl c) : GC st Bl (der st c) := derefP_prop (fun _ _ p e => U.next p e) _ _ g
theorem GC.tag {c : Cell} (g : GC st Bl c) (U : Uni st fu Bl) : c.1 = 0 ∨ c.1 = 4 ∨ c.1 = 5 ∨ compound c = true := by
  rcases g with ⟨h, _⟩ | h | h | h
  · exact .inl h
  · exact .inr (.inl h)
  · exact .inr (.inr (.inl h))
  · exact .inr (.inr (.inr (U.cmp c h)))
theorem Uni.mem (U : Uni st fu Bl) {c : Cell} (g : GC st Bl c) (h : compound c = true) : c ∈ Bl := by
  have h := compound_iff.mp h
  rcases g with ⟨t, _⟩ | t | t | t
  · omega
  · exact (Om218 h t).elim
  · exact (Om219 h t).elim
  · exact t
theorem Uni.arg (U : Uni st fu Bl) {c x : Cell} (h : c ∈ Bl) (hx : x ∈ argsP st fu c) : GC st Bl x := by
  obtain ⟨i, e⟩ := List.mem_iff_getElem?.mp hx
  exact U.gc _ _ (args_at e) (U.ag c h x hx)
theorem der_comp {c : Cell} (h : compound c = true) : der st c = c := by
  have h := compound_iff.mp h
  unfold der derefP
  have : nextC st c = none := by unfold nextC; rw [if_neg (by exact Om220 h), if_neg (by exact Om221 h)]
  rw [this]

/-- no compound holds itself, by ranks -/
noncomputable def AcycBy (st : St) (fu : List (Int × Int)) (Bl : List Cell) (rk : Int → Nat) : Prop := ∀ d ∈ Bl, ∀ x ∈ argsP st fu d, compound (der st x) = true → rk (der st x).2 < rk d.2
/-- what hangs below a cell is finite -/
noncomputable def FinP (st : St) (fu : List (Int × Int)) (Bl : List Cell) (c : Cell) : Prop :=
  ∃ (S : Int → Prop) (rk : Int → Nat), (compound (der st c) = true → S (der st c).2) ∧ (∀ d ∈ Bl, S d.2 → ∀ x ∈ argsP st fu d, (compound (der st x) = true → S (der st x).2 ∧ rk (der st x).2 < rk d.2)) ∧ ∀ p, S p → rk p < 9

noncomputable abbrev Wk := List (Bool × Cell)
noncomputable def okW (st : St) (fu : List (Int × Int)) : Wk → Nat → Prop
  | [], n => 1 ≤ n
  | (false, _) :: w, n => okW st fu w (n + 1)
  | (true, c) :: w, n => widthP st fu c ≤ n ∧ okW st fu w (n - widthP st fu c + 1)
theorem okW_args {w : Wk} : ∀ (l : List Cell) (n : Nat), okW st fu (l.map (fun c => (false, c)) ++ w) n ↔ okW st fu w (n + l.length)
  | [], n => Iff.rfl
  | c :: l, n => by
    show okW st fu (l.map (fun c => (false, c)) ++ w) (n + 1) ↔ _
    rw [okW_args l (n + 1), List.length_cons]
    rw [show n + 1 + l.length = n + (l.length + 1) by exact Om222]
/-- each compound in work has its parts done or above it -/
noncomputable def PB (st : St) (fu : List (Int × Int)) : (Cell → Prop) → Wk → Prop
  | _, [] => True
  | D, e :: w => (e.1 = true → ∀ x ∈ argsP st fu e.2, compound (der st x) = true → D (der st x)) ∧ PB st fu (fun y => D y ∨ der st e.2 = y) w
theorem pw_all {A : Type} {R : A → A → Prop} (h : ∀ a b, R a b) : ∀ l : List A, l.Pairwise R
  | [] => .nil
  | a :: l => .cons (fun b _ => h a b) (pw_all h l)
theorem PB.mono : ∀ {w : Wk} {D D' : Cell → Prop}, PB st fu D w → (∀ y, compound y = true → D y → D' y) → PB st fu D' w
  | [], _, _, _, _ => trivial
  | e :: w, D, D', h, m => ⟨fun b x hx hc => m _ hc (h.1 b x hx hc), PB.mono h.2 fun y hy => Or.imp_left (m y hy)⟩
theorem PB_args {w : Wk} : ∀ (l : List Cell) {D : Cell → Prop}, PB st fu (fun y => D y ∨ ∃ x ∈ l, der st x = y) w → PB st fu D (l.map (fun c => (false, c)) ++ w)
  | [], D, h => h.mono fun y _ z => z.elim id fun ⟨_, m, _⟩ => (nomatch m)
  | c :: l, D, h => ⟨fun z => (nomatch z), PB_args l (h.mono fun y _ z => by
      rcases z with z | ⟨x, m, e⟩
      · exact .inl (.inl z)
      · rcases List.mem_cons.mp m with rfl | m
        · exact .inl (.inr e)
        · exact .inr ⟨x, m, e⟩)⟩

structure TInv (st : St) (fu : List (Int × Int)) (Bl : List Cell) (c0 : Cell) (w : Wk) (kn zs : List (Int × V)) (n : Nat) (rk : Int → Nat) : Prop where
  gc : ∀ e ∈ w, GC st Bl e.2
  bl : ∀ c, (true, c) ∈ w → c ∈ Bl ∧ vAt kn c.2 = some .none
  nd : w.Pairwise fun e f => e.1 = true → f.1 = true → e.2.2 ≠ f.2.2
  gray : ∀ p, vAt kn p = some .none → ∃ c, (true, c) ∈ w ∧ c.2 = p
  vals : ∀ p v, vAt kn p = some v → v = .none ∨ ∃ us, v = .tup us ∧ (vAt zs p).isSome
  zk : ∀ p v, vAt zs p = some v → (∃ us, vAt kn p = some (.tup us)) ∧ (∃ s, v = .int s ∧ s ≤ (4 : Int) ^ zs.length) ∧ rk p < zs.length
  kb : ∀ p, (vAt kn p).isSome → p ∈ Bl.map (·.2)
  cl : ∀ d ∈ Bl, (vAt zs d.2).isSome → ∀ x ∈ argsP st fu d, compound (der st x) = true → (vAt zs (der st x).2).isSome ∧ rk (der st x).2 < rk d.2
  pb : PB st fu (fun y => (vAt zs y.2).isSome) w
  ac : ∀ rkA, AcycBy st fu Bl rkA → w.Pairwise fun e f => f.1 = true → compound (der st e.2) = true → rkA (der st e.2).2 < rkA f.2.2
  need : okW st fu w n
  root : compound (der st c0) = true → (vAt zs (der st c0).2).isSome ∨ ∃ e ∈ w, der st e.2 = der st c0
  knd : (kn.map (·.1)).Nodup
  znd : (zs.map (·.1)).Nodup

theorem vput_keys {K : Type} [DecidableEq K] {es : List (K × V)} {k : K} {u : V} : (vPut es k u).map (·.1) = if (vAt es k).isSome then es.map (·.1) else es.map (·.1) ++ [k] := by
  unfold vPut vAt
  by_cases ha : es.any (fun kv => decide (kv.1 = k)) = true
  · rw [if_pos ha]
    obtain ⟨x, hx, e⟩ := List.any_eq_true.mp ha
    cases hf : es.find? (fun kv => decide (kv.1 = k)) with
    | none => exact absurd e (List.find?_eq_none.mp hf x hx)
    | some y =>
      rw [if_pos (by rfl), List.map_map]
      refine List.map_congr_left fun z _ => ?_
      dsimp only [Function.comp_apply]
      split <;> rfl
  · rw [if_neg ha]
    have hn : es.find? (fun kv => decide (kv.1 = k)) = none := by
      rw [List.find?_eq_none]
      intro x hx e
      exact ha (List.any_eq_true.mpr ⟨x, hx, e⟩)
    rw [hn, if_neg (by simp), List.map_append]; rfl
theorem vat_key {K : Type} [DecidableEq K] {k : K} : ∀ {es : List (K × V)}, k ∈ es.map (·.1) → (vAt es k).isSome
  | (a, b) :: es, h => by
    unfold vAt
    rw [List.find?_cons]
    by_cases e : a = k
    · simp [e]
    · simp only [e, decide_false]
      exact vat_key ((List.mem_cons.mp h).resolve_left (Ne.symm e))
set_option tactic.hygienic true in
theorem vput_nodup {K : Type} [DecidableEq K] {es : List (K × V)} {k : K} {u : V} (h : (es.map (·.1)).Nodup) : ((vPut es k u).map (·.1)).Nodup := by
  rw [vput_keys]
  split
  · exact h
  · rename_i hn
    rw [List.nodup_append]
    refine ⟨h, by simp, fun a ha b hb e => ?_⟩
    simp at hb
    subst hb; subst e
    exact hn (vat_key ha)
theorem nodup_sub {K : Type} [DecidableEq K] : ∀ {l m : List K}, l.Nodup → (∀ x ∈ l, x ∈ m) → l.length ≤ m.length
  | [], _, _, _ => Nat.zero_le _
  | x :: l, m, nd, h => by
    have nd := List.nodup_cons.mp nd
    have h1 := nodup_sub (m := m.erase x) nd.2 fun y hy => (List.mem_erase_of_ne (fun e => nd.1 (by rw [← e]; exact hy))).mpr (h y (.tail _ hy))
    rw [List.length_erase_of_mem (h x (.head _))] at h1
    have := List.length_pos_of_mem (h x (.head _))
    rw [List.length_cons]
    exact Om223 h1 this

section
variable {c0 c : Cell} {w : Wk} {kn zs : List (Int × V)} {n : Nat} {rk : Int → Nat}
theorem TInv.kl (U : Uni st fu Bl) (t : TInv st fu Bl c0 w kn zs n rk) : kn.length ≤ 8 := by
  have := nodup_sub t.knd fun p hp => t.kb p (vat_key hp)
  rw [List.length_map, List.length_map] at this
  exact Nat.le_trans this U.len
theorem TInv.zl (U : Uni st fu Bl) (t : TInv st fu Bl c0 w kn zs n rk) : zs.length ≤ 8 := by
  have := nodup_sub t.znd fun p hp => by
    obtain ⟨v, e⟩ := Option.isSome_iff_exists.mp (vat_key hp)
    obtain ⟨us, e2⟩ := (t.zk p v e).1
    exact t.kb p (by rw [e2]; rfl)
  rw [List.length_map, List.length_map] at this
  exact Nat.le_trans this U.len
theorem TInv.skip (t : TInv st fu Bl c0 ((false, c) :: w) kn zs n rk) (h : compound (der st c) = true → (vAt zs (der st c).2).isSome) : TInv st fu Bl c0 w kn zs (n + 1) rk := by
  refine ⟨fun e m => t.gc e (.tail _ m), fun d m => t.bl d (.tail _ m), (List.pairwise_cons.mp t.nd).2, fun p e => ?_, t.vals, t.zk, t.kb, t.cl, t.pb.2.mono fun y hy z => ?_, fun r a => (List.pairwise_cons.mp (t.ac r a)).2, t.need, fun hc => ?_, t.knd, t.znd⟩
  · obtain ⟨d, m, e⟩ := t.gray p e
    rcases List.mem_cons.mp m with m | m
    · cases m
    · exact ⟨d, m, e⟩
  · rcases z with z | z
    · exact z
    · subst z; exact h hy
  · rcases t.root hc with z | ⟨e, m, z⟩
    · exact .inl z
    · rcases List.mem_cons.mp m with rfl | m
      · left; rw [← z] at hc ⊢; exact h hc
      · exact .inr ⟨e, m, z⟩
set_option tactic.hygienic true in
theorem TInv.expand (U : Uni st fu Bl) (t : TInv st fu Bl c0 ((false, c) :: w) kn zs n rk) (hc : compound (der st c) = true) (hn : vAt kn (der st c).2 = none) (al : (argsP st fu (der st c)).length = widthP st fu (der st c)) :
    TInv st fu Bl c0 ((argsP st fu (der st c)).map (fun x => (false, x)) ++ (true, der st c) :: w) (vPut kn (der st c).2 .none) zs n rk := by
  have hb : der st c ∈ Bl := U.mem (U.der (t.gc _ (.head _))) hc
  have dd := der_comp (st := st) hc
  have ne : ∀ d, (true, d) ∈ w → d.2 ≠ (der st c).2 := fun d m z => by
    have := (t.bl d (.tail _ m)).2
    rw [z, hn] at this; cases this
  have nz : vAt zs (der st c).2 = none := by
    cases e : vAt zs (der st c).2 with
    | none => rfl
    | some v => obtain ⟨us, e2⟩ := (t.zk _ v e).1; rw [hn] at e2; cases e2
  refine ⟨fun e m => ?_, fun d m => ?_, ?_, fun p e => ?_, fun p v e => ?_, fun p v e => ?_, fun p e => ?_, t.cl, ?_, fun r a => ?_, ?_, fun h0 => ?_, vput_nodup t.knd, t.znd⟩
  · rcases List.mem_append.mp m with m | m
    · obtain ⟨x, mx, rfl⟩ := List.mem_map.mp m; exact U.arg hb mx
    · rcases List.mem_cons.mp m with rfl | m
      · exact .inr (.inr (.inr hb))
      · exact t.gc e (.tail _ m)
  · rcases List.mem_append.mp m with m | m
    · obtain ⟨x, mx, e⟩ := List.mem_map.mp m; cases e
    · rcases List.mem_cons.mp m with e | m
      · cases e; exact ⟨hb, by rw [vput_at, if_pos rfl]⟩
      · obtain ⟨a, b⟩ := t.bl d (.tail _ m)
        exact ⟨a, by rw [vput_at, if_neg (ne d m)]; exact b⟩
  · rw [List.pairwise_append]
    refine ⟨List.pairwise_map.mpr (pw_all (fun _ _ z => nomatch z) _), List.pairwise_cons.mpr ⟨fun f m _ z => ?_, (List.pairwise_cons.mp t.nd).2⟩, fun a ma b mb z => ?_⟩
    · obtain ⟨b, d⟩ := f
      have z : b = true := z
      subst z
      exact fun q => ne d m q.symm
    · obtain ⟨x, _, rfl⟩ := List.mem_map.mp ma; cases z
  · rw [vput_at] at e
    split at e
    · rename_i z; exact ⟨der st c, List.mem_append_right _ (.head _), z.symm⟩
    · obtain ⟨d, m, z⟩ := t.gray p e
      rcases List.mem_cons.mp m with m | m
      · cases m
      · exact ⟨d, List.mem_append_right _ (.tail _ m), z⟩
  · rw [vput_at] at e
    split at e
    · cases e; exact .inl rfl
    · exact t.vals p v e
  · obtain ⟨⟨us, e2⟩, b⟩ := t.zk p v e
    refine ⟨⟨us, ?_⟩, b⟩
    rw [vput_at, if_neg (fun z => by rw [z, hn] at e2; cases e2)]; exact e2
  · rw [vput_at] at e
    split at e
    · rename_i z; rw [z]; exact List.mem_map.mpr ⟨_, hb, rfl⟩
    · exact t.kb p e
  · refine PB_args _ ⟨fun _ x hx h => .inr ⟨x, hx, rfl⟩, ?_⟩
    refine t.pb.2.mono fun y _ z => ?_
    rcases z with z | z
    · exact .inl (.inl z)
    · exact .inr (dd.trans z)
  · have p0 := t.ac r a
    have p1 := List.pairwise_cons.mp p0
    rw [List.pairwise_append]
    refine ⟨List.pairwise_map.mpr (pw_all (fun _ _ z => nomatch z) _), List.pairwise_cons.mpr ⟨fun f m z h => ?_, p1.2⟩, fun e me f mf z h => ?_⟩
    · have := p1.1 f m z hc
      dsimp only
      rw [dd]; exact this
    · obtain ⟨x, mx, rfl⟩ := List.mem_map.mp me
      have h1 := a _ hb x mx h
      rcases List.mem_cons.mp mf with rfl | mf
      · exact h1
      · exact Nat.lt_trans h1 (p1.1 f mf z hc)
  · rw [okW_args, al]
    refine ⟨by exact Om224, ?_⟩
    rw [show n + widthP st fu (der st c) - widthP st fu (der st c) + 1 = n + 1 by exact Om225]
    exact t.need
  · rcases t.root h0 with z | ⟨e, m, z⟩
    · exact .inl z
    · rcases List.mem_cons.mp m with rfl | m
      · exact .inr ⟨_, List.mem_append_right _ (.head _), dd.trans z⟩
      · exact .inr ⟨e, List.mem_append_right _ (.tail _ m), z⟩
set_option tactic.hygienic true in
theorem TInv.build (U : Uni st fu Bl) (t : TInv st fu Bl c0 ((true, c) :: w) kn zs n rk) {s : Int} (hs : s ≤ 1 + 2 * (4 : Int) ^ zs.length) (us : List V) :
    TInv st fu Bl c0 w (vPut kn c.2 (.tup us)) (vPut zs c.2 (.int s)) (n - widthP st fu c + 1) (fun p => if p = c.2 then zs.length else rk p) := by
  obtain ⟨hb, hk⟩ := t.bl c (.head _)
  have dd := der_comp (st := st) (U.cmp c hb)
  have nz : vAt zs c.2 = none := by
    cases e : vAt zs c.2 with
    | none => rfl
    | some v => obtain ⟨us, e2⟩ := (t.zk _ v e).1; rw [hk] at e2; cases e2
  have zl : (vPut zs c.2 (.int s)).length = zs.length + 1 := by rw [vput_len, nz]; rfl
  have p4 : (4 : Int) ^ (zs.length + 1) = 4 ^ zs.length * 4 := Int.pow_succ _ _
  have p1 : (1 : Int) ≤ 4 ^ zs.length := by
    have : (0 : Int) < 4 ^ zs.length := Int.pow_pos (by decide)
    exact Om226 this
  have nd := List.pairwise_cons.mp t.nd
  have keep : ∀ p, (vAt zs p).isSome → (vAt (vPut zs c.2 (.int s)) p).isSome ∧ p ≠ c.2 := fun p h => by
    have hne : p ≠ c.2 := fun z => by rw [z, nz] at h; cases h
    exact ⟨by rw [vput_at, if_neg hne]; exact h, hne⟩
  refine ⟨fun e m => t.gc e (.tail _ m), fun d m => ?_, nd.2, fun p e => ?_, fun p v e => ?_, fun p v e => ?_, fun p e => ?_, fun d hd h x hx hc => ?_, ?_, fun r a => (List.pairwise_cons.mp (t.ac r a)).2, t.need.2, fun h0 => ?_, vput_nodup t.knd, vput_nodup t.znd⟩
  · obtain ⟨a, b⟩ := t.bl d (.tail _ m)
    exact ⟨a, by rw [vput_at, if_neg (fun z => nd.1 _ m rfl rfl z.symm)]; exact b⟩
  · rw [vput_at] at e
    split at e
    · cases e
    · rename_i hne
      obtain ⟨d, m, z⟩ := t.gray p e
      rcases List.mem_cons.mp m with m | m
      · cases m; exact absurd z.symm hne
      · exact ⟨d, m, z⟩
  · rw [vput_at] at e
    split at e
    · rename_i z; cases e; exact .inr ⟨us, rfl, by rw [vput_at, if_pos z]; rfl⟩
    · rcases t.vals p v e with h | ⟨us', h, h2⟩
      · exact .inl h
      · exact .inr ⟨us', h, (keep p h2).1⟩
  · rw [vput_at] at e
    split at e
    · rename_i z
      cases e
      refine ⟨⟨us, by rw [vput_at, if_pos z]⟩, ⟨s, rfl, ?_⟩, ?_⟩
      · rw [zl, p4]; exact Om227 hs p1
      · rw [if_pos z, zl]; exact Om228
    · rename_i hne
      obtain ⟨⟨us', e2⟩, ⟨s', e3, le⟩, lt⟩ := t.zk p v e
      refine ⟨⟨us', by rw [vput_at, if_neg hne]; exact e2⟩, ⟨s', e3, ?_⟩, ?_⟩
      · rw [zl, p4]; exact Om229 p1 le
      · rw [if_neg hne, zl]; exact Om230 lt
  · rw [vput_at] at e
    split at e
    · rename_i z; rw [z]; exact List.mem_map.mpr ⟨_, hb, rfl⟩
    · exact t.kb p e
  · rw [vput_at] at h
    by_cases z : d.2 = c.2
    · have := U.inj d hd c hb z
      subst this
      have hx2 := t.pb.1 rfl x hx hc
      obtain ⟨k1, k2⟩ := keep _ hx2
      obtain ⟨v, ev⟩ := Option.isSome_iff_exists.mp hx2
      refine ⟨k1, ?_⟩
      rw [if_neg k2, if_pos rfl]
      exact (t.zk _ v ev).2.2
    · rw [if_neg z] at h
      obtain ⟨h1, h2⟩ := t.cl d hd h x hx hc
      obtain ⟨k1, k2⟩ := keep _ h1
      refine ⟨k1, ?_⟩
      rw [if_neg k2, if_neg z]
      exact h2
  · refine t.pb.2.mono fun y _ z => ?_
    rcases z with z | z
    · exact (keep _ z).1
    · rw [← z]
      show (vAt (vPut zs c.2 (.int s)) (der st c).2).isSome = true
      rw [dd, vput_at, if_pos rfl]; rfl
  · rcases t.root h0 with z | ⟨e, m, z⟩
    · exact .inl (keep _ z).1
    · rcases List.mem_cons.mp m with rfl | m
      · left
        rw [← z]
        show (vAt (vPut zs c.2 (.int s)) (der st c).2).isSome = true
        rw [dd, vput_at, if_pos rfl]; rfl
      · exact .inr ⟨e, m, z⟩
/-- a compound in progress is met: there is a circle -/
theorem TInv.met (t : TInv st fu Bl c0 ((false, c) :: w) kn zs n rk) (hc : compound (der st c) = true) (hn : vAt kn (der st c).2 = some .none) : ¬ ∃ rkA, AcycBy st fu Bl rkA := by
  rintro ⟨rkA, a⟩
  obtain ⟨d, m, e⟩ := t.gray _ hn
  rcases List.mem_cons.mp m with m | m
  · cases m
  · have := (List.pairwise_cons.mp (t.ac rkA a)).1 _ m rfl hc
    dsimp only at this
    rw [e] at this
    exact Nat.lt_irrefl _ this
theorem TInv.fin (U : Uni st fu Bl) (t : TInv st fu Bl c0 [] kn zs n rk) : FinP st fu Bl c0 :=
  ⟨fun p => (vAt zs p).isSome, rk, fun h => (t.root h).elim id fun ⟨_, m, _⟩ => (nomatch m), t.cl, fun p h => by
    obtain ⟨v, e⟩ := Option.isSome_iff_exists.mp h
    have h1 := (t.zk p v e).2.2
    have h2 := t.zl U
    exact Om231 h1 h2⟩
theorem TInv.start (U : Uni st fu Bl) {x : Cell} (g : GC st Bl x) (h : der st x = der st c0) : TInv st fu Bl c0 [(false, x)] [] [] 0 (fun _ => 0) := by
  have n1 : ∀ p : Int, vAt ([] : List (Int × V)) p = none := fun _ => rfl
  refine ⟨fun e m => ?_, fun d m => ?_, List.pairwise_singleton _ _, fun p e => (nomatch e), fun p v e => (nomatch e), fun p v e => (nomatch e), fun p e => (nomatch e), fun d hd e => (nomatch e), ⟨fun e => (nomatch e), trivial⟩, fun _ _ => List.pairwise_singleton _ _, (by show okW st fu [] 1; exact Nat.le_refl _), fun _ => .inr ⟨_, .head _, h⟩, List.nodup_nil, List.nodup_nil⟩
  · rw [List.mem_singleton.mp m]; exact g
  · have := List.mem_singleton.mp m; cases this
end
end

end Mine
end

/-! D23 -/
noncomputable section
set_option maxHeartbeats 200000
open PySem
namespace Mine

section
variable {m : Nat} {σ σ' : AH} {sy so : Nat} {r : Rc} {st : St} {q : Rs} {tx : List PySem.Str} {fu : List (Int × Int)}
variable {to ko zo ro wo : Nat} {ρ ρ' : En} {tb kn zs : List (Int × V)} {rs : List V} {w : List (Bool × Cell)}

theorem tk_visit (W : Wd σ so r st q tx fu) (F : WF2 st fu) (tl : tx.length < 800) (fl : fu.length < 800) (hpos : 0 < σ.length) (A : Ap so r q to ko zo ro wo) {c : Cell} (T : Tk σ ρ so to ko zo ro wo tb kn zs rs w) (r1 : ρ 1 = some (cV c)) (hc : CellOk st fu c)
    (tag : (der st c).1 = 0 ∨ (der st c).1 = 4 ∨ (der st c).1 = 5 ∨ compound (der st c) = true) (l1 : rs.length < 1000) (l2 : kn.length < 1000) (l3 : w.length < 1000) (l4 : tb.length < 10000) (hk : ∀ v, vAt kn (der st c).2 = some v → v = .none ∨ ∃ us, v = .tup us) {Q : Fl → En → AH → Prop}
    (h1 : compound (der st c) = false → ∀ ρ' σ' tb' u, tb'.length ≤ tb.length + 1 → Stay (tkL to ko zo ro wo) σ σ' → Tk σ' ρ' so to ko zo ro wo tb' kn zs (rs ++ [u]) w → Q .next ρ' σ')
    (h2 : compound (der st c) = true → vAt kn (der st c).2 = none → ∀ ρ' σ', Stay (tkL to ko zo ro wo) σ σ' → Tk σ' ρ' so to ko zo ro wo tb (vPut kn (der st c).2 .none) zs rs ((argsP st fu (der st c)).map (fun c => (false, c)) ++ (true, der st c) :: w) → Q .next ρ' σ')
    (h3 : compound (der st c) = true → vAt kn (der st c).2 = some .none → ∀ ρ' σ', Stay (syL q) σ σ' → Q .exc ρ' σ')
    (h4 : compound (der st c) = true → ∀ us, vAt kn (der st c).2 = some (.tup us) → ∀ ρ' σ', Stay (tkL to ko zo ro wo) σ σ' → Tk σ' ρ' so to ko zo ro wo tb kn zs (rs ++ [.tup us]) w → Q .next ρ' σ') :
    wSL P2 (callX P2 fns2 (m + 4)) tkVisit ρ σ Q := by
  have hd := der_cell F hc
  refine c_loc (x_M (.loc T.r0) W.v.cl me8 (.one (.loc r1)) (deref_ok W.v F.wf hc.1 ?_))
  generalize der st c = d at tag hk h1 h2 h3 h4 hd ⊢
  refine s_loc (.sub (.loc rfl) .kint (tup0 _ _)) ?_
  have nc : ¬ (d.1 = 2 ∨ d.1 = 3) → compound d = false := fun h => decide_eq_false h
  have T' : Tk σ ((ρ.put 1 (cV d)).put 11 (.int d.1)) so to ko zo ro wo tb kn zs rs w := (T.put rfl).put rfl
  refine s_if (.cmp (.loc rfl) (.glob g0) cmp_int) (fun t0 => tk_var A T' rfl l1 l4 fun ρ' σ' tb' u hl s T' => h1 (nc (by exact Om232 t0)) ρ' σ' tb' u hl s T') fun t0 => s_if (.cmp (.loc rfl) (.glob g4) cmp_int) (fun t4 => ?_) fun t4 => s_if (.cmp (.loc rfl) (.glob g5) cmp_int) (fun t5 => ?_) fun t5 => ?_
  · exact s_expr (.meth (.loc T.r5) (list_mok T.r).1 (.one (.tup (.cons .kstr (.one (.sub (.loc rfl) .kint (tup1 _ _)))))) (list_app T.r A.r0 (by exact Om77 l1))) (h1 (nc (by exact Om233 t4)) _ _ tb _ (Nat.le_succ _) (.set tk_ro) (T'.setR A _))
  · exact s_expr (.meth (.loc T.r5) (list_mok T.r).1 (.one (.tup (.cons .kstr (.one (.sub (.loc rfl) .kint (tup1 _ _)))))) (list_app T.r A.r0 (by exact Om77 l1))) (h1 (nc (by exact Om234 t5)) _ _ tb _ (Nat.le_succ _) (.set tk_ro) (T'.setR A _))
  · have cc : compound d = true := ((tag.resolve_left t0).resolve_left t4).resolve_left t5
    cases hv : vAt kn d.2 with
    | none => exact s_else (.cmp (.sub (.loc rfl) .kint (tup1 _ _)) (.loc T.r3) ((dI_in T.k).trans (by rw [hv]; rfl))) (tk_expand W A T' rfl (compound_iff.mp cc) hd.2 l2 l3 fun ρ' σ' s T' => h2 cc hv ρ' σ' s T')
    | some v => exact s_then (.cmp (.sub (.loc rfl) .kint (tup1 _ _)) (.loc T.r3) ((dI_in T.k).trans (by rw [hv]; rfl))) (tk_known W tl fl hpos A T' rfl l1 hv (hk v hv) (fun e => h3 cc (e ▸ hv)) fun us e => h4 cc us (e ▸ hv))

theorem tk_pop (A : Ap so r q to ko zo ro wo) {b : Bool} {c : Cell} (T : Tk σ ρ so to ko zo ro wo tb kn zs rs ((b, c) :: w)) (l3 : w.length < 1000) {cf : Cf} {Q : Fl → En → AH → Prop}
    (h : ∀ ρ' σ', Stay (tkL to ko zo ro wo) σ σ' → Tk σ' ρ' so to ko zo ro wo tb kn zs rs w → ρ' 1 = some (cV c) → ρ' 7 = some (.int (if b then 1 else 0)) → wSL P2 cf tkTail ρ' σ' Q) :
    wSL P2 cf tkBody ρ σ Q := by
  have e : ((b, c) :: w).reverse.map wV = w.reverse.map wV ++ [wV (b, c)] := by rw [List.reverse_cons, List.map_append]; rfl
  have hw := T.w
  rw [e] at hw
  exact s_tup (.meth (.loc T.r6) (list_mok hw).2 .nil (list_pop hw A.w0 (by rw [List.length_map, List.length_reverse]; exact Om235 l3))) rfl (h _ _ (.set tk_wo) (((T.setW A w).put rfl).put rfl) rfl rfl)

theorem tk_loop {Bl : List Cell} {c0 : Cell} (F : WF2 st fu) (U : Uni st fu Bl) (tl : tx.length < 800) (fl : fu.length < 800) (A : Ap so r q to ko zo ro wo) {Q : Fl → En → AH → Prop} : ∀ (k : Nat) (w : Wk) (tb kn zs : List (Int × V)) (rs : List V) (rk : Int → Nat) (ρ : En) (σ : AH), Wd σ so r st q tx fu → 0 < σ.length → Tk σ ρ so to ko zo ro wo tb kn zs rs w → TInv st fu Bl c0 w kn zs rs.length rk →
    w.length + 102 * (9 - kn.length) < k → rs.length + k < 1000 → tb.length + k < 10000 →
    (∀ ρ' σ' rs', rs' ≠ [] → rs'.length < 1000 → Stay (tkL to ko zo ro wo) σ σ' → ρ' 5 = some (.obj ro) → σ'[ro]? = some (.list rs') → FinP st fu Bl c0 → Q .next ρ' σ') →
    (∀ ρ' σ', Stay (tkL to ko zo ro wo ++ syL q) σ σ' → (¬ ∃ rkA, AcycBy st fu Bl rkA) → Q .exc ρ' σ') →
    whileGo (wE P2 (callX P2 fns2 (m + 4)) tkCond) (wSL P2 (callX P2 fns2 (m + 4)) tkBody) k ρ σ Q
  | 0, w, tb, kn, zs, rs, rk, ρ, σ, W, hp, T, t, hk, _, _, _, _ => absurd hk (Nat.not_lt_zero _)
  | k + 1, [], tb, kn, zs, rs, rk, ρ, σ, W, hp, T, t, hk, hr, ht, hq, hx => by
    have hn : 1 ≤ rs.length := t.need
    exact w_end (.cmp (.blt (.one (.loc T.r6)) (list_len T.w (by decide))) .kint rfl) (hq ρ σ rs (fun e => by rw [e] at hn; exact absurd hn (Nat.not_succ_le_zero 0)) (by exact Om236 hr) (.refl _ _) T.r5 T.r (t.fin U))
  | k + 1, (b, c) :: w, tb, kn, zs, rs, rk, ρ, σ, W, hp, T, t, hk, hr, ht, hq, hx => by
    have kl := t.kl U
    have zl := t.zl U
    rw [List.length_cons] at hk
    have hgt : cmpV σ .gt (.int (((b, c) :: w).reverse.map wV).length) (.int 0) = some true := by
      rw [List.length_map, List.length_reverse, List.length_cons]
      exact congrArg some (decide_eq_true (Int.natCast_pos.mpr (Nat.succ_pos _)))
    refine w_go (.cmp (.blt (.one (.loc T.r6)) (list_len T.w (by rw [List.length_map, List.length_reverse, List.length_cons]; exact Om237 hk hr))) .kint hgt) (tk_pop A T (by exact Om238 hk hr) fun ρ₁ σ₁ s₁ T₁ a1 a7 => ?_)
    have W₁ := W.tk A s₁
    have hp₁ : 0 < σ₁.length := Nat.lt_of_lt_of_le hp s₁.len
    have again : ∀ {w' : Wk} {tb' kn' zs' : List (Int × V)} {rs' : List V} {rk' : Int → Nat} {ρ₂ : En} {σ₂ : AH}, Stay (tkL to ko zo ro wo) σ₁ σ₂ → Tk σ₂ ρ₂ so to ko zo ro wo tb' kn' zs' rs' w' → TInv st fu Bl c0 w' kn' zs' rs'.length rk' → w'.length + 102 * (9 - kn'.length) < k → rs'.length ≤ rs.length + 1 → tb'.length ≤ tb.length + 1 → whileGo (wE P2 (callX P2 fns2 (m + 4)) tkCond) (wSL P2 (callX P2 fns2 (m + 4)) tkBody) k ρ₂ σ₂ Q := fun s₂ T₂ t₂ k1 k2 k3 =>
      have s₃ := s₁.trans s₂
      tk_loop F U tl fl A k _ _ _ _ _ _ _ _ (W.tk A s₃) (Nat.lt_of_lt_of_le hp s₃.len) T₂ t₂ k1 (by exact Om239 hr k2) (by exact Om240 ht k3) (fun ρ' σ' rs' x1 x2 x3 x4 x5 x6 => hq ρ' σ' rs' x1 x2 (s₃.trans x3) x4 x5 x6) fun ρ' σ' x1 x2 => hx ρ' σ' ((s₃.weak fun i hi => List.mem_append_left _ hi).trans x1) x2
    cases b with
    | true =>
      obtain ⟨hb, hkn⟩ := t.bl c (.head _)
      have hn : widthP st fu c ≤ rs.length := t.need.1
      have pp : (0 : Int) < 4 ^ zs.length := Int.pow_pos (by decide)
      have hz7 : zs.length ≠ 8 := fun z => by
        have nz : vAt zs c.2 = none := by
          cases e : vAt zs c.2 with
          | none => rfl
          | some v => obtain ⟨us, e2⟩ := (t.zk _ v e).1; rw [hkn] at e2; cases e2
        have l := (t.build U (s := 0) (by exact Om241 pp) []).zl U
        rw [vput_len, nz, z] at l
        exact absurd l (by decide)
      have h4 : (4 : Int) ^ zs.length ≤ 50000 := by
        have h5 : ((4 : Nat) ^ zs.length) ≤ 4 ^ 7 := Nat.pow_le_pow_right (by decide) (by exact Om242 zl hz7)
        have h6 : ((4 : Int) ^ zs.length) = (((4 : Nat) ^ zs.length : Nat) : Int) := (Int.natCast_pow 4 _).symm
        rw [h6]
        omega
      refine s_thn (.cmp (.loc a7) (.glob g11) cmp_int) (tk_build (m := m + 1) W₁ F A T₁ a1 (compound_iff.mp (U.cmp c hb)) (U.ok c hb) hn (U.wid c hb) pp h4 (by exact Om236 hr) (by exact Om243 kl) (by exact Om243 zl) (fun x hx hc => ?_) fun ρ₂ σ₂ n us hn2 s₂ T₂ => ?_)
      · obtain ⟨v, ev⟩ := Option.isSome_iff_exists.mp (t.pb.1 rfl x hx hc)
        obtain ⟨_, ⟨s, rfl, le⟩, _⟩ := t.zk _ v ev
        exact ⟨s, ev, le⟩
      · have t₂ := t.build U hn2 us
        have kk : (vPut kn c.2 (.tup us)).length = kn.length := by rw [vput_len, hkn]; rfl
        have ll : (rs.take (rs.length - widthP st fu c) ++ [V.tup us]).length = rs.length - widthP st fu c + 1 := by rw [List.length_append, List.length_take, Nat.min_eq_left (Nat.sub_le ..)]; rfl
        exact again s₂ T₂ (by rw [ll]; exact t₂) (by rw [kk]; exact Om244 hk) (by rw [ll]; exact Om245 hn) (Nat.le_succ _)
    | false =>
      have g := t.gc _ (.head _)
      refine s_no (.cmp (.loc a7) (.glob g11) cmp_int) (by decide) (tk_visit W₁ F tl fl hp₁ A T₁ a1 (U.cell g) ((U.der g).tag U) (by exact Om236 hr) (by exact Om243 kl) (by exact Om238 hk hr) (by exact Om246 ht) (fun v e => (t.vals _ v e).imp_right fun ⟨us, h, _⟩ => ⟨us, h⟩) (fun nc ρ₂ σ₂ tb' u hl s₂ T₂ => ?_) (fun cc hn ρ₂ σ₂ s₂ T₂ => ?_) (fun cc hn ρ₂ σ₂ s₂ => hx ρ₂ σ₂ ((s₁.weak fun i hi => List.mem_append_left _ hi).trans (s₂.weak fun i hi => List.mem_append_right _ hi)) (t.met cc hn)) fun cc us hn ρ₂ σ₂ s₂ T₂ => ?_)
      · exact again s₂ T₂ (by rw [List.length_append]; exact t.skip fun h => by rw [nc] at h; cases h) (by exact Om244 hk) (by rw [List.length_append]; exact Nat.le_refl _) hl
      · have hb := U.mem (U.der g) cc
        have al : (argsP st fu (der st c)).length = widthP st fu (der st c) := args_length (compound_iff.mp cc) (U.ok _ hb).2
        have t₂ := t.expand U cc hn al
        have hw : widthP st fu (der st c) ≤ 2 := U.wid _ hb
        have kk : (vPut kn (der st c).2 V.none).length = kn.length + 1 := by rw [vput_len, hn]; rfl
        have k8 := t₂.kl U
        rw [kk] at k8
        exact again s₂ T₂ t₂ (by rw [kk, List.length_append, List.length_map, List.length_cons]; exact Om247 hk kl al hw kk k8) (Nat.le_succ _) (Nat.le_succ _)
      · exact again s₂ T₂ (by
          rw [List.length_append]
          exact t.skip fun h => by
            rcases t.vals _ _ hn with e | ⟨us', _, h2⟩
            · cases e
            · exact h2) (by exact Om244 hk) (by rw [List.length_append]; exact Nat.le_refl _) (Nat.le_succ _)
end

end Mine
end

/-! D24 -/
noncomputable section
set_option maxHeartbeats 200000
open PySem
namespace Mine

section
variable {m : Nat} {σ σ' : AH} {sy so : Nat} {r : Rc} {st : St} {q : Rs} {tx : List PySem.Str} {fu : List (Int × Int)}

theorem callX_of {m f : Nat} {fn : Fn} {vs : List V} {σ : AH} {Q : V → AH → Prop} {R : AH → Prop} (e : fns2 f = some fn) (hl : vs.length = fn.arity)
    (h : wSL P2 (callX P2 fns2 m) fn.body (bindE 0 (vs ++ fn.dflt)) σ (fun fl _ σ' => match fl with | .ret v => Q v σ' | .exc => R σ' | _ => Q .none σ')) : callX P2 fns2 (m + 1) f vs σ Q R := by
  show (match fns2 f with | some fn => _ | none => _)
  rw [e]
  exact ⟨hl, h⟩

theorem take_ok {Bl : List Cell} (W : Wd σ so r st q tx fu) (F : WF2 st fu) (U : Uni st fu Bl) (hS : st.S = []) (tl : tx.length < 800) (fl : fu.length < 800) (hpos : 0 < σ.length) {to : Nat} (ht : σ[to]? = some (.dictI [])) (hto : to ∉ keptL so r q) {c : Cell} (g : GC st Bl c) {Q : V → AH → Prop} {R : AH → Prop}
    (hq : ∀ σ' v, Stay [to] σ σ' → FinP st fu Bl c → Q v σ') (hx : ∀ σ', Stay (to :: syL q) σ σ' → (¬ ∃ rkA, AcycBy st fu Bl rkA) → R σ') : callX P2 fns2 (m + 5) 28 [.obj so, cV c, .obj to] σ Q R := by
  have hc := U.cell g
  have l1 : (σ ++ [AObj.dictI []]).length = σ.length + 1 := by rw [List.length_append]; rfl
  have l2 : (σ ++ [AObj.dictI []] ++ [AObj.dictI []]).length = σ.length + 2 := by rw [List.length_append, l1]; rfl
  have l3 : (σ ++ [AObj.dictI []] ++ [AObj.dictI []] ++ [AObj.list []]).length = σ.length + 3 := by rw [List.length_append, l2]; rfl
  have s3 : Stay [] σ (σ ++ [AObj.dictI []] ++ [AObj.dictI []] ++ [AObj.list []]) := ((Stay.app _).trans (.app _)).trans (.app _)
  have W3 := W.nil s3
  have g1 := app_get (l := [AObj.list []]) (app_get (l := [AObj.dictI []]) (snoc_get (σ := σ) (o := .dictI [])))
  have g2 := app_get (l := [AObj.list []]) (snoc_get (σ := σ ++ [.dictI []]) (o := .dictI []))
  have g3 := snoc_get (σ := σ ++ [.dictI []] ++ [.dictI []]) (o := .list [])
  rw [l1] at g2
  rw [l2] at g3
  have hlt := lt_of_get ht
  have A : Ap so r q to σ.length (σ.length + 1) (σ.length + 2) (σ.length + 3) :=
    ⟨List.forall_mem_cons.mpr ⟨hto, List.forall_mem_cons.mpr ⟨above_kept W (Nat.le_refl _), List.forall_mem_cons.mpr ⟨above_kept W (Nat.le_add_right ..), List.forall_mem_cons.mpr ⟨above_kept W (Nat.le_add_right ..), on1 (above_kept W (Nat.le_add_right ..))⟩⟩⟩⟩, by exact Om248 l1 l2 l3 hlt, by exact Om249 l1 l2 l3 hlt, by exact Om250, by exact Om251, by exact Om252 hpos l1 l2 l3, by exact Om253 hpos l1 l2 l3⟩
  have t0 : TInv st fu Bl c [(false, der st c)] [] [] 0 (fun _ => 0) := TInv.start U (U.der g) (der_der F.wf hc.1)
  refine callX_of (fn := f_Store_take_term) rfl rfl (s_loc .dict0 (s_loc .dict0 (s_loc (.list .nil) (c_loc (x_list (l_one (x_tup (l_cons (.glob g10) (l_one (x_M (.loc rfl) W3.v.cl me11 (.one (.loc rfl)) (glob_ok W3.v F.wf hS hc.1 ?_)))))))))))
  have T : ∀ {ρ : En}, ρ 0 = some (.obj so) → ρ 2 = some (.obj to) → ρ 3 = some (.obj σ.length) → ρ 4 = some (.obj (σ.length + 1)) → ρ 5 = some (.obj (σ.length + 2)) → ρ 6 = some (.obj (σ.length + 3)) →
      Tk (σ ++ [AObj.dictI []] ++ [AObj.dictI []] ++ [AObj.list []] ++ [.list [wV (false, der st c)]]) ρ so to σ.length (σ.length + 1) (σ.length + 2) (σ.length + 3) [] [] [] [] [(false, der st c)] := fun a0 a2 a3 a4 a5 a6 =>
    ⟨a0, a2, a3, a4, a5, a6, app_get (s3.get _ _ nofun ht), app_get g1, app_get g2, app_get g3, by rw [← l3]; exact snoc_get⟩
  have W4 := W3.nil (Stay.app [.list [wV (false, der st c)]])
  have s1 : ∀ {X : List Nat} {σ' : AH}, Stay (tkL to σ.length (σ.length + 1) (σ.length + 2) (σ.length + 3) ++ X) (σ ++ [AObj.dictI []] ++ [AObj.dictI []] ++ [AObj.list []] ++ [.list [wV (false, der st c)]]) σ' → Stay (to :: X) σ σ' := fun s => ((s3.nil.trans (.app _)).trans s).strong fun i hi =>
    (List.mem_append.mp hi).elim (fun h => (List.mem_cons.mp h).elim (fun e => .inl (e ▸ .head _)) fun h => .inr ((List.forall_mem_cons.mpr ⟨Nat.le_refl _, List.forall_mem_cons.mpr ⟨Nat.le_add_right .., List.forall_mem_cons.mpr ⟨Nat.le_add_right .., List.forall_mem_singleton.mpr (Nat.le_add_right ..)⟩⟩⟩ : ∀ i ∈ [σ.length, σ.length + 1, σ.length + 2, σ.length + 3], σ.length ≤ i) i h)) fun h => .inl (.tail _ h)
  refine ⟨930, tk_loop (m := m) F U tl fl A 930 _ [] [] [] [] _ _ _ W4 (Nat.lt_of_lt_of_le hpos (s3.trans (.app _)).len) (T rfl rfl rfl (congrArg (fun n => some (V.obj n)) l1) (congrArg (fun n => some (V.obj n)) l2) (congrArg (fun n => some (V.obj n)) l3)) t0 (show (919 : Nat) < 930 by decide) (by decide) (by decide) (fun ρ' σ' rs' hne hl s r5 hr hf => ?_) fun ρ' σ' s hn => hx σ' (s1 s) hn⟩
  cases rs' with
  | nil => exact absurd rfl hne
  | cons v rs' => exact s_ret (.sub (.loc r5) .kint (list_item hr (by decide) (by exact Om77 hl) rfl)) (hq σ' v (s1 (X := []) (by rw [List.append_nil]; exact s)) hf)

theorem finite_ok {Bl : List Cell} (W : Wd σ so r st q tx fu) (F : WF2 st fu) (U : Uni st fu Bl) (hS : st.S = []) (tl : tx.length < 800) (fl : fu.length < 800) {c : Cell} (g : GC st Bl c) {Q : V → AH → Prop}
    (hq : ∀ σ', Stay [] σ σ' → FinP st fu Bl c → Q (.bool true) σ') (hx : ∀ σ', Stay (syL q) σ σ' → (¬ ∃ rkA, AcycBy st fu Bl rkA) → Q (.bool false) σ') : callN P2 fns2 (m + 6) 41 [.obj so, cV c] σ Q := by
  have W1 := W.nil (Stay.app [.dictI []])
  have s1 : ∀ {X : List Nat} {σ' : AH}, Stay (σ.length :: X) (σ ++ [.dictI []]) σ' → Stay X σ σ' := fun s => ((Stay.app _).trans s).strong fun i hi => (List.mem_cons.mp hi).elim (fun h => .inr (Nat.le_of_eq h.symm)) .inl
  exact call_of (fn := f__law_is_finite) rfl rfl (s_try (.loc rfl) W.v.cl me21 (.cons (.loc rfl) (.one .dict0)) (take_ok (m := m) W1 F U hS tl fl (by rw [List.length_append]; exact Nat.succ_pos _) (to := σ.length) snoc_get (above_kept W (Nat.le_refl _)) g (fun σ' v s hf => s_ret .kbool (hq σ' (s1 s) hf)) fun σ' s hn => hx σ' (s1 s) hn))
end

end Mine
end

/-! D25 -/
noncomputable section
set_option maxHeartbeats 200000
open PySem
namespace Mine

/-! what a binding does to the chains and to the parts of the compounds -/
section
variable {st st' st1 : St} {fu : List (Int × Int)} {Bl : List Cell}

theorem derefP_fuel (w : WF st) : ∀ (k k' : Nat) (c : Cell), rank st c < k → rank st c < k' → Valid st c → derefP st k c = derefP st k' c
  | 0, _, c, h, _, _ => absurd h (Nat.not_lt_zero _)
  | _, 0, c, _, h, _ => absurd h (Nat.not_lt_zero _)
  | k + 1, k' + 1, c, h, h', hv => by
    rw [derefP, derefP]
    cases e : nextC st c with
    | none => rfl
    | some f =>
      dsimp only
      obtain ⟨hf, hlt⟩ := next_rank w hv e
      by_cases z : f = c
      · rw [if_pos z, if_pos z]
      · rw [if_neg z, if_neg z]
        have := hlt z
        exact derefP_fuel w k k' f (by exact Om66 h this) (by exact Om66 h' this) hf
theorem der_next (w : WF st) {c f : Cell} (hv : Valid st c) (e : nextC st c = some f) (hne : f ≠ c) : der st c = der st f := by
  obtain ⟨hf, hlt⟩ := next_rank w hv e
  have hl := hlt hne
  have h1 := rank_lt hv
  have h2 := rank_lt hf
  unfold der
  rw [derefP, e]
  dsimp only
  rw [if_neg hne]
  exact derefP_fuel w _ _ f (by exact Om254 hl h1 h2) (by exact Om255 h2) hf

/-- what holds of the store along the law -/
structure SInv (st : St) (fu : List (Int × Int)) (Bl : List Cell) : Prop where
  F : WF2 st fu
  U : Uni st fu Bl
  S : st.S = []

/-- a binding that unify may make -/
structure Bd (st : St) (fu : List (Int × Int)) (Bl : List Cell) (x v : Cell) : Prop where
  gx : GC st Bl x
  gv : GC st Bl v
  x0 : x.1 = 0
  hx : nextC st x = some x
  dv : der st v = v
  ne : x ≠ v
  dn : v.1 = 0 → v.2 ≤ x.2

theorem Bd.valid (I : SInv st fu Bl) {x v : Cell} (b : Bd st fu Bl x v) : Valid st x := (I.U.cell b.gx).1
theorem bind_next (I : SInv st fu Bl) {x v : Cell} (b : Bd st fu Bl x v) {c : Cell} (hv : Valid st c) : nextC (bindP st x v) c = if c = x then some v else nextC st c := by
  have vx := (b.valid I).1 b.x0
  unfold nextC
  by_cases t : c.1 = 0
  · rw [if_pos t, if_pos t, bind_H]
    have vc := hv.1 t
    by_cases z : c = x
    · subst z; rw [if_pos rfl, if_pos ⟨t, rfl, vc.2⟩]
    · rw [if_neg z, if_neg]
      rintro ⟨_, h2, _⟩
      exact z (Prod.ext (t.trans b.x0.symm) (by exact Om256 vx vc h2))
  · have z : c ≠ x := fun z => t (by rw [z]; exact b.x0)
    rw [if_neg t, if_neg t, if_neg z]
    have : (bindP st x v).S = st.S := by unfold bindP; dsimp only; rw [if_pos b.x0]
    rw [this]
theorem Bd.wf (I : SInv st fu Bl) {x v : Cell} (b : Bd st fu Bl x v) : WF2 (bindP st x v) fu :=
  bind_wf I.F (.inl b.x0) b.hx (b.valid I) (I.U.cell b.gv) (fun _ => ⟨no_stack I.S (I.U.cell b.gv).1, b.dn⟩) (fun h => by have := b.x0; exact Om257 h this)
theorem der_bind (I : SInv st fu Bl) {x v : Cell} (b : Bd st fu Bl x v) : ∀ (n : Nat) (c : Cell), rank st c < n → Valid st c → der (bindP st x v) c = if der st c = x then v else der st c
  | 0, c, h, _ => absurd h (Nat.not_lt_zero _)
  | n + 1, c, h, hv => by
    have w1 := (b.wf I).wf
    have hn := bind_next I b hv
    by_cases z : c = x
    · subst z
      rw [if_pos rfl] at hn
      rw [if_pos (der_end' (.inr b.hx)), der_next w1 (bind_valid hv) hn (Ne.symm b.ne)]
      have vv := (I.U.cell b.gv).1
      refine der_end' ?_
      rw [bind_next I b vv, if_neg (Ne.symm b.ne)]
      have := (der_end I.F.wf vv).2
      rw [b.dv] at this
      exact this
    · rw [if_neg z] at hn
      cases e : nextC st c with
      | none =>
        rw [e] at hn
        rw [der_end' (.inl hn), der_end' (.inl e), if_neg z]
      | some f =>
        rw [e] at hn
        by_cases q : f = c
        · subst q
          rw [der_end' (.inr hn), der_end' (.inr e), if_neg z]
        · obtain ⟨hf, hlt⟩ := next_rank I.F.wf hv e
          have := hlt q
          rw [der_next w1 (bind_valid hv) hn q, der_next I.F.wf hv e q]
          exact der_bind I b n f (by exact Om66 h this) hf
theorem Bd.der (I : SInv st fu Bl) {x v : Cell} (b : Bd st fu Bl x v) {c : Cell} (hv : Valid st c) : der (bindP st x v) c = if Mine.der st c = x then v else Mine.der st c := der_bind I b _ c (Nat.lt_succ_self _) hv

theorem Bd.wid (I : SInv st fu Bl) {x v : Cell} (b : Bd st fu Bl x v) {d : Cell} (hd : CellOk st fu d) : widthP (bindP st x v) fu d = widthP st fu d := by
  unfold widthP
  by_cases t3 : d.1 = 3
  · rw [if_pos t3, if_pos t3]
  · rw [if_neg t3, if_neg t3]
    by_cases t2 : d.1 = 2
    · rw [if_pos t2, if_pos t2]
      obtain ⟨a, f, n, k, e, _⟩ := hd.2.1 t2
      have : (bindP st x v).H[d.2.toNat]? = st.H[d.2.toNat]? := by
        rw [bind_H, if_neg]
        rintro ⟨h1, h2, h3⟩
        have hx := b.hx
        unfold nextC at hx
        rw [if_pos h1, h2, e] at hx
        have := Option.some.inj hx
        rw [← this] at h1
        exact absurd (show (6 : Int) = 0 from h1) (by decide)
      rw [this]
    · rw [if_neg t2, if_neg t2]
theorem Bd.arg (I : SInv st fu Bl) {x v : Cell} (b : Bd st fu Bl x v) {d : Cell} (hd : CellOk st fu d) (i : Nat) : (argsP (bindP st x v) fu d)[i]? = ((argsP st fu d)[i]?).map fun y => if baseP d + i = x.2.toNat then v else y := by
  unfold argsP
  rw [b.wid I hd, List.getElem?_take, List.getElem?_take]
  split
  · rw [List.getElem?_drop, List.getElem?_drop, bind_H]
    by_cases z : x.2.toNat = baseP d + i
    · by_cases l : baseP d + i < st.H.length
      · rw [if_pos ⟨b.x0, z, l⟩, List.getElem?_eq_getElem l]; simp [z]
      · rw [if_neg (fun h => l h.2.2), List.getElem?_eq_none (by exact Om258 z l)]; rfl
    · rw [if_neg (fun h => z h.2.1)]
      cases st.H[baseP d + i]? with
      | none => rfl
      | some y => simp [Ne.symm z]
  · rfl
/-- the parts of a compound, followed to their ends -/
noncomputable def Kid (st : St) (fu : List (Int × Int)) (d k : Cell) : Prop := ∃ y ∈ argsP st fu d, der st y = k
theorem Bd.at_ (I : SInv st fu Bl) {x v : Cell} (b : Bd st fu Bl x v) : st.H[x.2.toNat]? = some x := by
  have := b.hx
  unfold nextC at this
  rwa [if_pos b.x0] at this
set_option tactic.hygienic true in
theorem Bd.argder (I : SInv st fu Bl) {x v : Cell} (b : Bd st fu Bl x v) {d : Cell} (hd : CellOk st fu d) {i : Nat} {y : Cell} (e : (argsP st fu d)[i]? = some y) : ∃ y', (argsP (bindP st x v) fu d)[i]? = some y' ∧ Mine.der (bindP st x v) y' = if Mine.der st y = x then v else Mine.der st y := by
  have h := b.arg I hd i
  rw [e] at h
  refine ⟨_, h, ?_⟩
  have hy : CellOk st fu y := args_ok I.F (List.mem_of_getElem? e)
  split
  · rename_i z
    have ha := args_at e
    rw [z, b.at_ I] at ha
    cases ha
    rw [if_pos (der_end' (.inr b.hx)), b.der I (I.U.cell b.gv).1, b.dv, if_neg (Ne.symm b.ne)]
  · exact b.der I hy.1
theorem Bd.kid (I : SInv st fu Bl) {x v : Cell} (b : Bd st fu Bl x v) {d k : Cell} (hd : CellOk st fu d) (h : Kid st fu d k) : Kid (bindP st x v) fu d (if k = x then v else k) := by
  obtain ⟨y, m, e⟩ := h
  obtain ⟨i, ei⟩ := List.mem_iff_getElem?.mp m
  obtain ⟨y', e1, e2⟩ := b.argder I hd ei
  rw [e] at e2
  exact ⟨y', List.mem_of_getElem? e1, e2⟩
theorem Bd.kid' (I : SInv st fu Bl) {x v : Cell} (b : Bd st fu Bl x v) {d k : Cell} (hd : CellOk st fu d) (h : Kid (bindP st x v) fu d k) : ∃ k', Kid st fu d k' ∧ k = if k' = x then v else k' := by
  obtain ⟨y', m, e⟩ := h
  obtain ⟨i, ei⟩ := List.mem_iff_getElem?.mp m
  have h := b.arg I hd i
  rw [ei] at h
  cases hy : (argsP st fu d)[i]? with
  | none => rw [hy] at h; cases h
  | some y =>
    obtain ⟨y2, e1, e2⟩ := b.argder I hd hy
    rw [ei] at e1
    cases e1
    exact ⟨_, ⟨y, List.mem_of_getElem? hy, rfl⟩, e.symm.trans e2⟩

theorem Bd.gc (I : SInv st fu Bl) {x v : Cell} (b : Bd st fu Bl x v) {c : Cell} (g : GC st Bl c) : GC (bindP st x v) Bl c := by
  rcases g with ⟨h, h0, y, e, hy⟩ | h | h | h
  · left
    refine ⟨h, h0, ?_⟩
    rw [bind_H]
    split
    · refine ⟨v, rfl, ?_⟩
      rcases b.gv with ⟨t, _⟩ | t | t | t
      · exact Om259 t
      · exact Om260 t
      · exact Om261 t
      · have := compound_iff.mp (I.U.cmp v t); exact Om262 this
    · exact ⟨y, e, hy⟩
  · exact .inr (.inl h)
  · exact .inr (.inr (.inl h))
  · exact .inr (.inr (.inr h))
set_option tactic.hygienic true in
theorem Bd.inv (I : SInv st fu Bl) {x v : Cell} (b : Bd st fu Bl x v) : SInv (bindP st x v) fu Bl := by
  refine ⟨b.wf I, ⟨fun a c e h6 => ?_, fun c hc y hy h6 => ?_, I.U.inj, I.U.cmp, I.U.len, fun c hc => by rw [b.wid I (I.U.ok c hc)]; exact I.U.wid c hc, fun c hc => bind_cell b.hx (I.U.ok c hc)⟩, ?_⟩
  · rw [bind_H] at e
    split at e
    · cases e; exact b.gc I b.gv
    · exact b.gc I (I.U.gc a c e h6)
  · obtain ⟨i, ei⟩ := List.mem_iff_getElem?.mp hy
    rw [b.arg I (I.U.ok c hc)] at ei
    obtain ⟨y0, e0, e1⟩ := Option.map_eq_some_iff.mp ei
    split at e1
    · rename_i z
      have ha := args_at e0
      rw [z, b.at_ I] at ha
      cases ha
      subst e1
      rcases b.gv with ⟨t, _⟩ | t | t | t
      · exact Om263 h6 t
      · exact Om264 h6 t
      · exact Om265 h6 t
      · have := compound_iff.mp (I.U.cmp _ t); exact Om266 h6 this
    · subst e1
      exact I.U.ag c hc _ (List.mem_of_getElem? e0) h6
  · show (bindP st x v).S = []
    have : (bindP st x v).S = st.S := by unfold bindP; dsimp only; rw [if_pos b.x0]
    rw [this]; exact I.S
end

end Mine
end

/-! D26 -/
noncomputable section
set_option maxHeartbeats 200000
open PySem
namespace Mine

/-! the occurs check, circles, and the two runs of unify -/
section
variable {st st' st1 : St} {fu : List (Int × Int)} {Bl : List Cell} {x v : Cell}

inductive Pth (st : St) (fu : List (Int × Int)) (x : Cell) : Cell → Prop
  | here {d : Cell} : Kid st fu d x → Pth st fu x d
  | step {d k : Cell} : Kid st fu d k → compound k = true → Pth st fu x k → Pth st fu x d

set_option tactic.hygienic true in
theorem occ_true : ∀ (k : Nat) (w : List Cell) (M : List Int), occGo st fu x k w M = some true → ∃ t ∈ w, der st t = x ∨ (compound (der st t) = true ∧ Pth st fu x (der st t))
  | 0, _, _, e => nomatch e
  | k + 1, [], _, e => nomatch e
  | k + 1, t :: w, M, e => by
    rw [occGo] at e
    split at e
    · rename_i h; exact ⟨t, .head _, .inl h⟩
    · split at e
      · rename_i h
        have hc := (Bool.and_eq_true_iff.mp h).1
        obtain ⟨y, m, z⟩ := occ_true k _ _ e
        rcases List.mem_append.mp m with m | m
        · refine ⟨t, .head _, .inr ⟨hc, ?_⟩⟩
          rcases z with z | ⟨z1, z2⟩
          · exact .here ⟨y, m, z⟩
          · exact .step ⟨y, m, rfl⟩ z1 z2
        · exact ⟨y, .tail _ m, z⟩
      · obtain ⟨y, m, z⟩ := occ_true k _ _ e
        exact ⟨y, .tail _ m, z⟩
set_option tactic.hygienic true in
theorem occ_false (I : SInv st fu Bl) : ∀ (k : Nat) (w : List Cell) (M : List Int), occGo st fu x k w M = some false → (∀ t ∈ w, GC st Bl t) →
    (∀ d ∈ Bl, d.2 ∈ M → ∀ y ∈ argsP st fu d, (der st y ≠ x ∧ (compound (der st y) = true → (der st y).2 ∈ M)) ∨ ∃ t ∈ w, der st t = der st y) →
    ∃ M' : List Int, (∀ p ∈ M, p ∈ M') ∧ (∀ t ∈ w, der st t ≠ x ∧ (compound (der st t) = true → (der st t).2 ∈ M')) ∧ ∀ d ∈ Bl, d.2 ∈ M' → ∀ y ∈ argsP st fu d, der st y ≠ x ∧ (compound (der st y) = true → (der st y).2 ∈ M')
  | 0, _, _, e, _, _ => nomatch e
  | k + 1, [], M, e, g, inv => ⟨M, fun _ h => h, fun _ h => (nomatch h), fun d hd hm y hy => (inv d hd hm y hy).elim id fun ⟨_, m, _⟩ => (nomatch m)⟩
  | k + 1, t :: w, M, e, g, inv => by
    rw [occGo] at e
    split at e
    · cases e
    · rename_i hne
      split at e
      · rename_i h
        have hc := (Bool.and_eq_true_iff.mp h).1
        have hb := I.U.mem (I.U.der (g t (.head _))) hc
        obtain ⟨M', h1, h2, h3⟩ := occ_false I k _ _ e (fun y hy => by
          rcases List.mem_append.mp hy with hy | hy
          · exact I.U.arg hb hy
          · exact g y (.tail _ hy)) fun d hd hm y hy => by
            rcases List.mem_append.mp hm with hm | hm
            · rcases inv d hd hm y hy with ⟨a, b⟩ | ⟨t', m, z⟩
              · exact .inl ⟨a, fun q => List.mem_append_left _ (b q)⟩
              · rcases List.mem_cons.mp m with rfl | m
                · exact .inl ⟨by rw [← z]; exact hne, fun _ => by rw [← z]; exact List.mem_append_right _ (.head _)⟩
                · exact .inr ⟨t', List.mem_append_right _ m, z⟩
            · have hm := List.mem_singleton.mp hm
              have := I.U.inj d hd _ hb hm
              subst this
              exact .inr ⟨y, List.mem_append_left _ hy, rfl⟩
        refine ⟨M', fun p hp => h1 p (List.mem_append_left _ hp), fun y hy => ?_, h3⟩
        rcases List.mem_cons.mp hy with rfl | hy
        · exact ⟨hne, fun _ => h1 _ (List.mem_append_right _ (.head _))⟩
        · exact h2 y (List.mem_append_right _ hy)
      · rename_i h
        have hin : compound (der st t) = true → (der st t).2 ∈ M := fun hc => by
          rw [hc] at h; simpa using h
        obtain ⟨M', h1, h2, h3⟩ := occ_false I k _ _ e (fun y hy => g y (.tail _ hy)) fun d hd hm y hy => by
          rcases inv d hd hm y hy with z | ⟨t', m, z⟩
          · exact .inl z
          · rcases List.mem_cons.mp m with rfl | m
            · exact .inl (by rw [← z]; exact ⟨hne, hin⟩)
            · exact .inr ⟨t', m, z⟩
        refine ⟨M', h1, fun y hy => ?_, h3⟩
        rcases List.mem_cons.mp hy with rfl | hy
        · exact ⟨hne, fun q => h1 _ (hin q)⟩
        · exact h2 y hy
theorem pth_no {M : List Int} (I : SInv st fu Bl) (h : ∀ d ∈ Bl, d.2 ∈ M → ∀ y ∈ argsP st fu d, der st y ≠ x ∧ (compound (der st y) = true → (der st y).2 ∈ M)) {d : Cell} (p : Pth st fu x d) : d ∈ Bl → d.2 ∈ M → False := by
  induction p with
  | here k => obtain ⟨y, hy, e⟩ := k; exact fun hd hm => (h _ hd hm y hy).1 e
  | step k hc _ ih =>
    obtain ⟨y, hy, e⟩ := k
    subst e
    exact fun hd hm => ih (I.U.mem (I.U.der (I.U.arg hd hy)) hc) ((h _ hd hm y hy).2 hc)
set_option tactic.hygienic true in
theorem occP_true (b : Bd st fu Bl x v) (h : occP st fu x v = true) : compound v = true ∧ Pth st fu x v := by
  unfold occP at h
  rw [b.dv, if_neg (Ne.symm b.ne)] at h
  split at h
  · cases h
  · rename_i hn
    have hc : compound v = true := by
      cases q : compound v with
      | true => rfl
      | false => exact absurd (.inr q) hn
    refine ⟨hc, ?_⟩
    cases e : occGo st fu x 6101 [v] [] with
    | none => rw [e] at h; cases h
    | some r =>
      rw [e] at h
      cases (show r = true from h)
      obtain ⟨t, m, z⟩ := occ_true _ _ _ e
      have := List.mem_singleton.mp m
      subst this
      rw [b.dv] at z
      exact z.elim (fun z => absurd z (Ne.symm b.ne)) And.right
theorem occP_false (I : SInv st fu Bl) (hl : st.H.length < 60) (b : Bd st fu Bl x v) (h : occP st fu x v = false) (hc : compound v = true) : ¬ Pth st fu x v := by
  unfold occP at h
  rw [b.dv, if_neg (Ne.symm b.ne), if_neg (by rintro (z | z); · have := b.x0; exact Om214 z this
                                              · rw [hc] at z; cases z)] at h
  have i0 : OccInv st fu [v] [] := ⟨fun y h => by simp at h; subst h; exact I.U.cell b.gv, by simp, fun y h => by simp at h⟩
  obtain ⟨r, hr⟩ := occ_total (x := x) I.F hl 6100 [v] [] (by simp) i0
  rw [hr] at h
  cases (show r = false from h)
  obtain ⟨M', _, h2, h3⟩ := occ_false (Bl := Bl) I 6101 [v] [] hr (fun t m => by rw [List.mem_singleton.mp m]; exact b.gv) fun d _ hm => (nomatch hm)
  intro p
  have := h2 v (.head _)
  rw [b.dv] at this
  exact pth_no I h3 p (I.U.mem b.gv hc) (this.2 hc)

theorem kid_gc (I : SInv st fu Bl) {d k : Cell} (hd : d ∈ Bl) (h : Kid st fu d k) : GC st Bl k := by
  obtain ⟨y, m, e⟩ := h
  subst e
  exact I.U.der (I.U.arg hd m)
theorem kid_der (I : SInv st fu Bl) {d k : Cell} (hd : d ∈ Bl) (h : Kid st fu d k) : der st k = k := by
  obtain ⟨y, m, e⟩ := h
  subst e
  exact der_der I.F.wf (I.U.cell (I.U.arg hd m)).1
/-- a binding that closes no circle -/
theorem acyc_bind (I : SInv st fu Bl) (b : Bd st fu Bl x v) (hn : compound v = true → ¬ Pth st fu x v) {rk : Int → Nat} (a : AcycBy st fu Bl rk) : ∃ rk', AcycBy (bindP st x v) fu Bl rk' := by
  classical
  refine ⟨fun p => if ∃ d ∈ Bl, d.2 = p ∧ Pth st fu x d then rk p + rk v.2 + 1 else rk p, fun d hd y hy hc => ?_⟩
  obtain ⟨k, hk, e⟩ := b.kid' I (I.U.ok d hd) ⟨y, hy, rfl⟩
  have uniq : ∀ {c : Cell}, c ∈ Bl → ((∃ d ∈ Bl, d.2 = c.2 ∧ Pth st fu x d) ↔ Pth st fu x c) := fun hc => ⟨fun ⟨d, h1, h2, h3⟩ => by have := I.U.inj d h1 _ hc h2; subst this; exact h3, fun h => ⟨_, hc, rfl, h⟩⟩
  dsimp only
  rw [e] at hc ⊢
  by_cases z : k = x
  · rw [if_pos z] at hc ⊢
    subst z
    have hv := I.U.mem b.gv hc
    rw [if_neg (fun h => hn hc ((uniq hv).mp h)), if_pos ((uniq hd).mpr (.here hk))]
    exact Om267
  · rw [if_neg z] at hc ⊢
    have hkb := I.U.mem (kid_gc I hd hk) hc
    have lt : rk k.2 < rk d.2 := by
      obtain ⟨y0, m0, e0⟩ := hk
      have := a d hd y0 m0 (by rw [e0]; exact hc)
      rwa [e0] at this
    by_cases p : Pth st fu x k
    · rw [if_pos ((uniq hkb).mpr p), if_pos ((uniq hd).mpr (.step hk hc p))]; exact Om268 lt
    · rw [if_neg (fun h => p ((uniq hkb).mp h))]
      split <;> omega

/-- what later bindings leave -/
structure Grow (st st' : St) (fu : List (Int × Int)) (Bl : List Cell) : Prop where
  gc : ∀ c, GC st Bl c → GC st' Bl c
  der : ∀ c, GC st Bl c → der st' c = der st' (der st c)
  kid : ∀ d ∈ Bl, ∀ k, Kid st fu d k → Kid st' fu d (Mine.der st' k)
theorem Grow.refl (I : SInv st fu Bl) : Grow st st fu Bl := ⟨fun _ h => h, fun c g => (der_der I.F.wf (I.U.cell g).1).symm, fun d hd k h => by rw [kid_der I hd h]; exact h⟩
theorem Grow.trans (I : SInv st fu Bl) {st2 : St} (a : Grow st st1 fu Bl) (b : Grow st1 st2 fu Bl) : Grow st st2 fu Bl := by
  refine ⟨fun c g => b.gc c (a.gc c g), fun c g => ?_, fun d hd k h => ?_⟩
  · rw [b.der c (a.gc c g), a.der c g, ← b.der _ (a.gc _ (I.U.der g))]
  · have h2 := b.kid d hd _ (a.kid d hd k h)
    rwa [← b.der k (a.gc k (kid_gc I hd h))] at h2
theorem Bd.grow (I : SInv st fu Bl) (b : Bd st fu Bl x v) : Grow st (bindP st x v) fu Bl := by
  refine ⟨fun c g => b.gc I g, fun c g => ?_, fun d hd k h => ?_⟩
  · have hv := (I.U.cell g).1
    rw [b.der I hv, b.der I (I.U.cell (I.U.der g)).1, der_der I.F.wf hv]
  · have := b.kid I (I.U.ok d hd) h
    rw [b.der I (I.U.cell (kid_gc I hd h)).1, kid_der I hd h]
    exact this

/-- the ends of a pair -/
theorem bd_var (I : SInv st fu Bl) {a b : Cell} (ga : GC st Bl a) (gb : GC st Bl b) (hne : der st a ≠ der st b) (va : isV (der st a)) (vb : ¬ isV (der st b)) : Bd st fu Bl (der st a) (der st b) := by
  have ca := I.U.cell ga
  have x0 : (der st a).1 = 0 := va.resolve_right (no_stack I.S (der_cell I.F ca).1)
  exact ⟨I.U.der ga, I.U.der gb, x0, (der_res I.F ca).un va, der_der I.F.wf (I.U.cell gb).1, hne, fun t => absurd (.inl t) vb⟩
set_option tactic.hygienic true in
theorem bd_pair (I : SInv st fu Bl) {a b : Cell} (ga : GC st Bl a) (gb : GC st Bl b) (hne : der st a ≠ der st b) (va : isV (der st a)) (vb : isV (der st b)) :
    ∃ x v, (x = der st a ∧ v = der st b ∨ x = der st b ∧ v = der st a) ∧ Bd st fu Bl x v ∧ compound v = false ∧ pairP st (der st a) (der st b) = bindP st x v := by
  have ca := I.U.cell ga
  have cb := I.U.cell gb
  have a0 : (der st a).1 = 0 := va.resolve_right (no_stack I.S (der_cell I.F ca).1)
  have b0 : (der st b).1 = 0 := vb.resolve_right (no_stack I.S (der_cell I.F cb).1)
  have nc : ∀ {c : Cell}, c.1 = 0 → compound c = false := fun h => by unfold compound; rw [decide_eq_false (by exact Om232 h)]
  unfold pairP
  rw [if_neg hne, if_pos (a0.trans b0.symm)]
  split
  · rename_i l
    exact ⟨_, _, .inr ⟨rfl, rfl⟩, ⟨I.U.der gb, I.U.der ga, b0, (der_res I.F cb).un vb, der_der I.F.wf ca.1, Ne.symm hne, fun _ => by exact Om112 l⟩, nc a0, rfl⟩
  · rename_i l
    exact ⟨_, _, .inl ⟨rfl, rfl⟩, ⟨I.U.der ga, I.U.der gb, a0, (der_res I.F ca).un va, der_der I.F.wf cb.1, hne, fun _ => by exact Om113 l⟩, nc b0, rfl⟩

theorem uni_occ {occ o : Bool} {k : Nat} {a b : Cell} {w : List (Cell × Cell)} {M : List (Int × Int)} {s : St} (h : uStep fu occ st a b w M = if o = true then none else some (s, w, M)) : uniGo fu occ (k + 1) st ((a, b) :: w) M = if o = true then some (false, st) else uniGo fu occ k s w M := by
  cases o with
  | true => exact uni_no h
  | false => exact uni_go h
/-- one step of unify -/
theorem uni_step (I : SInv st fu Bl) {a b : Cell} (ga : GC st Bl a) (gb : GC st Bl b) (k : Nat) (w : List (Cell × Cell)) (M : List (Int × Int)) :
    (∀ occ, uniGo fu occ (k + 1) st ((a, b) :: w) M = uniGo fu occ k st w M) ∨
    (∃ x v, (x = der st a ∧ v = der st b ∨ x = der st b ∧ v = der st a) ∧ Bd st fu Bl x v ∧ compound v = false ∧ ∀ occ, uniGo fu occ (k + 1) st ((a, b) :: w) M = uniGo fu occ k (bindP st x v) w M) ∨
    (∃ x v, (x = der st a ∧ v = der st b ∨ x = der st b ∧ v = der st a) ∧ Bd st fu Bl x v ∧ ∀ occ, uniGo fu occ (k + 1) st ((a, b) :: w) M = if occB occ st fu x v then some (false, st) else uniGo fu occ k (bindP st x v) w M) ∨
    (∃ M', compound (der st a) = true ∧ compound (der st b) = true ∧ ∀ occ, uniGo fu occ (k + 1) st ((a, b) :: w) M = uniGo fu occ k st ((argsP st fu (der st a)).zip (argsP st fu (der st b)) ++ w) M') ∨
    ∀ occ, uniGo fu occ (k + 1) st ((a, b) :: w) M = some (false, st) := by
  by_cases h : der st a = der st b
  · exact .inl fun occ => uni_go (if_pos h)
  by_cases va : isV (der st a)
  · by_cases vb : isV (der st b)
    · obtain ⟨x, v, h1, h2, h3, h4⟩ := bd_pair I ga gb h va vb
      exact .inr (.inl ⟨x, v, h1, h2, h3, fun occ => by rw [uni_go ((if_neg h).trans ((if_pos va).trans (if_pos vb))), h4]⟩)
    · exact .inr (.inr (.inl ⟨_, _, .inl ⟨rfl, rfl⟩, bd_var I ga gb h va vb, fun occ => uni_occ ((if_neg h).trans ((if_pos va).trans (if_neg vb)))⟩))
  · by_cases vb : isV (der st b)
    · exact .inr (.inr (.inl ⟨_, _, .inr ⟨rfl, rfl⟩, bd_var I gb ga (Ne.symm h) vb va, fun occ => uni_occ ((if_neg h).trans ((if_neg va).trans (if_pos vb)))⟩))
    · by_cases hc : (compound (der st a) && shape st (der st a) (der st b)) = true
      · obtain ⟨c1, c2⟩ := Bool.and_eq_true_iff.mp hc
        by_cases hm : ((der st a).2, (der st b).2) ∈ M
        · exact .inl fun occ => uni_go ((if_neg h).trans ((if_neg va).trans ((if_neg vb).trans ((if_pos hc).trans (if_pos hm)))))
        · exact .inr (.inr (.inr (.inl ⟨_, c1, shape_comp c2 c1, fun occ => uni_go ((if_neg h).trans ((if_neg va).trans ((if_neg vb).trans ((if_pos hc).trans (if_neg hm)))))⟩)))
      · exact .inr (.inr (.inr (.inr fun occ => uni_no ((if_neg h).trans ((if_neg va).trans ((if_neg vb).trans (if_neg hc)))))))

theorem zip_mem {l l' : List Cell} {p : Cell × Cell} (h : p ∈ l.zip l') : p.1 ∈ l ∧ p.2 ∈ l' := by
  obtain ⟨a, b⟩ := p
  exact List.of_mem_zip h

theorem uni_main : ∀ (k : Nat) (st : St) (w : List (Cell × Cell)) (M : List (Int × Int)) (occ b : Bool) (st' : St), SInv st fu Bl → (∀ p ∈ w, GC st Bl p.1 ∧ GC st Bl p.2) → uniGo fu occ k st w M = some (b, st') → SInv st' fu Bl ∧ Grow st st' fu Bl
  | 0, st, w, M, occ, b, st', I, g, e => nomatch e
  | k + 1, st, [], M, occ, b, st', I, g, e => by cases e; exact ⟨I, .refl I⟩
  | k + 1, st, (a, c) :: w, M, occ, b, st', I, g, e => by
    obtain ⟨ga, gb⟩ := g _ (.head _)
    have gw : ∀ p ∈ w, GC st Bl p.1 ∧ GC st Bl p.2 := fun p h => g p (.tail _ h)
    have go : ∀ {x v : Cell}, Bd st fu Bl x v → uniGo fu occ k (bindP st x v) w M = some (b, st') → SInv st' fu Bl ∧ Grow st st' fu Bl := fun bd e => by
      obtain ⟨h1, h2⟩ := uni_main k _ w M occ b st' (bd.inv I) (fun p h => ⟨bd.gc I (gw p h).1, bd.gc I (gw p h).2⟩) e
      exact ⟨h1, (bd.grow I).trans I h2⟩
    rcases uni_step I ga gb k w M with h | ⟨x, v, _, bd, _, h⟩ | ⟨x, v, _, bd, h⟩ | ⟨M', h1, h2, h⟩ | h
    · rw [h occ] at e; exact uni_main k st w M occ b st' I gw e
    · rw [h occ] at e; exact go bd e
    · rw [h occ] at e
      split at e
      · cases e; exact ⟨I, .refl I⟩
      · exact go bd e
    · rw [h occ] at e
      refine uni_main k st _ M' occ b st' I (fun p hp => ?_) e
      rcases List.mem_append.mp hp with hp | hp
      · obtain ⟨m1, m2⟩ := zip_mem hp
        exact ⟨I.U.arg (I.U.mem (I.U.der ga) h1) m1, I.U.arg (I.U.mem (I.U.der gb) h2) m2⟩
      · exact gw p hp
    · rw [h occ] at e; cases e; exact ⟨I, .refl I⟩

set_option tactic.hygienic true in
/-- what passes the checks runs the same without them, and closes no circle -/
theorem uni_strict : ∀ (k : Nat) (st : St) (w : List (Cell × Cell)) (M : List (Int × Int)) (st' : St), st.H.length < 60 → SInv st fu Bl → (∀ p ∈ w, GC st Bl p.1 ∧ GC st Bl p.2) → uniGo fu true k st w M = some (true, st') →
    uniGo fu false k st w M = some (true, st') ∧ ((∃ rk, AcycBy st fu Bl rk) → ∃ rk, AcycBy st' fu Bl rk)
  | 0, st, w, M, st', hl, I, g, e => nomatch e
  | k + 1, st, [], M, st', hl, I, g, e => by cases e; exact ⟨rfl, id⟩
  | k + 1, st, (a, c) :: w, M, st', hl, I, g, e => by
    obtain ⟨ga, gb⟩ := g _ (.head _)
    have gw : ∀ p ∈ w, GC st Bl p.1 ∧ GC st Bl p.2 := fun p h => g p (.tail _ h)
    have go : ∀ {x v : Cell}, Bd st fu Bl x v → (compound v = true → ¬ Pth st fu x v) → uniGo fu true k (bindP st x v) w M = some (true, st') → uniGo fu false k (bindP st x v) w M = some (true, st') ∧ ((∃ rk, AcycBy st fu Bl rk) → ∃ rk, AcycBy st' fu Bl rk) := fun bd hn e => by
      obtain ⟨h1, h2⟩ := uni_strict k _ w M st' (by rw [bind_HL]; exact hl) (bd.inv I) (fun p h => ⟨bd.gc I (gw p h).1, bd.gc I (gw p h).2⟩) e
      exact ⟨h1, fun ⟨rk, r⟩ => h2 (acyc_bind I bd hn r)⟩
    rcases uni_step I ga gb k w M with h | ⟨x, v, _, bd, nc, h⟩ | ⟨x, v, _, bd, h⟩ | ⟨M', h1, h2, h⟩ | h
    · rw [h true] at e; rw [h false]; exact uni_strict k st w M st' hl I gw e
    · rw [h true] at e; rw [h false]; exact go bd (fun z => by rw [nc] at z; cases z) e
    · rw [h true] at e
      rw [h false]
      have b0 : occB false st fu x v = false := rfl
      rw [b0, if_neg (by decide)]
      split at e
      · cases e
      · rename_i hb
        have hb : occP st fu x v = false := by simpa [occB] using hb
        exact go bd (occP_false I hl bd hb) e
    · rw [h true] at e
      rw [h false]
      refine uni_strict k st _ M' st' hl I (fun p hp => ?_) e
      rcases List.mem_append.mp hp with hp | hp
      · obtain ⟨m1, m2⟩ := zip_mem hp
        exact ⟨I.U.arg (I.U.mem (I.U.der ga) h1) m1, I.U.arg (I.U.mem (I.U.der gb) h2) m2⟩
      · exact gw p hp
    · rw [h true] at e; cases e

/-- a set of compounds, closed under parts, without circles -/
noncomputable def Clo (st : St) (fu : List (Int × Int)) (Bl : List Cell) (S : Int → Prop) (rk : Int → Nat) : Prop := ∀ d ∈ Bl, S d.2 → ∀ k, Kid st fu d k → compound k = true → S k.2 ∧ rk k.2 < rk d.2
theorem pth_rank {S : Int → Prop} {rk : Int → Nat} (I : SInv st fu Bl) (b : Bd st fu Bl x v) (G : Grow (bindP st x v) st' fu Bl) (C : Clo st' fu Bl S rk) (hc : compound v = true) {d : Cell} (p : Pth st fu x d) : d ∈ Bl → S d.2 → rk v.2 < rk d.2 := by
  have kk : ∀ {d k : Cell}, d ∈ Bl → Kid st fu d k → Kid st' fu d (der st' (if k = x then v else k)) := fun hd h => G.kid _ hd _ (b.kid I (I.U.ok _ hd) h)
  induction p with
  | here k =>
    intro hd hs
    have h := kk hd k
    rw [if_pos rfl, der_comp hc] at h
    exact (C _ hd hs _ h hc).2
  | @step d k hk hkc p ih =>
    intro hd hs
    have hne : k ≠ x := fun z => by
      have := compound_iff.mp hkc
      have h0 := b.x0
      rw [z] at this
      exact Om269 this h0
    have h := kk hd hk
    rw [if_neg hne, der_comp hkc] at h
    obtain ⟨h1, h2⟩ := C _ hd hs _ h hkc
    have := ih (I.U.mem (kid_gc I hd hk) hkc) h1
    exact Om270 h2 this
/-- where the run without checks ends without a circle, no check would have failed -/
theorem uni_free {S : Int → Prop} {rk : Int → Nat} {st' : St} (C : Clo st' fu Bl S rk) : ∀ (k : Nat) (st : St) (w : List (Cell × Cell)) (M : List (Int × Int)), SInv st fu Bl → (∀ p ∈ w, GC st Bl p.1 ∧ GC st Bl p.2) →
    (∀ p ∈ w, (compound (der st' p.1) = true → S (der st' p.1).2) ∧ (compound (der st' p.2) = true → S (der st' p.2).2)) → uniGo fu false k st w M = some (true, st') → uniGo fu true k st w M = some (true, st')
  | 0, st, w, M, I, g, s, e => nomatch e
  | k + 1, st, [], M, I, g, s, e => by cases e; rfl
  | k + 1, st, (a, c) :: w, M, I, g, s, e => by
    have e0 := e
    obtain ⟨ga, gb⟩ := g _ (.head _)
    have gw : ∀ p ∈ w, GC st Bl p.1 ∧ GC st Bl p.2 := fun p h => g p (.tail _ h)
    have sw : ∀ p ∈ w, (compound (der st' p.1) = true → S (der st' p.1).2) ∧ (compound (der st' p.2) = true → S (der st' p.2).2) := fun p h => s p (.tail _ h)
    obtain ⟨_, G⟩ := uni_main (k + 1) st _ M false true st' I g e0
    rcases uni_step I ga gb k w M with h | ⟨x, v, _, bd, nc, h⟩ | ⟨x, v, hxv, bd, h⟩ | ⟨M', h1, h2, h⟩ | h
    · rw [h false] at e; rw [h true]; exact uni_free C k st w M I gw sw e
    · rw [h false] at e; rw [h true]
      exact uni_free C k _ w M (bd.inv I) (fun p h => ⟨bd.gc I (gw p h).1, bd.gc I (gw p h).2⟩) sw e
    · rw [h false] at e
      rw [h true]
      have b0 : occB false st fu x v = false := rfl
      rw [b0, if_neg (by decide)] at e
      have gw' : ∀ p ∈ w, GC (bindP st x v) Bl p.1 ∧ GC (bindP st x v) Bl p.2 := fun p h => ⟨bd.gc I (gw p h).1, bd.gc I (gw p h).2⟩
      obtain ⟨_, G1⟩ := uni_main k _ w M false true st' (bd.inv I) gw' e
      have hn : occP st fu x v = false := by
        cases q : occP st fu x v with
        | false => rfl
        | true =>
          obtain ⟨hc, p⟩ := occP_true bd q
          have hv := I.U.mem bd.gv hc
          obtain ⟨s1, s2⟩ := s _ (.head _)
          have hs : S v.2 := by
            rcases hxv with ⟨_, z⟩ | ⟨_, z⟩
            · have := s2
              dsimp only at this
              rw [G.der c gb, ← z, der_comp hc] at this
              exact this hc
            · have := s1
              dsimp only at this
              rw [G.der a ga, ← z, der_comp hc] at this
              exact this hc
          exact absurd (pth_rank I bd G1 C hc p hv hs) (Nat.lt_irrefl _)
      have b1 : occB true st fu x v = false := by unfold occB; rw [hn]; rfl
      rw [b1, if_neg (by decide)]
      exact uni_free C k _ w M (bd.inv I) gw' sw e
    · rw [h false] at e
      rw [h true]
      have ba := I.U.mem (I.U.der ga) h1
      have bb := I.U.mem (I.U.der gb) h2
      have arg : ∀ {d y : Cell}, d ∈ Bl → S d.2 → y ∈ argsP st fu d → compound (der st' y) = true → S (der st' y).2 := fun hd hs hy hc => by
        have h := G.kid _ hd _ ⟨_, hy, rfl⟩
        rw [← G.der _ (I.U.arg hd hy)] at h
        exact (C _ hd hs _ h hc).1
      obtain ⟨s1, s2⟩ := s _ (.head _)
      dsimp only at s1 s2
      rw [G.der a ga, der_comp h1] at s1
      rw [G.der c gb, der_comp h2] at s2
      refine uni_free C k st _ M' I (fun p hp => ?_) (fun p hp => ?_) e
      · rcases List.mem_append.mp hp with hp | hp
        · obtain ⟨m1, m2⟩ := zip_mem hp
          exact ⟨I.U.arg ba m1, I.U.arg bb m2⟩
        · exact gw p hp
      · rcases List.mem_append.mp hp with hp | hp
        · obtain ⟨m1, m2⟩ := zip_mem hp
          exact ⟨arg ba (s1 h1) m1, arg bb (s2 h2) m2⟩
        · exact sw p hp
    · rw [h false] at e; cases e
end

end Mine
end

/-! D27 -/
noncomputable section
set_option maxHeartbeats 200000
open PySem
namespace Mine

/-! one turn of the law, plainly -/
section
variable {st : St} {fu : List (Int × Int)} {Bl : List Cell} {a b : Cell}
set_option tactic.hygienic true in
theorem fin_merge (I : SInv st fu Bl) (ha : FinP st fu Bl a) (hb : FinP st fu Bl b) : ∃ S rk, Clo st fu Bl S rk ∧ (compound (der st a) = true → S (der st a).2) ∧ (compound (der st b) = true → S (der st b).2) := by
  classical
  obtain ⟨Sa, ra, a1, a2, a3⟩ := ha
  obtain ⟨Sb, rb, b1, b2, b3⟩ := hb
  refine ⟨fun p => Sa p ∨ Sb p, fun p => if Sa p then ra p else rb p + 9, ?_, fun h => .inl (a1 h), fun h => .inr (b1 h)⟩
  rintro d hd hs k ⟨y, hy, rfl⟩ hc
  dsimp only
  by_cases h : Sa d.2
  · obtain ⟨h1, h2⟩ := a2 d hd h y hy hc
    exact ⟨.inl h1, by rw [if_pos h1, if_pos h]; exact h2⟩
  · obtain ⟨h1, h2⟩ := b2 d hd (hs.resolve_left h) y hy hc
    refine ⟨.inr h1, ?_⟩
    rw [if_neg h]
    split
    · rename_i q; have := a3 _ q; exact Om271 h2 this
    · exact Om272 h2
structure Told (st : St) (fu : List (Int × Int)) (Bl : List Cell) (a b : Cell) : Prop where
  f : SInv (uniP fu false st a b).2 fu Bl
  s : SInv (uniP fu true st a b).2 fu Bl
  gf : ∀ c, GC st Bl c → GC (uniP fu false st a b).2 Bl c
  gs : ∀ c, GC st Bl c → GC (uniP fu true st a b).2 Bl c
  yes : (uniP fu true st a b).1 = true → uniP fu false st a b = uniP fu true st a b ∧ ∃ rk, AcycBy (uniP fu true st a b).2 fu Bl rk
  no : (uniP fu true st a b).1 = false → (uniP fu false st a b).1 = true → FinP (uniP fu false st a b).2 fu Bl a → FinP (uniP fu false st a b).2 fu Bl b → False
theorem told (I : SInv st fu Bl) (hl : st.H.length < 60) (ga : GC st Bl a) (gb : GC st Bl b) (ac : ∃ rk, AcycBy st fu Bl rk) : Told st fu Bl a b := by
  have i0 : UniInv st fu [(a, b)] [] := ⟨I.F, fun p h => by simp at h; subst h; exact ⟨I.U.cell ga, I.U.cell gb⟩, by simp, fun p h => by simp at h⟩
  have g0 : ∀ p ∈ [(a, b)], GC st Bl p.1 ∧ GC st Bl p.2 := fun p h => by rw [List.mem_singleton.mp h]; exact ⟨ga, gb⟩
  obtain ⟨⟨f1, f2⟩, ef⟩ := uni_total (occ := false) 369999 st [(a, b)] [] hl (by simp) i0
  obtain ⟨⟨s1, s2⟩, es⟩ := uni_total (occ := true) 369999 st [(a, b)] [] hl (by simp) i0
  have pf : uniP fu false st a b = (f1, f2) := by unfold uniP; rw [ef]; rfl
  have ps : uniP fu true st a b = (s1, s2) := by unfold uniP; rw [es]; rfl
  obtain ⟨If, Gf⟩ := uni_main _ st _ _ _ _ _ I g0 ef
  obtain ⟨Is, Gs⟩ := uni_main _ st _ _ _ _ _ I g0 es
  refine ⟨by rw [pf]; exact If, by rw [ps]; exact Is, by rw [pf]; exact Gf.gc, by rw [ps]; exact Gs.gc, fun h => ?_, fun h hf fa fb => ?_⟩
  · rw [ps] at h
    cases (show s1 = true from h)
    obtain ⟨e, k⟩ := uni_strict _ st _ _ _ hl I g0 es
    rw [ef] at e
    cases e
    exact ⟨pf.trans ps.symm, by rw [ps]; exact k ac⟩
  · rw [ps] at h
    cases (show s1 = false from h)
    rw [pf] at hf fa fb
    cases (show f1 = true from hf)
    obtain ⟨S, rk, C, ka, kb⟩ := fin_merge If fa fb
    have := uni_free C _ st _ _ I g0 (fun p h => by rw [List.mem_singleton.mp h]; exact ⟨ka, kb⟩) ef
    rw [es] at this
    cases this
end

end Mine
end

/-! D28 -/
noncomputable section
set_option maxHeartbeats 200000
open PySem
namespace Mine

/-! what the law makes in a store, plainly -/
noncomputable def sG : PySem.Str := PySem.Str.ofString "g"
noncomputable def sH : PySem.Str := PySem.Str.ofString "h"
noncomputable def sF : PySem.Str := PySem.Str.ofString "f"
noncomputable def bk1 (p : List PySem.Str × List (Int × Int)) : List PySem.Str × List (Int × Int) := (funcP p.1 p.2 sG 1).2
noncomputable def bk2 (p : List PySem.Str × List (Int × Int)) : List PySem.Str × List (Int × Int) := (funcP (bk1 p).1 (bk1 p).2 sH 2).2
noncomputable def bk3 (p : List PySem.Str × List (Int × Int)) : List PySem.Str × List (Int × Int) := (funcP (bk2 p).1 (bk2 p).2 sF 2).2
noncomputable def bk (b : Bool) : List PySem.Str × List (Int × Int) := if b then bk3 (tx0, fu0) else (tx0, fu0)
theorem bk_num (b : Bool) : (funcP (bk b).1 (bk b).2 sG 1).1 = 32 ∧ (funcP (bk1 (bk b)).1 (bk1 (bk b)).2 sH 2).1 = 33 ∧ (funcP (bk2 (bk b)).1 (bk2 (bk b)).2 sF 2).1 = 34 ∧ bk3 (bk b) = bk true := by
  cases b <;> decide +kernel
theorem bk_len (b : Bool) : (bk b).1.length < 100 ∧ (bk b).2.length < 100 ∧ (bk1 (bk b)).1.length < 100 ∧ (bk1 (bk b)).2.length < 100 ∧ (bk2 (bk b)).1.length < 100 ∧ (bk2 (bk b)).2.length < 100 := by
  cases b <;> decide +kernel
noncomputable def fuL : List (Int × Int) := (bk true).2
theorem fu_at : fuL[32]? = some (29, 1) ∧ fuL[33]? = some (30, 2) ∧ fuL[34]? = some (31, 2) ∧ (fuL[0]?).map (·.2) = some 2 := by decide +kernel

section
variable {st st' : St} {fu : List (Int × Int)} {Bl : List Cell} {xs : List Int}
theorem valid_more {H' : List Cell} {c : Cell} (h : Valid st c) : Valid { st with H := st.H ++ H' } c := ⟨fun t => ⟨(h.1 t).1, by have := (h.1 t).2; simp; exact Om273 this⟩, h.2⟩
theorem sound_more {H' : List Cell} {c : Cell} (h : Sound2 st fu c) : Sound2 { st with H := st.H ++ H' } fu c := by
  refine ⟨fun t => ?_, fun t => ?_⟩
  · obtain ⟨a, f, b, n, e, h0, e2, n0, n1, hl⟩ := h.1 t
    exact ⟨a, f, b, n, by rw [List.getElem?_append_left (List.getElem?_eq_some_iff.mp e).1]; exact e, h0, e2, n0, n1, by simp <;> exact Om274 hl⟩
  · obtain ⟨a, b⟩ := h.2 t
    exact ⟨a, by simp <;> exact Om275 b⟩
theorem cell_more {H' : List Cell} {c : Cell} (h : CellOk st fu c) : CellOk { st with H := st.H ++ H' } fu c := ⟨valid_more h.1, sound_more h.2⟩
theorem wf_more (F : WF2 st fu) {H' : List Cell} (h : ∀ (i : Nat) (c : Cell), H'[i]? = some c → CellOk { st with H := st.H ++ H' } fu c ∧ c.1 ≠ 1 ∧ (c.1 = 0 → c.2 ≤ (st.H.length + i : Nat))) : WF2 { st with H := st.H ++ H' } fu := by
  have hh : ∀ (a : Nat) (c : Cell), (st.H ++ H')[a]? = some c → CellOk { st with H := st.H ++ H' } fu c ∧ c.1 ≠ 1 ∧ (c.1 = 0 → c.2 ≤ a) := by
    intro a c e
    by_cases l : a < st.H.length
    · rw [List.getElem?_append_left l] at e
      obtain ⟨a1, a2, a3⟩ := F.wf.heap a c e
      exact ⟨⟨valid_more a1, sound_more (F.hs a c e)⟩, a2, a3⟩
    · rw [List.getElem?_append_right (by exact Om1 l)] at e
      obtain ⟨a1, a2, a3⟩ := h _ c e
      exact ⟨a1, a2, fun t => by have := a3 t; exact Om276 l this⟩
  exact ⟨⟨fun a c e => ⟨(hh a c e).1.1, (hh a c e).2⟩, fun a c e => ⟨valid_more (F.wf.stack a c e).1, (F.wf.stack a c e).2⟩⟩, fun a c e => (hh a c e).1.2, fun a c e => sound_more (F.ss a c e)⟩

theorem plain_cell {t n : Int} (h0 : t ≠ 0) (h1 : t ≠ 1) (h2 : t ≠ 2) (h3 : t ≠ 3) : CellOk st fu (t, n) := ⟨⟨fun z => absurd (show t = 0 from z) h0, fun z => absurd (show t = 1 from z) h1⟩, fun z => absurd (show t = 2 from z) h2, fun z => absurd (show t = 3 from z) h3⟩
theorem heap_cell {a : Int} (h0 : 0 ≤ a) (h1 : a.toNat < st.H.length) : CellOk st fu (0, a) := ⟨⟨fun _ => ⟨h0, h1⟩, fun z => absurd (show (0 : Int) = 1 from z) (by decide)⟩, fun z => absurd (show (0 : Int) = 2 from z) (by decide), fun z => absurd (show (0 : Int) = 3 from z) (by decide)⟩

theorem str_cell {a f b n : Int} (h0 : 0 ≤ a) (e : st.H[a.toNat]? = some (6, f)) (f0 : 0 ≤ f) (e2 : fu[f.toNat]? = some (b, n)) (n0 : 0 ≤ n) (n1 : n < 100) (hl : a.toNat + n.toNat < st.H.length) : CellOk st fu (2, a) := ⟨⟨fun z => absurd (show (2 : Int) = 0 from z) (by decide), fun z => absurd (show (2 : Int) = 1 from z) (by decide)⟩, fun _ => ⟨h0, f, b, n, e, f0, e2, n0, n1, hl⟩, fun z => absurd (show (2 : Int) = 3 from z) (by decide)⟩
set_option tactic.hygienic true in
theorem next_more {X : List Cell} {c : Cell} (hv : Valid st c) : nextC { st with H := st.H ++ X } c = nextC st c := by
  unfold nextC
  split
  · rename_i t; exact List.getElem?_append_left (hv.1 t).2
  · rfl
theorem der_more {X : List Cell} (w : WF st) (w' : WF { st with H := st.H ++ X }) : ∀ (n : Nat) (c : Cell), rank st c < n → Valid st c → der { st with H := st.H ++ X } c = der st c
  | 0, c, h, _ => absurd h (Nat.not_lt_zero _)
  | n + 1, c, h, hv => by
    have hn := next_more (X := X) hv
    cases e : nextC st c with
    | none => rw [e] at hn; rw [der_end' (.inl hn), der_end' (.inl e)]
    | some f =>
      rw [e] at hn
      by_cases q : f = c
      · subst q; rw [der_end' (.inr hn), der_end' (.inr e)]
      · obtain ⟨hf, hlt⟩ := next_rank w hv e
        have := hlt q
        rw [der_next w' (valid_more hv) hn q, der_next w hv e q]
        exact der_more w w' n f (by exact Om66 h this) hf
set_option tactic.hygienic true in
theorem width_more {X : List Cell} {d : Cell} (h : CellOk st fu d) : widthP { st with H := st.H ++ X } fu d = widthP st fu d := by
  unfold widthP
  split
  · rfl
  · split
    · rename_i t
      obtain ⟨a, f, b, n, e, _⟩ := h.2.1 t
      dsimp only
      rw [List.getElem?_append_left (List.getElem?_eq_some_iff.mp e).1]
    · rfl
theorem args_more {X : List Cell} {d : Cell} (h : CellOk st fu d) (hc : compound d = true) : argsP { st with H := st.H ++ X } fu d = argsP st fu d := by
  have := (h.2.fits (compound_iff.mp hc)).1
  unfold argsP
  rw [width_more h]
  dsimp only
  rw [List.drop_append_of_le_length (by exact Om277 this), List.take_append_of_le_length (by rw [List.length_drop]; exact Om278 this)]
theorem gc_more {X : List Cell} {Bl' : List Cell} (hb : ∀ c ∈ Bl, c ∈ Bl') {c : Cell} (g : GC st Bl c) : GC { st with H := st.H ++ X } Bl' c := by
  rcases g with ⟨h, h0, y, e, hy⟩ | h | h | h
  · exact .inl ⟨h, h0, y, by rw [List.getElem?_append_left (List.getElem?_eq_some_iff.mp e).1]; exact e, hy⟩
  · exact .inr (.inl h)
  · exact .inr (.inr (.inl h))
  · exact .inr (.inr (.inr (hb c h)))
theorem gcs_more {X : List Cell} {Bl' : List Cell} (U : Uni st fu Bl) (hb : ∀ c ∈ Bl, c ∈ Bl') (hX : ∀ c ∈ X, c.1 = 6 ∨ GC { st with H := st.H ++ X } Bl' c) : ∀ (a : Nat) (c : Cell), (st.H ++ X)[a]? = some c → c.1 ≠ 6 → GC { st with H := st.H ++ X } Bl' c := fun a c e h6 => by
  by_cases l : a < st.H.length
  · rw [List.getElem?_append_left l] at e
    exact gc_more hb (U.gc a c e h6)
  · rw [List.getElem?_append_right (by exact Om1 l)] at e
    exact (hX c (List.mem_of_getElem? e)).resolve_left h6
/-- compounds point down -/
noncomputable def Down (st : St) (fu : List (Int × Int)) (Bl : List Cell) : Prop := ∀ d ∈ Bl, ∀ y ∈ argsP st fu d, compound (der st y) = true → (der st y).2 < d.2
theorem Down.acyc (I : SInv st fu Bl) (h : Down st fu Bl) : ∃ rk, AcycBy st fu Bl rk := ⟨Int.toNat, fun d hd y hy hc => by
  have h1 := h d hd y hy hc
  have h2 := ((I.U.ok _ (I.U.mem (I.U.der (I.U.arg hd hy)) hc)).2.fits (compound_iff.mp hc)).2.2
  exact Om279 h1 h2⟩
theorem down_old {X : List Cell} (I : SInv st fu Bl) (w' : WF { st with H := st.H ++ X }) {d : Cell} (hd : d ∈ Bl) (h : Down st fu Bl) : ∀ y ∈ argsP { st with H := st.H ++ X } fu d, compound (der { st with H := st.H ++ X } y) = true → (der { st with H := st.H ++ X } y).2 < d.2 := fun y hy hc => by
  rw [args_more (I.U.ok d hd) (I.U.cmp d hd)] at hy
  rw [der_more I.F.wf w' _ y (Nat.lt_succ_self _) (args_ok I.F hy).1] at hc ⊢
  exact h d hd y hy hc
/-- a fresh variable -/
theorem var_more (I : SInv st fu Bl) (h : Down st fu Bl) : SInv { st with H := st.H ++ [(0, (st.H.length : Int))] } fu Bl ∧ Down { st with H := st.H ++ [(0, (st.H.length : Int))] } fu Bl ∧ GC { st with H := st.H ++ [(0, (st.H.length : Int))] } Bl (0, (st.H.length : Int)) := by
  have g : GC { st with H := st.H ++ [(0, (st.H.length : Int))] } Bl (0, (st.H.length : Int)) := .inl ⟨rfl, by show (0 : Int) ≤ st.H.length; exact Om155, (0, (st.H.length : Int)), by simp, show (0 : Int) ≠ 6 by decide⟩
  have F' : WF2 { st with H := st.H ++ [(0, (st.H.length : Int))] } fu := wf_more I.F fun i c e => by
    cases i with
    | zero => cases e; exact ⟨heap_cell (by exact Om155) (by simp), show (0 : Int) ≠ 1 by decide, fun _ => by simp⟩
    | succ i => simp at e
  refine ⟨⟨F', ⟨gcs_more I.U (fun _ h => h) fun c hc => by rw [List.mem_singleton.mp hc]; exact .inr g, fun c hc y hy => ?_, I.U.inj, I.U.cmp, I.U.len, fun c hc => by rw [width_more (I.U.ok c hc)]; exact I.U.wid c hc, fun c hc => cell_more (I.U.ok c hc)⟩, I.S⟩, fun d hd => down_old I F'.wf hd h, g⟩
  rw [args_more (I.U.ok c hc) (I.U.cmp c hc)] at hy
  exact I.U.ag c hc y hy

theorem gc_der_down (I : SInv st fu Bl) {c : Cell} (g : GC st Bl c) : (der st c).1 ≠ 1 ∧ ((der st c).1 = 0 → (der st c).2 < st.H.length) := by
  have hd := (der_cell I.F (I.U.cell g)).1
  exact ⟨no_stack I.S hd, fun t => by have := hd.1 t; exact Om280 this⟩
/-- a fresh structure -/
theorem str_more (I : SInv st fu Bl) (h : Down st fu Bl) (hbl : Bl.length < 8) {k : Int} {a : Int} {args : List Cell} (k0 : 0 ≤ k) (hk : fu[k.toNat]? = some (a, (args.length : Int))) (hz : k = 0 → args.length = 2) (h2 : args.length ≤ 2) (ga : ∀ c ∈ args, GC st Bl c) :
    SInv (newSP st k (args.map (der st))).2 fu (Bl ++ [(newSP st k (args.map (der st))).1]) ∧ Down (newSP st k (args.map (der st))).2 fu (Bl ++ [(newSP st k (args.map (der st))).1]) ∧ (newSP st k (args.map (der st))).1 ∈ Bl ++ [(newSP st k (args.map (der st))).1] := by
  obtain ⟨X, d0, e1, e2, d2, dX, dw, dc, db⟩ : ∃ (X : List Cell) (d0 : Cell), (newSP st k (args.map (der st))).2 = { st with H := st.H ++ X } ∧ (newSP st k (args.map (der st))).1 = d0 ∧ d0.2 = st.H.length ∧
      argsP { st with H := st.H ++ X } fu d0 = args.map (der st) ∧ widthP { st with H := st.H ++ X } fu d0 ≤ 2 ∧ CellOk { st with H := st.H ++ X } fu d0 ∧ compound d0 = true ∧ (∀ c ∈ X, c.1 = 6 ∨ c ∈ args.map (der st)) ∧ X ≠ [] := by
    unfold newSP
    by_cases z : k = 0
    · rw [if_pos z]
      have l2 := hz z
      refine ⟨args.map (der st), (3, (st.H.length : Int)), rfl, rfl, rfl, ?_, Nat.le_of_eq rfl, ⟨⟨fun t => absurd (show (3 : Int) = 0 from t) (by decide), fun t => absurd (show (3 : Int) = 1 from t) (by decide)⟩, fun t => absurd (show (3 : Int) = 2 from t) (by decide), fun _ => ⟨by show (0 : Int) ≤ st.H.length; exact Om155, ?_⟩⟩, rfl, fun c hc => .inr hc, fun z => ?_⟩
      · show ((st.H ++ args.map (der st)).drop ((st.H.length : Int)).toNat).take 2 = _
        rw [Int.toNat_natCast, List.drop_left, List.take_of_length_le (by rw [List.length_map]; exact Om281 h2)]
      · show ((st.H.length : Int)).toNat + 1 < (st.H ++ args.map (der st)).length
        rw [Int.toNat_natCast, List.length_append, List.length_map]; exact Om282 l2
      · have := congrArg List.length z
        rw [List.length_map, l2] at this
        cases this
    · rw [if_neg z]
      have hf : (st.H ++ (6, k) :: args.map (der st))[((st.H.length : Int)).toNat]? = some (6, k) := by simp
      have hw : widthP { st with H := st.H ++ (6, k) :: args.map (der st) } fu (2, (st.H.length : Int)) = args.length := by
        unfold widthP
        rw [if_neg (show ¬ (2 : Int) = 3 by decide), if_pos rfl]
        rw [hf]
        show ((fu[k.toNat]?).map (·.2.toNat)).getD 0 = _
        rw [hk]
        simp
      refine ⟨(6, k) :: args.map (der st), (2, (st.H.length : Int)), rfl, rfl, rfl, ?_, by rw [hw]; exact h2, ?_, rfl, fun c hc => ?_, fun z => nomatch z⟩
      · unfold argsP
        rw [hw]
        show ((st.H ++ (6, k) :: args.map (der st)).drop (((st.H.length : Int)).toNat + 1)).take args.length = _
        rw [Int.toNat_natCast, List.drop_append, List.drop_of_length_le (by exact Om283), show st.H.length + 1 - st.H.length = 1 by exact Om284]
        simp only [List.nil_append, List.drop_succ_cons, List.drop_zero]
        rw [List.take_of_length_le (by rw [List.length_map]; exact Om285)]
      · exact str_cell (by exact Om155) hf k0 hk (by exact Om286 h2 hw) (by exact Om287 h2 hw) (by simp)
      · rcases List.mem_cons.mp hc with rfl | hc
        · exact .inl rfl
        · exact .inr hc
  rw [e1, e2]
  obtain ⟨db', hX, hne⟩ := db
  have low : ∀ c ∈ Bl, c.2 < st.H.length ∧ 0 ≤ c.2 := fun c hc => by
    have := (I.U.ok c hc).2.sound (compound_iff.mp (I.U.cmp c hc))
    exact Om288 this
  have hsub : ∀ c ∈ Bl, c ∈ Bl ++ [d0] := fun c hc => List.mem_append_left _ hc
  have hm : ∀ c ∈ args.map (der st), GC st Bl c ∧ der st c = c := fun c hc => by
    obtain ⟨y, hy, rfl⟩ := List.mem_map.mp hc
    exact ⟨I.U.der (ga y hy), der_der I.F.wf (I.U.cell (ga y hy)).1⟩
  have F' : WF2 { st with H := st.H ++ X } fu := wf_more I.F fun i c e => by
    rcases hX c (List.mem_of_getElem? e) with z | z
    · obtain ⟨t, n⟩ := c
      cases (show t = 6 from z)
      exact ⟨plain_cell (by decide) (by decide) (by decide) (by decide), show (6 : Int) ≠ 1 by decide, fun z => absurd (show (6 : Int) = 0 from z) (by decide)⟩
    · obtain ⟨g, e⟩ := hm c z
      have := gc_der_down I g
      rw [e] at this
      exact ⟨cell_more (I.U.cell g), this.1, fun t => by have := this.2 t; exact Om289 this⟩
  have hd0 : d0 ∈ Bl ++ [d0] := List.mem_append_right _ (.head _)
  refine ⟨⟨F', ⟨gcs_more I.U hsub fun c hc => ?_, fun c hc y hy h6 => ?_, fun c hc d hd e => ?_, fun c hc => ?_, by rw [List.length_append]; simp; exact Om290 hbl, fun c hc => ?_, fun c hc => ?_⟩, I.S⟩, fun d hd => ?_, hd0⟩
  · rcases hX c hc with z | z
    · exact .inl z
    · exact .inr (gc_more hsub (hm c z).1)
  · rcases List.mem_append.mp hc with hc | hc
    · rw [args_more (I.U.ok c hc) (I.U.cmp c hc)] at hy
      exact I.U.ag c hc y hy h6
    · rw [List.mem_singleton.mp hc, dX] at hy
      rcases (hm y hy).1.tag I.U with z | z | z | z
      · exact Om263 h6 z
      · exact Om264 h6 z
      · exact Om265 h6 z
      · have := compound_iff.mp z; exact Om266 h6 this
  · rcases List.mem_append.mp hc with hc | hc <;> rcases List.mem_append.mp hd with hd | hd
    · exact I.U.inj c hc d hd e
    · have := low c hc; rw [List.mem_singleton.mp hd] at e; exact (Om291 d2 e this).elim
    · have := low d hd; rw [List.mem_singleton.mp hc] at e; exact (Om292 d2 e this).elim
    · rw [List.mem_singleton.mp hc, List.mem_singleton.mp hd]
  · rcases List.mem_append.mp hc with hc | hc
    · exact I.U.cmp c hc
    · rw [List.mem_singleton.mp hc]; exact db'
  · rcases List.mem_append.mp hc with hc | hc
    · rw [width_more (I.U.ok c hc)]; exact I.U.wid c hc
    · rw [List.mem_singleton.mp hc]; exact dw
  · rcases List.mem_append.mp hc with hc | hc
    · exact cell_more (I.U.ok c hc)
    · rw [List.mem_singleton.mp hc]; exact dc
  · rcases List.mem_append.mp hd with hd | hd
    · exact down_old I F'.wf hd h
    · rw [List.mem_singleton.mp hd, dX]
      intro y hy hc
      obtain ⟨g, e⟩ := hm y hy
      rw [der_more I.F.wf F'.wf _ y (Nat.lt_succ_self _) (I.U.cell g).1, e] at hc ⊢
      have := low y (I.U.mem g hc)
      exact Om293 d2 this
end

/-! the things that the law makes -/
structure Ts where
  u : Int × Nat
  st : St
  C : List Cell
  b : Bool
noncomputable def cntW (w : Int) : Nat := if w = 0 then 1 else 2
noncomputable def fnW (w : Int) : Int := if w = 0 then 32 else if w = 1 then 33 else if w = 2 then 0 else 34
noncomputable def picksP (xs : List Int) (lim : Int) : (Int × Nat) → Nat → List Int × (Int × Nat)
  | u, 0 => ([], u)
  | u, k + 1 => ((pickP xs u lim).1 :: (picksP xs lim (pickP xs u lim).2 k).1, (picksP xs lim (pickP xs u lim).2 k).2)
noncomputable def wayP (xs : List Int) (number : Nat) (u : Int × Nat) : Int × (Int × Nat) := if number < 2 then (6, u) else pickP xs u 7
noncomputable def strP (xs : List Int) (number : Nat) (t : Ts) (w : Int) (u : Int × Nat) : Ts :=
  let r := picksP xs number u (cntW w)
  let s := newSP t.st (fnW w) ((r.1.map fun p => t.C.getD p.toNat (0, 0)).map (der t.st))
  ⟨r.2, s.2, t.C ++ [s.1], true⟩
noncomputable def thingP (xs : List Int) (number : Nat) (t : Ts) : Ts :=
  let w := wayP xs number t.u
  if w.1 < 4 then strP xs number t w.1 w.2
  else if w.1 = 4 then ⟨w.2, t.st, t.C ++ [(4, 0)], t.b⟩
  else if w.1 = 5 then ⟨(pickP xs w.2 (10 ^ 20)).2, t.st, t.C ++ [(5, (pickP xs w.2 (10 ^ 20)).1)], t.b⟩
  else ⟨w.2, { t.st with H := t.st.H ++ [(0, (t.st.H.length : Int))] }, t.C ++ [(0, (t.st.H.length : Int))], t.b⟩
noncomputable def thingsGo (xs : List Int) : Nat → Nat → Ts → Ts
  | 0, _, t => t
  | k + 1, n, t => thingsGo xs k (n + 1) (thingP xs n t)
structure ThI (t : Ts) (Bl : List Cell) : Prop where
  I : SInv t.st fuL Bl
  g : ∀ c ∈ t.C, GC t.st Bl c
  hl : t.st.H.length ≤ 3 * t.C.length
  bl : Bl.length ≤ t.C.length - 2
  d : Down t.st fuL Bl
  nb : t.b = false → Bl = []
  T : t.st.T = []
  hb : t.st.hb = 0
  bb : t.st.bb = 0
theorem way_range (xs : List Int) (number : Nat) (u : Int × Nat) : 0 ≤ (wayP xs number u).1 ∧ (wayP xs number u).1 < 7 ∧ ((wayP xs number u).1 < 6 → 2 ≤ number) := by
  unfold wayP
  split
  · exact ⟨show (0 : Int) ≤ 6 by decide, show (6 : Int) < 7 by decide, fun h => absurd (show (6 : Int) < 6 from h) (by decide)⟩
  · have := pick_range (xs := xs) (u := u) (k := 7) (by decide)
    exact ⟨this.1, this.2, fun _ => by omega⟩
theorem picks_len (xs : List Int) (lim : Int) : ∀ (k : Nat) (u : Int × Nat), (picksP xs lim u k).1.length = k
  | 0, u => rfl
  | k + 1, u => by unfold picksP; rw [List.length_cons, picks_len xs lim k]
theorem picks_range {xs : List Int} {lim : Int} (h : 0 < lim) : ∀ (k : Nat) (u : Int × Nat), ∀ p ∈ (picksP xs lim u k).1, 0 ≤ p ∧ p < lim
  | 0, u, p, m => nomatch m
  | k + 1, u, p, m => by
    unfold picksP at m
    rcases List.mem_cons.mp m with rfl | m
    · exact pick_range h
    · exact picks_range h k _ p m
theorem fn_at {w : Int} (h : 0 ≤ w) : ∃ a, fuL[(fnW w).toNat]? = some (a, (cntW w : Int)) ∧ 0 ≤ fnW w ∧ (fnW w = 0 → cntW w = 2) := by
  obtain ⟨h1, h2, h3, h4⟩ := fu_at
  unfold fnW cntW
  by_cases z0 : w = 0
  · simp only [z0, if_true]
    exact ⟨_, h1, by decide, fun z => absurd z (by decide)⟩
  · by_cases z1 : w = 1
    · subst z1
      exact ⟨_, h2, by decide, fun _ => rfl⟩
    · by_cases z2 : w = 2
      · subst z2
        obtain ⟨p, e, hp⟩ := Option.map_eq_some_iff.mp h4
        obtain ⟨a, n⟩ := p
        cases (show n = 2 from hp)
        exact ⟨a, e, by decide, fun _ => by simp⟩
      · simp only [z0, z1, z2, if_false]
        exact ⟨_, h3, by decide, fun _ => trivial⟩
set_option tactic.hygienic true in
theorem thing_inv {xs : List Int} {t : Ts} {Bl : List Cell} (h : ThI t Bl) (hn : t.C.length < 8) : ∃ Bl', ThI (thingP xs t.C.length t) Bl' := by
  obtain ⟨w0, w7, w2⟩ := way_range xs t.C.length t.u
  unfold thingP
  dsimp only
  generalize hw : wayP xs t.C.length t.u = w at *
  split
  · rename_i hlt
    have n2 := w2 (by exact Om294 w0 w7 hlt)
    obtain ⟨a, e1, e2, e3⟩ := fn_at w0
    have plen := picks_len xs t.C.length (cntW w.1) w.2
    have al : ((picksP xs t.C.length w.2 (cntW w.1)).1.map fun p => t.C.getD p.toNat (0, 0)).length = cntW w.1 := by rw [List.length_map, plen]
    have c2 : cntW w.1 ≤ 2 := by unfold cntW; split <;> omega
    have ga : ∀ c ∈ (picksP xs t.C.length w.2 (cntW w.1)).1.map fun p => t.C.getD p.toNat (0, 0), GC t.st Bl c := fun c hc => by
      obtain ⟨p, hp, rfl⟩ := List.mem_map.mp hc
      have := picks_range (xs := xs) (lim := t.C.length) (by exact Om295 hn n2) _ _ p hp
      have hlt : p.toNat < t.C.length := by exact Om296 this
      rw [List.getD_eq_getElem?_getD, List.getElem?_eq_getElem hlt]
      exact h.g _ (List.getElem_mem hlt)
    have hbl := h.bl
    obtain ⟨k1, k2, k3⟩ := str_more h.I h.d (by exact Om297 hn n2 hbl) (k := fnW w.1) (a := a) e2 (by rw [al]; exact e1) (by rw [al]; exact e3) (by rw [al]; exact c2) ga
    have eH := newSP_H t.st (fnW w.1) (((picksP xs t.C.length w.2 (cntW w.1)).1.map fun p => t.C.getD p.toNat (0, 0)).map (der t.st))
    have hh : ∃ X, (newSP t.st (fnW w.1) (((picksP xs t.C.length w.2 (cntW w.1)).1.map fun p => t.C.getD p.toNat (0, 0)).map (der t.st))).2 = { t.st with H := t.st.H ++ X } ∧ X.length ≤ 3 := by
      unfold newSP
      split
      · exact ⟨_, rfl, by rw [List.length_map, al]; exact Om298 plen al c2⟩
      · exact ⟨_, rfl, by rw [List.length_cons, List.length_map, al]; exact Om299 plen al c2⟩
    unfold strP
    dsimp only
    refine ⟨_, k1, fun c hc => ?_, ?_, ?_, k2, fun z => (nomatch z), ?_, ?_, ?_⟩
    · rcases List.mem_append.mp hc with hc | hc
      · obtain ⟨X, ex, _⟩ := hh
        rw [ex]
        exact gc_more (fun c hc => List.mem_append_left _ hc) (h.g c hc)
      · rw [List.mem_singleton.mp hc]; exact .inr (.inr (.inr k3))
    · obtain ⟨X, ex, lx⟩ := hh
      rw [ex]
      have := h.hl
      simp only [List.length_append, List.length_cons, List.length_nil]
      exact Om300 lx this
    · simp only [List.length_append, List.length_cons, List.length_nil]; omega
    · obtain ⟨X, ex, _⟩ := hh; rw [ex]; exact h.T
    · obtain ⟨X, ex, _⟩ := hh; rw [ex]; exact h.hb
    · obtain ⟨X, ex, _⟩ := hh; rw [ex]; exact h.bb
  · have app : ∀ {c : Cell}, GC t.st Bl c → ∀ x ∈ t.C ++ [c], GC t.st Bl x := fun gc x hx => by
      rcases List.mem_append.mp hx with hx | hx
      · exact h.g x hx
      · rw [List.mem_singleton.mp hx]; exact gc
    have l1 : ∀ c : Cell, (t.C ++ [c]).length = t.C.length + 1 := fun c => by simp
    have hh := h.hl
    have hb := h.bl
    split
    · exact ⟨Bl, h.I, app (.inr (.inl rfl)), by show t.st.H.length ≤ 3 * (t.C ++ [_]).length; rw [l1]; exact Om301 hh, by show _ ≤ (t.C ++ [_]).length - 2; rw [l1]; exact Om302 hn hb, h.d, h.nb, h.T, h.hb, h.bb⟩
    · split
      · exact ⟨Bl, h.I, app (.inr (.inr (.inl rfl))), by show t.st.H.length ≤ 3 * (t.C ++ [_]).length; rw [l1]; exact Om301 hh, by show _ ≤ (t.C ++ [_]).length - 2; rw [l1]; omega, h.d, h.nb, h.T, h.hb, h.bb⟩
      · obtain ⟨k1, k2, k3⟩ := var_more h.I h.d
        refine ⟨Bl, k1, fun c hc => ?_, ?_, by show _ ≤ (t.C ++ [_]).length - 2; rw [l1]; omega, k2, h.nb, h.T, h.hb, h.bb⟩
        · rcases List.mem_append.mp hc with hc | hc
          · exact gc_more (fun _ h => h) (h.g c hc)
          · rw [List.mem_singleton.mp hc]; exact k3
        · show (t.st.H ++ [_]).length ≤ 3 * (t.C ++ [_]).length
          rw [l1, List.length_append, List.length_singleton]; exact Om303 hh
theorem thing_len (xs : List Int) (n : Nat) (t : Ts) : (thingP xs n t).C.length = t.C.length + 1 := by
  unfold thingP strP
  dsimp only
  split
  · simp
  · split
    · simp
    · split <;> simp

end Mine
end

/-! D29 -/
noncomputable section
set_option maxHeartbeats 200000
open PySem
namespace Mine

noncomputable def thPk : SL := (.cons (.expr (.meth 0 (.loc 8) (.cons (.callF 39 (.cons (.loc 0) (.cons (.loc 6) .nil))) .nil))) .nil)
noncomputable def thF : S := (.assign (.loc 10) (.sub (.list (.cons (.callM 2 (.loc 2) (.cons (.kstr (PySem.Str.ofString "g")) (.cons (.kint 1) .nil))) (.cons (.callM 2 (.loc 2) (.cons (.kstr (PySem.Str.ofString "h")) (.cons (.kint 2) .nil))) (.cons (.glob 8) (.cons (.callM 2 (.loc 2) (.cons (.kstr (PySem.Str.ofString "f")) (.cons (.kint 2) .nil))) .nil))))) (.loc 7)))
noncomputable def thNew : S := (.expr (.meth 0 (.loc 4) (.cons (.callM 19 (.loc 1) (.cons (.loc 10) (.cons (.comp 4 8) .nil))) .nil)))
noncomputable def thStr : SL := (.cons (.for_ (.loc 9) (.blt 1 (.cons (.sub (.list (.cons (.kint 1) (.cons (.kint 2) (.cons (.kint 2) (.cons (.kint 2) .nil))))) (.loc 7)) .nil)) thPk) (.cons thF (.cons thNew .nil)))
noncomputable def thOne : SL := (.cons (.ite (.cmp .eq (.loc 7) (.kint 4)) (.cons (.expr (.meth 0 (.loc 4) (.cons (.tup (.cons (.glob 4) (.cons (.glob 9) .nil))) .nil))) .nil) (.cons (.ite (.cmp .eq (.loc 7) (.kint 5)) (.cons (.expr (.meth 0 (.loc 4) (.cons (.tup (.cons (.glob 5) (.cons (.callF 39 (.cons (.loc 0) (.cons .pow .nil))) .nil))) .nil))) .nil) (.cons (.expr (.meth 0 (.loc 4) (.cons (.callM 6 (.loc 1) .nil) .nil))) .nil)) .nil)) .nil)
noncomputable def thWay : S := (.assign (.loc 7) (.ife (.cmp .lt (.loc 6) (.kint 2)) (.kint 6) (.callF 39 (.cons (.loc 0) (.cons (.kint 7) .nil)))))
noncomputable def thNode : S := (.expr (.meth 0 (.loc 5) (.cons (.list (.cons (.sub (.list (.cons (.kstr (PySem.Str.ofString "g")) (.cons (.kstr (PySem.Str.ofString "h")) (.cons (.kstr (PySem.Str.ofString ".")) (.cons (.kstr (PySem.Str.ofString "f")) (.cons (.kstr (PySem.Str.ofString "[]")) (.cons (.sub (.loc 4) (.neg (.kint 1))) (.cons (.kstr (PySem.Str.ofString "")) .nil)))))))) (.loc 7)) (.cons (.loc 8) .nil))) .nil)))
noncomputable def thIte : S := (.ite (.cmp .lt (.loc 7) (.kint 4)) thStr thOne)
noncomputable def thBody : SL := (.cons thWay (.cons (.assign (.loc 8) (.list .nil)) (.cons thIte (.cons thNode .nil))))

section
variable {m : Nat} {σ σ' : AH} {so : Nat} {r : Rc} {st st' : St} {q : Rs} {tx tx' : List PySem.Str} {fu fu' : List (Int × Int)}
variable {jo lo co no : Nat} {xs : List Int} {u u' : Int × Nat} {C : List Cell} {ns : List V}

theorem SyView.obj {sy : Nat} (y : SyView σ sy q tx fu) : ∀ j ∈ syL q, ∃ o, σ[j]? = some o ∧ (∀ c d, o ≠ .inst c d) ∧ ∀ fs, o ≠ .ns fs :=
  List.forall_mem_cons.mpr ⟨⟨_, y.ltx, nofun, nofun⟩, List.forall_mem_cons.mpr ⟨⟨_, y.an, nofun, nofun⟩, List.forall_mem_cons.mpr ⟨⟨_, y.lfu, nofun, nofun⟩, List.forall_mem_singleton.mpr ⟨_, y.fn, nofun, nofun⟩⟩⟩⟩
theorem Wd.nsy (W : Wd σ so r st q tx fu) : ∀ i ∈ [so, r.d, r.h, r.s, r.t], i ∉ syL q := List.forall_mem_cons.mpr ⟨fun hm => by
    obtain ⟨o, e, n, _⟩ := W.y.obj _ hm
    exact n _ _ (Option.some.inj (e.symm.trans W.v.inst)), List.forall_mem_cons.mpr ⟨fun hm => by
    obtain ⟨o, e, _, n⟩ := W.y.obj _ hm
    exact n _ (Option.some.inj (e.symm.trans W.v.ns)), fun i hi hm => W.off i hi (List.mem_append_right [r.sy, q.d] hm)⟩⟩
/-- another store works on, over the same book -/
theorem Wd.other (W : Wd σ so r st q tx fu) {X : List Nat} (s : Stay X σ σ') (h : ∀ i ∈ [so, r.d, r.h, r.s, r.t], i ∉ X) (y : SyView σ' r.sy q tx' fu') : Wd σ' so r st q tx' fu' :=
  ⟨W.v.same s (h _ (.head _)) (h _ (.tail _ (.head _))) (h _ (.tail _ (.tail _ (.head _)))) (h _ (.tail _ (.tail _ (.tail _ (.head _))))) (h _ (.tail _ (.tail _ (.tail _ (.tail _ (.head _)))))), y, W.dj⟩
theorem sy_kept {i : Nat} (h : i ∈ syL q) : i ∈ keptL so r q := List.mem_append_right [so, r.d, r.h, r.s, r.t, r.sy, q.d] h
theorem Wd.func (W : Wd σ so r st q tx fu) (y : SyView σ' r.sy q tx' fu') (s : Stay (syL q) σ σ') : Wd σ' so r st q tx' fu' := W.other s W.nsy y

structure ThA (so : Nat) (r : Rc) (q : Rs) (jo lo co no : Nat) : Prop where
  off : ∀ i ∈ [jo, lo, co, no], i ∉ keptL so r q
  jc : jo ≠ co
  jn : jo ≠ no
  lc : lo ≠ co
  ln : lo ≠ no
  cn : co ≠ no
  c0 : co ≠ 0
  n0 : no ≠ 0
structure ThO (σ : AH) (so : Nat) (r : Rc) (q : Rs) (jo lo co no : Nat) (xs : List Int) (u : Int × Nat) (st : St) (tx : List PySem.Str) (fu : List (Int × Int)) (C : List Cell) (ns : List V) : Prop where
  W : Wd σ so r st q tx fu
  j : UrnV σ jo lo xs u
  c : σ[co]? = some (.list (C.map cV))
  n : σ[no]? = some (.list ns)
theorem ThO.app (O : ThO σ so r q jo lo co no xs u st tx fu C ns) (l : AH) : ThO (σ ++ l) so r q jo lo co no xs u st tx fu C ns :=
  ⟨O.W.nil (.app l), O.j.same (X := []) (.app l) nofun nofun, app_get O.c, app_get O.n⟩
theorem ThO.stay (O : ThO σ so r q jo lo co no xs u st tx fu C ns) {X : List Nat} (s : Stay X σ σ') (h1 : ∀ i ∈ X, i ∉ keptL so r q) (h2 : ∀ i ∈ [jo, lo, co, no], i ∉ X) : ThO σ' so r q jo lo co no xs u st tx fu C ns :=
  ⟨O.W.same s h1, O.j.same s (h2 _ (.head _)) (h2 _ (.tail _ (.head _))), s.get _ _ (h2 _ (.tail _ (.tail _ (.head _)))) O.c, s.get _ _ (h2 _ (.tail _ (.tail _ (.tail _ (.head _))))) O.n⟩
theorem ThO.urn (A : ThA so r q jo lo co no) (O : ThO σ so r q jo lo co no xs u st tx fu C ns) (j : UrnV σ' jo lo xs u') (s : Stay [jo] σ σ') : ThO σ' so r q jo lo co no xs u' st tx fu C ns :=
  ⟨O.W.same s (on1 (A.off _ (.head _))), j, s.get _ _ (no1 (Ne.symm A.jc)) O.c, s.get _ _ (no1 (Ne.symm A.jn)) O.n⟩
theorem ThO.cput (A : ThA so r q jo lo co no) (O : ThO σ so r q jo lo co no xs u st tx fu C ns) (C' : List Cell) : ThO (σ.set co (.list (C'.map cV))) so r q jo lo co no xs u st tx fu C' ns :=
  ⟨O.W.same (X := [co]) (.set (.head _)) (on1 (A.off _ (.tail _ (.tail _ (.head _))))), O.j.same (X := [co]) (.set (.head _)) (no1 A.jc) (no1 A.lc), get_hit O.c, get_set O.n A.cn⟩
theorem ThO.nput (A : ThA so r q jo lo co no) (O : ThO σ so r q jo lo co no xs u st tx fu C ns) (ns' : List V) : ThO (σ.set no (.list ns')) so r q jo lo co no xs u st tx fu C ns' :=
  ⟨O.W.same (X := [no]) (.set (.head _)) (on1 (A.off _ (.tail _ (.tail _ (.tail _ (.head _)))))), O.j.same (X := [no]) (.set (.head _)) (no1 A.jn) (no1 A.ln), get_set O.c (Ne.symm A.cn), get_hit O.n⟩
theorem ThO.sto (A : ThA so r q jo lo co no) (O : ThO σ so r q jo lo co no xs u st tx fu C ns) (W' : Wd σ' so r st' q tx fu) (s : Stay [r.h] σ σ') : ThO σ' so r q jo lo co no xs u st' tx fu C ns := by
  have h : ∀ i ∈ [jo, lo, co, no], i ∉ [r.h] := fun i hi hm => A.off i hi (List.mem_singleton.mp hm ▸ .tail _ (.tail _ (.head _)))
  exact ⟨W', O.j.same s (h _ (.head _)) (h _ (.tail _ (.head _))), s.get _ _ (h _ (.tail _ (.tail _ (.head _)))) O.c, s.get _ _ (h _ (.tail _ (.tail _ (.tail _ (.head _))))) O.n⟩
theorem ThO.bok (A : ThA so r q jo lo co no) (O : ThO σ so r q jo lo co no xs u st tx fu C ns) (y : SyView σ' r.sy q tx' fu') (s : Stay (syL q) σ σ') : ThO σ' so r q jo lo co no xs u st tx' fu' C ns := by
  have h : ∀ i ∈ [jo, lo, co, no], i ∉ syL q := fun i hi hm => A.off i hi (sy_kept hm)
  exact ⟨O.W.func y s, O.j.same s (h _ (.head _)) (h _ (.tail _ (.head _))), s.get _ _ (h _ (.tail _ (.tail _ (.head _)))) O.c, s.get _ _ (h _ (.tail _ (.tail _ (.tail _ (.head _))))) O.n⟩

/-- what an iteration may turn -/
noncomputable abbrev thX (r : Rc) (q : Rs) (jo co no : Nat) : List Nat := jo :: co :: no :: r.h :: syL q

theorem th_way (A : ThA so r q jo lo co no) (O : ThO σ so r q jo lo co no xs u st tx fu C ns) {ρ : En} {number : Nat} (r0 : ρ 0 = some (.obj jo)) (r6 : ρ 6 = some (.int number)) {ss : SL} {Q : Fl → En → AH → Prop}
    (h : ∀ σ', ThO σ' so r q jo lo co no xs (wayP xs number u).2 st tx fu C ns → Stay [jo] σ σ' → wSL P2 (callX P2 fns2 (m + 1)) ss (ρ.put 7 (.int (wayP xs number u).1)) σ' Q) : wSL P2 (callX P2 fns2 (m + 1)) (.cons thWay ss) ρ σ Q := by
  unfold wayP at h
  by_cases z : number < 2
  · rw [if_pos z] at h
    exact s_loc (.ifT (.cmp (.loc r6) .kint (congrArg some (decide_eq_true (Int.ofNat_lt.mpr z)))) .kint) (h σ O (.refl _ _))
  · rw [if_neg z] at h
    exact c_loc (x_ifF (.cmp (.loc r6) .kint (congrArg some (decide_eq_false fun l => z (Int.ofNat_lt.mp l)))) (x_F (.cons (.loc r0) (.one .kint)) (pick_ok O.j (by decide) (by decide) fun σ' j s l => h σ' (O.urn A j s) s)))

theorem picks_loop {cf : Cf} (hcf : cf = callX P2 fns2 (m + 1)) (A : ThA so r q jo lo co no) {po : Nat} {number : Nat} (hn : 0 < number) (hn2 : number < 1000) (hpk : po ∉ keptL so r q) (hp : ∀ i ∈ [jo, lo, co, no], i ≠ po) (p0 : po ≠ 0) {all : List V} : ∀ (k : Nat) (j : Int) (u : Int × Nat) (done : List Int) (σ : AH) (ρ : En) (Q : Fl → En → AH → Prop),
    ThO σ so r q jo lo co no xs u st tx fu C ns → σ[po]? = some (.list (done.map .int)) → done.length + k < 1000 → ρ 0 = some (.obj jo) → ρ 6 = some (.int number) → ρ 8 = some (.obj po) →
    (∀ σ' ρ', ThO σ' so r q jo lo co no xs (picksP xs number u k).2 st tx fu C ns → σ'[po]? = some (.list ((done ++ (picksP xs number u k).1).map .int)) → Stay [jo, po] σ σ' → (∀ i, i ≠ 9 → ρ' i = ρ i) → Q .next ρ' σ') →
    forGo all .range (wT P2 cf (.loc 9)) (wSL P2 cf thPk) (upFrom j 1 k) ρ σ Q
  | 0, j, u, done, σ, ρ, Q, O, e, hl, r0, r6, r8, h => f_end (h σ ρ O (e.trans (congrArg (fun l : List Int => some (AObj.list (l.map .int))) (List.append_nil done).symm)) (.refl _ _) fun _ _ => rfl)
  | k + 1, j, u, done, σ, ρ, Q, O, e, hl, r0, r6, r8, h => by
    rw [upFrom_up]
    subst hcf
    refine f_go (c_meth (.loc r8) (list_mok e).1 (x_F (.cons (.loc r0) (.one (.loc r6))) (pick_ok O.j (by exact Om304 hn hn2) (by omega) fun σ₁ j₁ s₁ l₁ => ?_)))
    have e1 := s₁.get _ _ (no1 (Ne.symm (hp jo (.head _)))) e
    have p := list_app (u := .int (pickP xs u number).1) e1 p0 (by rw [List.length_map]; exact Om180 hl)
    have O1 := O.urn A j₁ s₁
    rw [map_snoc] at p
    have s2 : Stay [po] σ₁ (σ₁.set po (.list ((done ++ [(pickP xs u number).1]).map .int))) := .set (.head _)
    have O2 := O1.stay s2 (on1 hpk) fun i hi => no1 (hp i hi)
    refine mc_ok p (picks_loop rfl A hn hn2 hpk hp p0 k (j + 1) _ (done ++ [(pickP xs u number).1]) _ _ Q O2 (get_hit e1) (by rw [List.length_append, List.length_singleton]; exact Om181 hl) r0 r6 r8 fun σ' ρ' a b s e' => ?_)
    refine h σ' ρ' a ?_ (((s₁.weak fun i hi => List.mem_append_left [po] hi).trans (s2.weak fun i hi => .tail _ hi)).trans s) fun i hi => (e' i hi).trans (if_neg hi)
    rw [b, List.append_assoc]; rfl
end

end Mine
end

/-! D30 -/
noncomputable section
set_option maxHeartbeats 200000
open PySem
namespace Mine

section
variable {m : Nat} {σ σ' : AH} {so : Nat} {r : Rc} {st st' : St} {q : Rs} {Bl : List Cell}
variable {jo lo co no : Nat} {xs : List Int} {u u' : Int × Nat} {C : List Cell} {ns : List V}

theorem four_of {w : Int} (h0 : 0 ≤ w) (h4 : w < 4) : w = 0 ∨ w = 1 ∨ w = 2 ∨ w = 3 := by exact Om305 h0 h4
theorem cnt_item (σ : AH) {w : Int} (h0 : 0 ≤ w) (h4 : w < 4) : itemAt (σ ++ [.list [.int 1, .int 2, .int 2, .int 2]]) (.obj σ.length) (.int w) = some (.int (cntW w : Nat)) := by
  refine list_item snoc_get h0 (by simp) ?_
  rcases four_of h0 h4 with h | h | h | h <;> subst h <;> rfl
theorem fn_item (σ : AH) {w : Int} (h0 : 0 ≤ w) (h4 : w < 4) : itemAt (σ ++ [.list [.int 32, .int 33, .int 0, .int 34]]) (.obj σ.length) (.int w) = some (.int (fnW w)) := by
  refine list_item snoc_get h0 (by simp) ?_
  rcases four_of h0 h4 with h | h | h | h <;> subst h <;> rfl
theorem pick_list (C : List Cell) (hC : C.length < 1000) : ∀ ps : List Int, (∀ p ∈ ps, 0 ≤ p ∧ p < C.length) → pickV (C.map cV) (ps.map .int) = some ((ps.map fun p => C.getD p.toNat (0, 0)).map cV)
  | [], _ => rfl
  | p :: ps, h => by
    obtain ⟨h0, h1⟩ := h p (.head _)
    have ih := pick_list C hC ps fun y hy => h y (.tail _ hy)
    have hlt : p.toNat < C.length := by exact Om306 h0 h1
    have hi : ((idx p (C.map cV).length).bind fun j => (C.map cV)[j]?) = some (cV (C.getD p.toNat (0, 0))) := by
      unfold idx
      rw [List.length_map, if_pos ⟨h0, h1, by exact Om77 hC⟩, Option.bind_some, List.getElem?_map, List.getElem?_eq_getElem hlt, List.getD_eq_getElem?_getD, List.getElem?_eq_getElem hlt]
      rfl
    show (match (idx p (C.map cV).length).bind fun j => (C.map cV)[j]? with
      | some u => (pickV (C.map cV) (ps.map .int)).map (u :: ·)
      | none => none) = _
    rw [hi]
    dsimp only
    rw [ih]
    rfl

theorem list_at {o : Nat} {xs : List V} (e : σ[o]? = some (.list xs)) : listAt σ (.obj o) = some xs := by simp only [listAt, e]
theorem th_fn {b : Bool} (A : ThA so r q jo lo co no) (O : ThO σ so r q jo lo co no xs u st (bk b).1 (bk b).2 C ns) {ρ : En} {w : Int} (h0 : 0 ≤ w) (h4 : w < 4) (r2 : ρ 2 = some (.obj r.sy)) (r7 : ρ 7 = some (.int w)) {ss : SL} {Q : Fl → En → AH → Prop}
    (h : ∀ σ', ThO σ' so r q jo lo co no xs u st (bk true).1 (bk true).2 C ns → Stay (syL q) σ σ' → wSL P2 (callX P2 fns2 (m + 2)) ss (ρ.put 10 (.int (fnW w))) σ' Q) : wSL P2 (callX P2 fns2 (m + 2)) (.cons thF ss) ρ σ Q := by
  obtain ⟨n1, n2, n3, n4⟩ := bk_num b
  obtain ⟨l1, l2, l3, l4, l5, l6⟩ := bk_len b
  have e1 : (((funcP (bk b).1 (bk b).2 sG 1).1 : Nat) : Int) = 32 := by rw [n1]; rfl
  have e2 : (((funcP (bk1 (bk b)).1 (bk1 (bk b)).2 sH 2).1 : Nat) : Int) = 33 := by rw [n2]; rfl
  have e3 : (((funcP (bk2 (bk b)).1 (bk2 (bk b)).2 sF 2).1 : Nat) : Int) = 34 := by rw [n3]; rfl
  refine c_loc (x_sub (x_list (l_call (x_M (.loc r2) O.W.y.cl ms2 (.cons .kstr (.one .kint)) (func_ok (t := sG) O.W.y (by exact Om307 l1) (by exact Om307 l2) fun σ₁ y₁ s₁ k₁ => ?_)))))
  rw [e1]
  have y₁ : SyView σ₁ r.sy q (bk1 (bk b)).1 (bk1 (bk b)).2 := y₁
  refine l_call (x_M (.loc r2) y₁.cl ms2 (.cons .kstr (.one .kint)) (func_ok (t := sH) y₁ (by exact Om307 l3) (by exact Om307 l4) fun σ₂ y₂ s₂ k₂ => ?_))
  rw [e2]
  have y₂ : SyView σ₂ r.sy q (bk2 (bk b)).1 (bk2 (bk b)).2 := y₂
  refine l_cons (.glob g8) (l_one (x_M (.loc r2) y₂.cl ms2 (.cons .kstr (.one .kint)) (func_ok (t := sF) y₂ (by exact Om307 l5) (by exact Om307 l6) fun σ₃ y₃ s₃ k₃ => ?_)))
  rw [e3]
  have y₃ : SyView σ₃ r.sy q (bk3 (bk b)).1 (bk3 (bk b)).2 := y₃
  rw [n4] at y₃
  have s : Stay (syL q) σ σ₃ := (s₁.trans s₂).trans s₃
  exact e_ev (.loc r7) (is_ok (fn_item σ₃ h0 h4) (h _ ((O.bok A y₃ s).app _) (s.trans (.app _))))

theorem th_new (A : ThA so r q jo lo co no) {tx : List PySem.Str} (O : ThO σ so r q jo lo co no xs u st tx fuL C ns) (I : SInv st fuL Bl) (g : ∀ c ∈ C, GC st Bl c) (hC : C.length < 8) (hl : st.H.length < 50) {ρ : En} {w : Int} (h0 : 0 ≤ w) {ps : List Int} {po : Nat} (e : σ[po]? = some (.list (ps.map .int))) (hp : ∀ p ∈ ps, 0 ≤ p ∧ p < C.length) (hps : ps.length = cntW w)
    (r1 : ρ 1 = some (.obj so)) (r4 : ρ 4 = some (.obj co)) (r8 : ρ 8 = some (.obj po)) (r10 : ρ 10 = some (.int (fnW w))) {ss : SL} {Q : Fl → En → AH → Prop}
    (h : ∀ σ', ThO σ' so r q jo lo co no xs u (newSP st (fnW w) ((ps.map fun p => C.getD p.toNat (0, 0)).map (der st))).2 tx fuL (C ++ [(newSP st (fnW w) ((ps.map fun p => C.getD p.toNat (0, 0)).map (der st))).1]) ns → Stay [co, r.h] σ σ' → wSL P2 (callX P2 fns2 (m + 3)) ss ρ σ' Q) : wSL P2 (callX P2 fns2 (m + 3)) (.cons thNew ss) ρ σ Q := by
  obtain ⟨a, f1, f2, f3⟩ := fn_at h0
  have c2 : 0 < cntW w ∧ cntW w ≤ 2 := by unfold cntW; split <;> omega
  have al : (ps.map fun p => C.getD p.toNat (0, 0)).length = cntW w := by rw [List.length_map, hps]
  have hlt : ∀ c ∈ ps.map fun p => C.getD p.toNat (0, 0), Valid st c := fun c hc => by
    obtain ⟨p, hpm, rfl⟩ := List.mem_map.mp hc
    have := hp p hpm
    have hlt : p.toNat < C.length := by exact Om296 this
    rw [List.getD_eq_getElem?_getD, List.getElem?_eq_getElem hlt]
    exact (I.U.cell (g _ (List.getElem_mem hlt))).1
  have k3 := pick_list C (by exact Om308 hC) ps hp
  generalize (ps.map fun p => C.getD p.toNat (0, 0)) = args at al hlt k3 h
  have O1 := O.app [.list (args.map cV)]
  refine c_meth (.loc r4) (list_mok O.c).1 (x_M (.loc r1) O.W.v.cl me19 (.cons (.loc r10) (.one (.comp r4 r8 (list_at O.c) (list_at e) k3 (by rw [List.length_map]; exact Om309 hps c2 al)))) (newstruct_ok (ao := σ.length) O1.W I.F.wf I.S snoc_get (above_kept O.W (Nat.le_refl _)) hlt f2 f1 (by rw [al]) (by rw [al]; exact f3) (fun z => by rw [z] at al; exact absurd c2.1 (by rw [← al]; exact Nat.lt_irrefl 0)) (by rw [al]; exact Om310 hl c2 al) (by rw [List.length_append]; exact Nat.succ_pos _) fun σ₂ W2 s2 => ?_))
  have O2 := O1.sto A W2 s2
  have p := list_app (u := cV (newSP st (fnW w) (args.map (der st))).1) O2.c A.c0 (by rw [List.length_map]; exact Om311 hC)
  rw [map_snoc] at p
  exact mc_ok p (h _ (O2.cput A _) (((Stay.app _).trans (s2.weak fun i hi => .tail _ hi)).trans (.set (.head _))))

theorem th_str {b : Bool} (A : ThA so r q jo lo co no) (O : ThO σ so r q jo lo co no xs u st (bk b).1 (bk b).2 C ns) (I : SInv st fuL Bl) (g : ∀ c ∈ C, GC st Bl c) (hC : C.length < 8) (h2 : 2 ≤ C.length) (hl : st.H.length < 50) {ρ : En} {w : Int} (h0 : 0 ≤ w) (h4 : w < 4) {po : Nat} (e : σ[po]? = some (.list []))
    (hpk : po ∉ keptL so r q) (hp : ∀ i ∈ [jo, lo, co, no], i ≠ po) (p0 : po ≠ 0)
    (r0 : ρ 0 = some (.obj jo)) (r1 : ρ 1 = some (.obj so)) (r2 : ρ 2 = some (.obj r.sy)) (r4 : ρ 4 = some (.obj co)) (r6 : ρ 6 = some (.int C.length)) (r7 : ρ 7 = some (.int w)) (r8 : ρ 8 = some (.obj po)) {Q : Fl → En → AH → Prop} (t : Ts) (ht : t.st = st ∧ t.C = C)
    (h : ∀ σ' ρ', ThO σ' so r q jo lo co no xs (strP xs C.length t w u).u (strP xs C.length t w u).st (bk true).1 (bk true).2 (strP xs C.length t w u).C ns → Stay (po :: thX r q jo co no) σ σ' → (∀ i, i ≠ 9 → i ≠ 10 → ρ' i = ρ i) → Q .next ρ' σ') : wSL P2 (callX P2 fns2 (m + 3)) thStr ρ σ Q := by
  obtain ⟨t1, t2⟩ := ht
  subst t1; subst t2
  have c2 : 0 < cntW w ∧ cntW w ≤ 2 := by unfold cntW; split <;> omega
  refine s_range (l_ev (.one (.sub (.list (.cons .kint (.cons .kint (.cons .kint (.one .kint))))) (.loc r7) (cnt_item σ h0 h4))) (rg_ok (range1 (by exact Om312 c2)) (picks_loop (m := m + 2) rfl A (number := t.C.length) (by exact Om313 hC h2) (by exact Om314 hC h2) hpk hp p0 (cntW w) 0 u [] _ _ _ (O.app _) (app_get e) (by rw [List.length_nil]; exact Om315 c2) r0 r6 r8 fun σ₁ ρ₁ O1 e2 s1 er => ?_)))
  refine th_fn (m := m + 1) A O1 h0 h4 ((er 2 (by decide)).trans r2) ((er 7 (by decide)).trans r7) fun σ₂ O2 s2 => ?_
  have e3 := s2.get _ _ (fun hm => hpk (sy_kept hm)) e2
  refine th_new (ρ := ρ₁.put 10 (.int (fnW w))) A O2 I g hC hl h0 e3 (fun p hm => picks_range (by exact Om295 hC h2) _ _ p hm) (picks_len _ _ _ _) ((er 1 (by decide)).trans r1) ((er 4 (by decide)).trans r4) ((er 8 (by decide)).trans r8) rfl fun σ₃ O3 s3 => ?_
  have k1 : Stay (po :: thX r q jo co no) σ σ₁ := ((Stay.app _).trans s1).weak (List.forall_mem_cons.mpr ⟨.tail _ (.head _), List.forall_mem_singleton.mpr (.head _)⟩)
  have k2 : Stay (po :: thX r q jo co no) σ₁ σ₂ := s2.weak fun i hi => .tail _ (.tail _ (.tail _ (.tail _ (.tail _ hi))))
  have k3 : Stay (po :: thX r q jo co no) σ₂ σ₃ := s3.weak (List.forall_mem_cons.mpr ⟨.tail _ (.tail _ (.head _)), List.forall_mem_singleton.mpr (.tail _ (.tail _ (.tail _ (.tail _ (.head _)))))⟩)
  exact h σ₃ _ O3 ((k1.trans k2).trans k3) fun i h9 h10 => (if_neg h10).trans (er i h9)
end

end Mine
end

/-! D31 -/
noncomputable section
set_option maxHeartbeats 200000
open PySem
namespace Mine

section
variable {m : Nat} {σ σ' : AH} {so : Nat} {r : Rc} {st st' : St} {q : Rs} {Bl : List Cell} {tx : List PySem.Str} {fu : List (Int × Int)}
variable {jo lo co no : Nat} {xs : List Int} {u u' : Int × Nat} {C : List Cell} {ns : List V}

noncomputable def oneP (xs : List Int) (t : Ts) (w : Int) (u : Int × Nat) : Ts :=
  if w = 4 then ⟨u, t.st, t.C ++ [(4, 0)], t.b⟩
  else if w = 5 then ⟨(pickP xs u (10 ^ 20)).2, t.st, t.C ++ [(5, (pickP xs u (10 ^ 20)).1)], t.b⟩
  else ⟨u, { t.st with H := t.st.H ++ [(0, (t.st.H.length : Int))] }, t.C ++ [(0, (t.st.H.length : Int))], t.b⟩
theorem big20 : (0 : Int) < 10 ^ 20 ∧ (10 : Int) ^ 20 < 2 ^ 100 := by decide +kernel

theorem th_one {t : Ts} (A : ThA so r q jo lo co no) (O : ThO σ so r q jo lo co no xs u t.st tx fu t.C ns) (hC : t.C.length < 8) (hl : t.st.H.length < 50) {ρ : En} {w : Int}
    (r0 : ρ 0 = some (.obj jo)) (r1 : ρ 1 = some (.obj so)) (r4 : ρ 4 = some (.obj co)) (r7 : ρ 7 = some (.int w)) {Q : Fl → En → AH → Prop}
    (h : ∀ σ', ThO σ' so r q jo lo co no xs (oneP xs t w u).u (oneP xs t w u).st tx fu (oneP xs t w u).C ns → Stay (thX r q jo co no) σ σ' → Q .next ρ σ') : wSL P2 (callX P2 fns2 (m + 3)) thOne ρ σ Q := by
  have put : ∀ {σ₁ : AH} {u₁ : Int × Nat} {st₁ : St} (c : Cell), ThO σ₁ so r q jo lo co no xs u₁ st₁ tx fu t.C ns → methV σ₁ 0 (.obj co) [cV c] = some (.none, σ₁.set co (.list ((t.C ++ [c]).map cV))) := fun c O1 => by
    rw [list_app O1.c A.c0 (by rw [List.length_map]; exact Om311 hC), map_snoc]
  have hco : co ∈ thX r q jo co no := .tail _ (.head _)
  refine s_if (.cmp (.loc r7) .kint cmp_int) (fun e4 => ?_) fun e4 => s_if (.cmp (.loc r7) .kint cmp_int) (fun e5 => ?_) fun e5 => ?_
  · rw [show oneP xs t w u = _ from if_pos e4] at h
    exact s_expr (.meth (.loc r4) (list_mok O.c).1 (.one (.tup (.cons (.glob g4) (.one (.glob g9))))) (put (4, 0) O)) (h _ (O.cput A (t.C ++ [(4, 0)])) (.set hco))
  · rw [show oneP xs t w u = _ from (if_neg e4).trans (if_pos e5)] at h
    exact c_meth (.loc r4) (list_mok O.c).1 (x_tup (l_cons (.glob g5) (l_one (x_F (.cons (.loc r0) (.one .pow)) (pick_ok O.j big20.1 big20.2 fun σ₁ j₁ s₁ l₁ => mc_ok (put (5, _) (O.urn A j₁ s₁)) (h _ ((O.urn A j₁ s₁).cput A _) ((s₁.weak fun i hi => List.mem_append_left _ hi).trans (.set hco))))))))
  · rw [show oneP xs t w u = _ from (if_neg e4).trans (if_neg e5)] at h
    exact c_meth (.loc r4) (list_mok O.c).1 (x_M (.loc r1) O.W.v.cl me6 .nil (newvar_ok O.W.v (by exact Om316 hl) fun σ₁ v₁ s₁ l₁ => mc_ok (put (0, _) (O.sto A (O.W.turn v₁ (s₁.weak fun i hi => List.mem_append_left [r.s, r.t] hi)) s₁)) (h _ ((O.sto A (O.W.turn v₁ (s₁.weak fun i hi => List.mem_append_left [r.s, r.t] hi)) s₁).cput A _) ((s₁.weak (on1' (P := (· ∈ thX r q jo co no)) (.tail _ (.tail _ (.tail _ (.head _)))))).trans (.set hco)))))

theorem node_item (σ : AH) (v : V) {w : Int} (h0 : 0 ≤ w) (h7 : w < 7) : ∃ u, itemAt (σ ++ [.list [.str (PySem.Str.ofString "g"), .str (PySem.Str.ofString "h"), .str (PySem.Str.ofString "."), .str (PySem.Str.ofString "f"), .str (PySem.Str.ofString "[]"), v, .str (PySem.Str.ofString "")]]) (.obj σ.length) (.int w) = some u := by
  have h : w = 0 ∨ w = 1 ∨ w = 2 ∨ w = 3 ∨ w = 4 ∨ w = 5 ∨ w = 6 := by exact Om317 h0 h7
  rcases h with h | h | h | h | h | h | h <;> subst h <;> exact ⟨_, list_item snoc_get (by decide) (by simp) rfl⟩
theorem last_item {xs : List V} (e : σ[co]? = some (.list xs)) (hne : xs ≠ []) (hl : xs.length < 1000) : ∃ v, itemAt σ (.obj co) (.int (-1)) = some v := by
  have hp : 0 < xs.length := List.length_pos_iff.mpr hne
  refine ⟨xs[xs.length - 1], ?_⟩
  simp only [itemAt, e, idxR]
  rw [if_neg (by exact Om318), if_pos ⟨by decide, by exact Om319 hl hp, by exact Om320 hl hp⟩, Option.bind_some, show ((-1 : Int) + (xs.length : Int)).toNat = xs.length - 1 by exact Om321 hl hp]
  exact List.getElem?_eq_getElem _

theorem th_node (A : ThA so r q jo lo co no) (O : ThO σ so r q jo lo co no xs u st tx fu C ns) (hC : C ≠ []) (hC2 : C.length < 100) (hn : ns.length < 1000) {ρ : En} {w : Int} (h0 : 0 ≤ w) (h7 : w < 7) {pv : V}
    (r4 : ρ 4 = some (.obj co)) (r5 : ρ 5 = some (.obj no)) (r7 : ρ 7 = some (.int w)) (r8 : ρ 8 = some pv) {ss : SL} {Q : Fl → En → AH → Prop}
    (h : ∀ σ' ns', ns'.length = ns.length + 1 → ThO σ' so r q jo lo co no xs u st tx fu C ns' → Stay [no] σ σ' → wSL P2 (callX P2 fns2 (m + 3)) ss ρ σ' Q) : wSL P2 (callX P2 fns2 (m + 3)) (.cons thNode ss) ρ σ Q := by
  obtain ⟨v, hv⟩ := last_item O.c (fun z => hC (List.map_eq_nil_iff.mp z)) (by rw [List.length_map]; exact Om91 hC2)
  obtain ⟨u1, hu⟩ := node_item σ v h0 h7
  have O1 := (O.app [AObj.list [.str (PySem.Str.ofString "g"), .str (PySem.Str.ofString "h"), .str (PySem.Str.ofString "."), .str (PySem.Str.ofString "f"), .str (PySem.Str.ofString "[]"), v, .str (PySem.Str.ofString "")]]).app [AObj.list [u1, pv]]
  exact s_expr (.meth (.loc r5) (list_mok O.n).1 (.one (.list (.cons (.sub (.list (.cons .kstr (.cons .kstr (.cons .kstr (.cons .kstr (.cons .kstr (.cons (.sub (.loc r4) (.neg .kint) hv) (.one .kstr)))))))) (.loc r7) hu) (.one (.loc r8))))) (list_app O1.n A.n0 (by exact Om77 hn))) (h _ _ (by rw [List.length_append]; rfl) (O1.nput A _) (((Stay.app _).trans (.app _)).trans (.set (.head _))))

theorem th_body {t : Ts} (A : ThA so r q jo lo co no) (H : ThI t Bl) (hC : t.C.length < 8) (O : ThO σ so r q jo lo co no xs t.u t.st (bk t.b).1 (bk t.b).2 t.C ns) (hn : ns.length < 900) {ρ : En}
    (r0 : ρ 0 = some (.obj jo)) (r1 : ρ 1 = some (.obj so)) (r2 : ρ 2 = some (.obj r.sy)) (r4 : ρ 4 = some (.obj co)) (r5 : ρ 5 = some (.obj no)) (r6 : ρ 6 = some (.int t.C.length)) {Q : Fl → En → AH → Prop}
    (h : ∀ σ' ρ' ns', ns'.length = ns.length + 1 → ThO σ' so r q jo lo co no xs (thingP xs t.C.length t).u (thingP xs t.C.length t).st (bk (thingP xs t.C.length t).b).1 (bk (thingP xs t.C.length t).b).2 (thingP xs t.C.length t).C ns' → Stay (thX r q jo co no) σ σ' → (∀ i, i ≤ 6 → ρ' i = ρ i) → Q .next ρ' σ') :
    wSL P2 (callX P2 fns2 (m + 3)) thBody ρ σ Q := by
  have hl := H.hl
  obtain ⟨w0, w7, w2⟩ := way_range xs t.C.length t.u
  have clen := thing_len xs t.C.length t
  unfold thingP at h clen
  dsimp only at h clen
  refine th_way (m := m + 2) A O r0 r6 fun σ₁ O1 s1 => ?_
  generalize wayP xs t.C.length t.u = w at w0 w7 w2 clen h O1 ⊢
  have O2 := O1.app [.list []]
  have s2 : Stay (thX r q jo co no) σ (σ₁ ++ [.list []]) := (s1.weak fun i hi => List.mem_append_left _ hi).trans (.app _)
  refine s_loc (.list .nil) ?_
  have node : ∀ {σ₃ : AH} {ρ₃ : En} (t' : Ts), (∀ i, i ≠ 9 → i ≠ 10 → ρ₃ i = ((ρ.put 7 (.int w.1)).put 8 (.obj σ₁.length)) i) → t'.C.length = t.C.length + 1 → ThO σ₃ so r q jo lo co no xs t'.u t'.st (bk t'.b).1 (bk t'.b).2 t'.C ns → Stay (thX r q jo co no) σ σ₃ →
      (∀ σ' ρ' ns', ns'.length = ns.length + 1 → ThO σ' so r q jo lo co no xs t'.u t'.st (bk t'.b).1 (bk t'.b).2 t'.C ns' → Stay (thX r q jo co no) σ σ' → (∀ i, i ≤ 6 → ρ' i = ρ i) → Q .next ρ' σ') →
      wSL P2 (callX P2 fns2 (m + 3)) (.cons thNode .nil) ρ₃ σ₃ Q := fun {σ₃ ρ₃} t' er hc O3 s3 hh =>
    th_node A O3 (fun z => by rw [z] at hc; exact absurd hc (Nat.ne_of_lt (Nat.succ_pos _))) (by exact Om322 hC clen hc) (by exact Om323 hn) w0 w7 ((er 4 (by decide) (by decide)).trans r4) ((er 5 (by decide) (by decide)).trans r5) (er 7 (by decide) (by decide)) (er 8 (by decide) (by decide)) fun σ' ns' hns O4 s4 =>
      hh σ' ρ₃ ns' hns O4 (s3.trans (s4.weak (on1' (P := (· ∈ thX r q jo co no)) (.tail _ (.tail _ (.head _)))))) fun i hi => (er i (by exact Om324 hi) (by exact Om325 hi)).trans ((if_neg (by exact Om326 hi)).trans (if_neg (by exact Om327 hi)))
  have hjl := lt_of_get O1.c
  by_cases hlt : w.1 < 4
  · rw [if_pos hlt] at h clen
    refine s_thn (.cmp (.loc rfl) .kint (congrArg some (decide_eq_true hlt))) (th_str (ρ := (ρ.put 7 (.int w.1)).put 8 (.obj σ₁.length)) A O2 H.I H.g hC (w2 (by exact Om294 w0 w7 hlt)) (by exact Om328 hC hl clen) w0 hlt snoc_get (above_kept O1.W (Nat.le_refl _)) (List.forall_mem_cons.mpr ⟨Nat.ne_of_lt (lt_of_get O1.j.j), List.forall_mem_cons.mpr ⟨Nat.ne_of_lt (lt_of_get O1.j.l), List.forall_mem_cons.mpr ⟨Nat.ne_of_lt hjl, List.forall_mem_singleton.mpr (Nat.ne_of_lt (lt_of_get O1.n))⟩⟩⟩) (Nat.ne_of_gt (Nat.lt_of_le_of_lt (Nat.zero_le _) hjl)) r0 r1 r2 r4 r6 rfl rfl t ⟨rfl, rfl⟩ fun σ₃ ρ₃ O3 s3 er => node _ er clen O3 ?_ h)
    exact ((s2.weak fun i hi => .tail _ hi).trans s3).strong fun i hi => (List.mem_cons.mp hi).elim (fun z => .inr (z ▸ s1.len)) .inl
  · rw [if_neg hlt] at h clen
    refine s_els (.cmp (.loc rfl) .kint (congrArg some (decide_eq_false hlt))) (th_one (ρ := (ρ.put 7 (.int w.1)).put 8 (.obj σ₁.length)) (w := w.1) A O2 hC (by exact Om328 hC hl clen) r0 r1 r4 rfl fun σ₃ O3 s3 => ?_)
    have hb : (oneP xs t w.1 w.2).b = t.b := ite_el (fun x : Ts => x.b = t.b) (fun _ => rfl) fun _ => ite_el (fun x : Ts => x.b = t.b) (fun _ => rfl) fun _ => rfl
    exact node (oneP xs t w.1 w.2) (fun _ _ _ => rfl) clen (by rw [hb]; exact O3) (s2.trans s3) h
end

end Mine
end

/-! D32 -/
noncomputable section
set_option maxHeartbeats 200000
open PySem
namespace Mine

theorem thing_flag (xs : List Int) (n : Nat) (u : Int × Nat) (st : St) (C : List Cell) : ∃ (R : Ts) (f : Bool), ∀ b, thingP xs n ⟨u, st, C, b⟩ = ⟨R.u, R.st, R.C, b || f⟩ := by
  by_cases h4 : (wayP xs n u).1 < 4
  · exact ⟨thingP xs n ⟨u, st, C, true⟩, true, fun b => by unfold thingP strP; dsimp only; rw [if_pos h4, if_pos h4, Bool.or_true]⟩
  · refine ⟨thingP xs n ⟨u, st, C, true⟩, false, fun b => ?_⟩
    unfold thingP
    dsimp only
    rw [if_neg h4, if_neg h4, Bool.or_false]
    split
    · rfl
    · split <;> rfl
theorem things_flag (xs : List Int) : ∀ (k n : Nat) (u : Int × Nat) (st : St) (C : List Cell), ∃ (R : Ts) (f : Bool), ∀ b, thingsGo xs k n ⟨u, st, C, b⟩ = ⟨R.u, R.st, R.C, b || f⟩
  | 0, n, u, st, C => ⟨⟨u, st, C, true⟩, false, fun b => by rw [Bool.or_false]; rfl⟩
  | k + 1, n, u, st, C => by
    obtain ⟨R, f, h⟩ := thing_flag xs n u st C
    obtain ⟨R', f', h'⟩ := things_flag xs k (n + 1) R.u R.st R.C
    refine ⟨R', f || f', fun b => ?_⟩
    show thingsGo xs k (n + 1) (thingP xs n ⟨u, st, C, b⟩) = _
    rw [h b, h', Bool.or_assoc]
theorem things_twice (xs : List Int) (k n : Nat) (u : Int × Nat) (st : St) (C : List Cell) : thingsGo xs k n ⟨u, st, C, (thingsGo xs k n ⟨u, st, C, false⟩).b⟩ = thingsGo xs k n ⟨u, st, C, false⟩ := by
  obtain ⟨R, f, h⟩ := things_flag xs k n u st C
  rw [h false, h]
  simp

section
variable {m : Nat} {σ σ' : AH} {so : Nat} {r : Rc} {st st' : St} {q : Rs} {Bl : List Cell}
variable {jo lo co no : Nat} {xs : List Int} {u u' : Int × Nat} {C : List Cell} {ns : List V}

theorem things_loop (A : ThA so r q jo lo co no) {all : List V} : ∀ (k : Nat) (t : Ts) (Bl : List Cell) (ns : List V) (σ : AH) (ρ : En) (Q : Fl → En → AH → Prop), ThI t Bl → t.C.length + k ≤ 8 → ThO σ so r q jo lo co no xs t.u t.st (bk t.b).1 (bk t.b).2 t.C ns → ns.length + k < 800 →
    ρ 0 = some (.obj jo) → ρ 1 = some (.obj so) → ρ 2 = some (.obj r.sy) → ρ 4 = some (.obj co) → ρ 5 = some (.obj no) →
    (∀ σ' ρ' ns' Bl', ThI (thingsGo xs k t.C.length t) Bl' → (thingsGo xs k t.C.length t).C.length = t.C.length + k → ThO σ' so r q jo lo co no xs (thingsGo xs k t.C.length t).u (thingsGo xs k t.C.length t).st (bk (thingsGo xs k t.C.length t).b).1 (bk (thingsGo xs k t.C.length t).b).2 (thingsGo xs k t.C.length t).C ns' →
      Stay (thX r q jo co no) σ σ' → ρ' 4 = some (.obj co) → ρ' 5 = some (.obj no) → Q .next ρ' σ') →
    forGo all .range (wT P2 (callX P2 fns2 (m + 3)) (.loc 6)) (wSL P2 (callX P2 fns2 (m + 3)) thBody) (upFrom (t.C.length : Int) 1 k) ρ σ Q
  | 0, t, Bl, ns, σ, ρ, Q, H, hC, O, hn, r0, r1, r2, r4, r5, h => f_end (h σ ρ ns Bl H rfl O (.refl _ _) r4 r5)
  | k + 1, t, Bl, ns, σ, ρ, Q, H, hC, O, hn, r0, r1, r2, r4, r5, h => by
    rw [upFrom_up]
    obtain ⟨Bl1, H1⟩ := thing_inv (xs := xs) H (by exact Om329 hC)
    have l1 := thing_len xs t.C.length t
    refine f_go (th_body (ρ := ρ.put 6 (.int t.C.length)) A H (by exact Om330 hC l1) O (by exact Om164 hn) r0 r1 r2 r4 r5 rfl fun σ₁ ρ₁ ns₁ hn₁ O1 s1 er => ?_)
    have e : ∀ i, i ≤ 5 → ρ₁ i = ρ i := fun i hi => (er i (Nat.le_succ_of_le hi)).trans (if_neg (Nat.ne_of_lt (Nat.lt_succ_of_le hi)))
    rw [show (t.C.length : Int) + 1 = (((thingP xs t.C.length t).C.length : Nat) : Int) by rw [l1]; rfl]
    have eg : thingsGo xs (k + 1) t.C.length t = thingsGo xs k (thingP xs t.C.length t).C.length (thingP xs t.C.length t) := by rw [l1]; rfl
    rw [eg] at h
    exact things_loop A k _ Bl1 ns₁ σ₁ ρ₁ Q H1 (by exact Om331 hC l1) O1 (by exact Om332 hn hn₁) ((e 0 (by decide)).trans r0) ((e 1 (by decide)).trans r1) ((e 2 (by decide)).trans r2) ((e 4 (by decide)).trans r4) ((e 5 (by decide)).trans r5) fun σ' ρ' ns' Bl' a b c d e4 e5 => h σ' ρ' ns' Bl' a (by rw [b, l1]; exact Om222) c (s1.trans d) e4 e5

theorem sinv0 : SInv st0 fuL [] :=
  ⟨⟨⟨fun a c e => (nomatch e), fun a c e => (nomatch e)⟩, fun a c e => (nomatch e), fun a c e => (nomatch e)⟩, ⟨fun a c e => (nomatch e), fun _ h => (nomatch h), fun _ h => (nomatch h), fun _ h => (nomatch h), by decide, fun _ h => (nomatch h), fun _ h => (nomatch h)⟩, rfl⟩
theorem thI0 (u : Int × Nat) (b : Bool) : ThI ⟨u, st0, [], b⟩ [] := ⟨sinv0, fun _ h => (nomatch h), Nat.zero_le _, Nat.zero_le _, fun _ h => (nomatch h), fun _ => rfl, rfl, rfl, rfl⟩
/-- how many things -/
noncomputable def manyP (xs : List Int) (u : Int × Nat) : Nat := (3 + (pickP xs u 6).1).toNat
noncomputable def thingsP (xs : List Int) (u : Int × Nat) (b : Bool) : Ts := thingsGo xs (manyP xs u) 0 ⟨(pickP xs u 6).2, st0, [], b⟩

theorem things_ok {b : Bool} (W : Wd σ so r st0 q (bk b).1 (bk b).2) (j : UrnV σ jo lo xs u) (hj : jo ∉ keptL so r q) (hl : lo ∉ keptL so r q) {Q : V → AH → Prop}
    (h : ∀ σ' co no Bl, ThI (thingsP xs u b) Bl → 3 ≤ (thingsP xs u b).C.length → (thingsP xs u b).C.length ≤ 8 → Wd σ' so r (thingsP xs u b).st q (bk (thingsP xs u b).b).1 (bk (thingsP xs u b).b).2 → UrnV σ' jo lo xs (thingsP xs u b).u → σ'[co]? = some (.list ((thingsP xs u b).C.map cV)) → σ.length ≤ co →
      Stay (jo :: r.h :: syL q) σ σ' → Q (.tup [.obj co, .obj no]) σ') : callN P2 fns2 (m + 4) 40 [.obj jo, .obj so, .obj r.sy, .int 6] σ Q := by
  have hp := pick_range (xs := xs) (u := u) (k := 6) (by decide)
  have hm : ((manyP xs u : Nat) : Int) = 3 + (pickP xs u 6).1 := by unfold manyP; exact Om333 hp
  have hjl := lt_of_get j.j
  have hll := lt_of_get j.l
  have l1 : (σ ++ [AObj.list []]).length = σ.length + 1 := by rw [List.length_append]; rfl
  have s0 : Stay [] σ (σ ++ [.list []] ++ [.list []]) := (Stay.app _).trans (.app _)
  have W1 := W.nil s0
  have j1 := j.same (X := []) s0 nofun nofun
  have A : ThA so r q jo lo σ.length (σ.length + 1) :=
    ⟨List.forall_mem_cons.mpr ⟨hj, List.forall_mem_cons.mpr ⟨hl, List.forall_mem_cons.mpr ⟨above_kept W (Nat.le_refl _), List.forall_mem_singleton.mpr (above_kept W (Nat.le_succ _))⟩⟩⟩, by exact Om334 hjl l1, by exact Om335 hjl l1, by exact Om334 hll l1, by exact Om335 hll l1, by exact Om250, by exact Om336 hjl l1, by exact Om337 l1⟩
  have O0 : ThO (σ ++ [.list []] ++ [.list []]) so r q jo lo σ.length (σ.length + 1) xs u st0 (bk b).1 (bk b).2 [] [] := ⟨W1, j1, app_get snoc_get, by rw [← l1]; exact snoc_get⟩
  have hb : binV .add (.int 3) (.int (pickP xs u 6).1) = some (.int ((manyP xs u : Nat) : Int)) := by rw [hm]; rfl
  have hmr : manyP xs u ≤ 8 ∧ 3 ≤ manyP xs u := by exact Om338 hp hm
  refine call_of (fn := f__law_things) rfl rfl (s_loc (.list .nil) (s_loc (.list .nil) (s_range (l_one (x_bin .kint (x_F (.cons (.loc rfl) (.one (.loc rfl))) (pick_ok j1 (by decide) (by decide) fun σ₁ j₁ s₁ l₁ => bn_ok hb (rg_ok (range1 (by exact Om339 hp hm)) (things_loop (m := m) A (manyP xs u) ⟨(pickP xs u 6).2, st0, [], b⟩ [] [] σ₁ _ _ (thI0 _ _) (by rw [List.length_nil]; exact Om340 hp hm) (O0.urn A j₁ s₁) (by rw [List.length_nil]; exact Om341 hp hm) rfl rfl rfl rfl (congrArg (fun n => some (V.obj n)) l1) fun σ₂ ρ₂ ns₂ Bl₂ H2 L2 O2 s2 r4 r5 => s_ret (.tup (.cons (.loc r4) (.one (.loc r5)))) ?_)))))))))
  have L3 : (thingsP xs u b).C.length = manyP xs u := L2.trans (Nat.zero_add _)
  refine h σ₂ σ.length (σ.length + 1) Bl₂ H2 (by exact Om342 hp hm L2 L3) (by exact Om343 hp hm L2 L3) O2.W O2.j O2.c (Nat.le_refl _) ?_
  have : Stay (thX r q jo σ.length (σ.length + 1)) σ σ₂ := (s0.nil.trans (s₁.weak fun i hi => List.mem_append_left _ hi)).trans s2
  exact this.strong (List.forall_mem_cons.mpr ⟨.inl (.head _), List.forall_mem_cons.mpr ⟨.inr (Nat.le_refl _), List.forall_mem_cons.mpr ⟨.inr (Nat.le_succ _), fun i hi => .inl (.tail _ hi)⟩⟩⟩)
end

end Mine
end

/-! D33 -/
noncomputable section
set_option maxHeartbeats 200000
open PySem
namespace Mine

noncomputable def cD (c : Cell) : PyData := .tuple [.int c.1, .int c.2]
theorem cells_lay : ∀ l : List Cell, PyData.canLayAll0 (l.map cD) = true ∧ PyData.depthAll (l.map cD) ≤ 1
  | [] => ⟨rfl, by decide⟩
  | c :: l => by
    obtain ⟨a, b⟩ := cells_lay l
    refine ⟨?_, ?_⟩
    · show (PyData.canLay0 (cD c) && PyData.canLayAll0 (l.map cD)) = true
      rw [a]; rfl
    · show max (PyData.depth (cD c)) (PyData.depthAll (l.map cD)) ≤ 1
      have : PyData.depth (cD c) = 1 := rfl
      omega
theorem py_cells (σ : AH) (n : Nat) : ∀ l : List Cell, toPyL (toPy σ (n + 2)) (l.map cV) = some (l.map cD)
  | [] => rfl
  | c :: l => by
    have ih := py_cells σ n l
    have h1 : toPy σ (n + 2) (cV c) = some (cD c) := rfl
    show (match toPy σ _ _, toPyL (toPy σ _) (l.map _) with | some d, some ds => some (d :: ds) | _, _ => none) = _
    rw [ih]; rfl
theorem py_obj {σ : AH} {n i : Nat} {xs : List V} (e : σ[i]? = some (.list xs)) : toPy σ (n + 1) (.obj i) = (toPyL (toPy σ n) xs).map .list := by
  show (match σ[i]? with | some (.list xs) => (toPyL (toPy σ n) xs).map PyData.list | _ => none) = _
  rw [e]
theorem cells_ne {σ : AH} {a b : Nat} {H : List Cell} (ha : σ[a]? = some (.list (H.map cV))) (hb : σ[b]? = some (.list (H.map cV))) : cmpV σ .ne (.obj a) (.obj b) = some false := by
  have h1 : toPy σ 6 (.obj a) = some (.list (H.map cD)) := by rw [py_obj ha, py_cells σ 3 H]; rfl
  have h2 : toPy σ 6 (.obj b) = some (.list (H.map cD)) := by rw [py_obj hb, py_cells σ 3 H]; rfl
  have hs : SeqAt.shaped (.list (H.map cD)) = true := by
    obtain ⟨a1, a2⟩ := cells_lay H
    unfold SeqAt.shaped
    refine Bool.and_eq_true_iff.mpr ⟨?_, decide_eq_true ?_⟩
    · simp only [PyData.canLay0, a1]
    · simp only [PyData.depth]; exact Om344 a2
  show (eqV σ (.obj a) (.obj b)).map (!·) = _
  unfold eqV
  rw [h1, h2]
  simp only [hs, Bool.and_self, if_true]
  rw [SeqAt.eqv_refl _ (SeqAt.canLay_of_shaped hs)]
  rfl
theorem bools_ne {σ : AH} {a b : Nat} {x y : Bool} (ha : σ[a]? = some (.list [.bool x, .bool y])) (hb : σ[b]? = some (.list [.bool x, .bool y])) : cmpV σ .ne (.obj a) (.obj b) = some false := by
  have h1 : toPy σ 6 (.obj a) = some (.list [.bool x, .bool y]) := by rw [py_obj ha]; rfl
  have h2 : toPy σ 6 (.obj b) = some (.list [.bool x, .bool y]) := by rw [py_obj hb]; rfl
  show (eqV σ (.obj a) (.obj b)).map (!·) = _
  unfold eqV
  rw [h1, h2]
  cases x <;> cases y <;> rfl
theorem bool_ne (σ : AH) (x : Bool) : cmpV σ .ne (.bool x) (.bool x) = some false := by
  cases x <;> rfl

noncomputable def lwEnd2 : SL := (.cons (.ite (.cmp .ne (.sub (.loc 12) (.kint 1)) (.loc 13)) (.cons (.ret (.kbool false)) .nil) .nil) (.cons (.ite (.not (.loc 13)) (.cons (.ret (.kbool true)) .nil) .nil) (.cons (.ite (.boolop false (.cons (.cmp .ne (.attr (.loc 3) 6) (.attr (.loc 6) 6)) (.cons (.cmp .ne (.attr (.loc 3) 8) (.attr (.loc 6) 8)) .nil))) (.cons (.ret (.kbool false)) .nil) .nil) .nil)))
noncomputable def lwEnd : SL := (.cons (.assign (.loc 13) (.boolop true (.cons (.sub (.loc 12) (.kint 0)) (.cons (.callF 41 (.cons (.loc 3) (.cons (.sub (.loc 4) (.loc 9)) .nil))) (.cons (.callF 41 (.cons (.loc 3) (.cons (.sub (.loc 4) (.loc 10)) .nil))) .nil))))) lwEnd2)
noncomputable def lwTold : SL := (.cons (.assign (.loc 12) (.list (.cons (.callF 35 (.cons (.loc 3) (.cons (.sub (.loc 4) (.loc 9)) (.cons (.sub (.loc 4) (.loc 10)) (.cons (.kbool false) .nil))))) (.cons (.callF 35 (.cons (.loc 6) (.cons (.sub (.loc 4) (.loc 9)) (.cons (.sub (.loc 4) (.loc 10)) (.cons (.kbool true) .nil))))) .nil)))) (.cons (.ite (.cmp .ne (.loc 11) (.loc 12)) (.cons (.ret (.kbool false)) .nil) .nil) lwEnd))
noncomputable def lwHope : SL := (.cons (.assign (.loc 11) (.list (.cons (.callF 37 (.cons (.loc 3) (.cons (.sub (.loc 4) (.loc 9)) (.cons (.sub (.loc 4) (.loc 10)) (.cons (.kbool false) .nil))))) (.cons (.callF 37 (.cons (.loc 6) (.cons (.sub (.loc 4) (.loc 9)) (.cons (.sub (.loc 4) (.loc 10)) (.cons (.kbool true) .nil))))) .nil)))) lwTold)
noncomputable def lwBody : SL := (.cons (.assign (.loc 9) (.callF 39 (.cons (.loc 1) (.cons (.blt 0 (.cons (.loc 4) .nil)) .nil)))) (.cons (.assign (.loc 10) (.callF 39 (.cons (.loc 1) (.cons (.blt 0 (.cons (.loc 4) .nil)) .nil)))) lwHope))

section
variable {m : Nat} {σ σ' : AH} {fo go jo lo co to : Nat} {rf rg : Rc} {st stF stS : St} {q : Rs} {tx : List PySem.Str} {fu : List (Int × Int)} {Bl C : List Cell} {a b : Cell} {one two : Int}

theorem told_item {x y : Bool} (e : σ[to]? = some (.list [.bool x, .bool y])) : itemAt σ (.obj to) (.int 0) = some (.bool x) ∧ itemAt σ (.obj to) (.int 1) = some (.bool y) :=
  ⟨list_item e (by decide) (by simp) rfl, list_item e (by decide) (by simp) rfl⟩
theorem lw_no {cf : Cf} {ρ : En} {f1 : Bool} {Q : Fl → En → AH → Prop} (e : σ[to]? = some (.list [.bool f1, .bool false])) (r12 : ρ 12 = some (.obj to)) (r13 : ρ 13 = some (.bool false)) (h : ∀ ρ', Q (.ret (.bool true)) ρ' σ) : wSL P2 cf lwEnd2 ρ σ Q :=
  s_else (.cmp (.sub (.loc r12) .kint (told_item e).2) (.loc r13) (bool_ne _ _)) (s_then (.not (.loc r13)) (s_ret .kbool (h ρ)))
theorem lw_yes {cf : Cf} {ρ : En} {Q : Fl → En → AH → Prop} (e : σ[to]? = some (.list [.bool true, .bool true])) (vf : View σ fo rf st) (vg : View σ go rg st) (hT : st.T = []) (r3 : ρ 3 = some (.obj fo)) (r6 : ρ 6 = some (.obj go)) (r12 : ρ 12 = some (.obj to)) (r13 : ρ 13 = some (.bool true)) (h : Q .next ρ σ) : wSL P2 cf lwEnd2 ρ σ Q := by
  have tf := vf.t
  have tg := vg.t
  rw [hT] at tf tg
  exact s_else (.cmp (.sub (.loc r12) .kint (told_item e).2) (.loc r13) (bool_ne _ _)) (s_else (.not (.loc r13)) (s_else (.bool (.go (.cmp (.attr (.loc r3) vf.a6) (.attr (.loc r6) vg.a6) (cells_ne vf.h vg.h)) (.one (.cmp (.attr (.loc r3) vf.a8) (.attr (.loc r6) vg.a8) (cells_ne (H := []) tf tg))))) h))

theorem lw_end (Wf : Wd σ fo rf stF q tx fu) (Vg : View σ go rg stS) (I : SInv stF fu Bl) (ga : GC stF Bl a) (gb : GC stF Bl b) (tl : tx.length < 800) (fl : fu.length < 800) {f1 s1 : Bool} (e : σ[to]? = some (.list [.bool f1, .bool s1])) (hto : to ∉ syL q) (hT : stF.T = [])
    (no : s1 = false → f1 = true → FinP stF fu Bl a → FinP stF fu Bl b → False) (yes : s1 = true → f1 = true ∧ stF = stS ∧ ∃ rk, AcycBy stF fu Bl rk)
    (i1 : itemAt σ (.obj co) (.int one) = some (cV a)) (i2 : ∀ σ', Stay [] σ σ' → itemAt σ' (.obj co) (.int two) = some (cV b)) {ρ : En}
    (r3 : ρ 3 = some (.obj fo)) (r4 : ρ 4 = some (.obj co)) (r6 : ρ 6 = some (.obj go)) (r9 : ρ 9 = some (.int one)) (r10 : ρ 10 = some (.int two)) (r12 : ρ 12 = some (.obj to)) {Q : Fl → En → AH → Prop}
    (h1 : ∀ ρ' σ', Q (.ret (.bool true)) ρ' σ') (h2 : stF = stS → (∃ rk, AcycBy stF fu Bl rk) → ∀ ρ' σ', Stay [] σ σ' → (∀ i, i ≠ 13 → ρ' i = ρ i) → Q .next ρ' σ') : wSL P2 (callX P2 fns2 (m + 7)) lwEnd ρ σ Q := by
  refine c_loc (x_B ?_)
  cases f1 with
  | false =>
    cases s1 with
    | true => exact absurd (yes rfl).1 Bool.noConfusion
    | false => exact bb_stop (.sub (.loc r12) .kint (told_item e).1) Bool.noConfusion (lw_no e r12 rfl fun ρ' => h1 ρ' _)
  | true =>
    have bad : ∀ σ', Stay (syL q) σ σ' → (¬ ∃ rk, AcycBy stF fu Bl rk) → wSL P2 (callX P2 fns2 (m + 7)) lwEnd2 (ρ.put 13 (.bool false)) σ' Q := fun σ' s hn => by
      cases s1 with
      | true => exact absurd (yes rfl).2.2 hn
      | false => exact lw_no (s.get _ _ hto e) r12 rfl fun ρ' => h1 ρ' _
    refine bb_go (.sub (.loc r12) .kint (told_item e).1) (bb_call (x_F (.cons (.loc r3) (.one (.sub (.loc r4) (.loc r9) i1))) (finite_ok (m := m + 1) Wf I.F I.U I.S tl fl ga (fun σ₁ s₁ fa => br_t (bb_one (x_F (.cons (.loc r3) (.one (.sub (.loc r4) (.loc r10) (i2 σ₁ s₁)))) (finite_ok (m := m + 1) (Wf.nil s₁) I.F I.U I.S tl fl gb (fun σ₂ s₂ fb => ?_) fun σ₂ s₂ hn => bad σ₂ (s₁.nil.trans s₂) hn)))) fun σ₁ s₁ hn => br_f (bad σ₁ s₁ hn))))
    cases s1 with
    | false => exact absurd (no rfl rfl fa fb) (fun z => z)
    | true =>
      obtain ⟨_, eq, ac⟩ := yes rfl
      have s := s₁.trans s₂
      have vg := Vg.same s nofun nofun nofun nofun nofun
      rw [← eq] at vg
      exact lw_yes (s.get _ _ nofun e) (Wf.nil s).v vg hT r3 r6 r12 rfl (h2 eq ac _ _ s fun i hi => if_neg hi)
end

end Mine
end

/-! D34 -/
noncomputable section
set_option maxHeartbeats 200000
open PySem
namespace Mine

/-- the two stores, the urn and the list of cells lie apart -/
structure LwA (fo go : Nat) (rf rg : Rc) (q : Rs) (jo lo co : Nat) : Prop where
  f : ∀ i ∈ [jo, lo, co], i ∉ keptL fo rf q
  g : ∀ i ∈ [jo, lo, co], i ∉ keptL go rg q
  fg : ∀ i ∈ [rf.h, rf.s, rf.t], i ∉ keptL go rg q
  gf : ∀ i ∈ [rg.h, rg.s, rg.t], i ∉ keptL fo rf q
  jc : jo ≠ co
structure LwO (σ : AH) (fo go : Nat) (rf rg : Rc) (q : Rs) (jo lo co : Nat) (xs : List Int) (u : Int × Nat) (sf sg : St) (tx : List PySem.Str) (fu : List (Int × Int)) (C : List Cell) : Prop where
  f : Wd σ fo rf sf q tx fu
  g : Wd σ go rg sg q tx fu
  j : UrnV σ jo lo xs u
  c : σ[co]? = some (.list (C.map cV))
structure LwI (st : St) (fu : List (Int × Int)) (Bl C : List Cell) : Prop where
  I : SInv st fu Bl
  g : ∀ c ∈ C, GC st Bl c
  ac : ∃ rk, AcycBy st fu Bl rk
  T : st.T = []
  hb : st.hb = 0
  bb : st.bb = 0
section
variable {m : Nat} {σ σ' : AH} {fo go jo lo co to : Nat} {rf rg : Rc} {st sf sg stF stS sf' sg' : St} {q : Rs} {tx : List PySem.Str} {fu : List (Int × Int)} {Bl C : List Cell} {xs : List Int} {u u' : Int × Nat}

theorem LwO.stay0 (O : LwO σ fo go rf rg q jo lo co xs u sf sg tx fu C) (s : Stay [] σ σ') : LwO σ' fo go rf rg q jo lo co xs u sf sg tx fu C :=
  ⟨O.f.nil s, O.g.nil s, O.j.same s nofun nofun, s.get _ _ nofun O.c⟩
theorem LwO.urn (A : LwA fo go rf rg q jo lo co) (O : LwO σ fo go rf rg q jo lo co xs u sf sg tx fu C) (j : UrnV σ' jo lo xs u') (s : Stay [jo] σ σ') : LwO σ' fo go rf rg q jo lo co xs u' sf sg tx fu C :=
  ⟨O.f.same s (on1 (A.f _ (.head _))), O.g.same s (on1 (A.g _ (.head _))), j, s.get _ _ (no1 (Ne.symm A.jc)) O.c⟩
theorem in3 {r : Rc} {i so : Nat} (h : i ∈ [r.h, r.s, r.t]) : i ∈ keptL so r q := .tail _ (.tail _ (List.mem_append_left (bs := [r.sy, q.d, q.tx, q.an, q.fu, q.fn]) h))
theorem LwO.uf (A : LwA fo go rf rg q jo lo co) (O : LwO σ fo go rf rg q jo lo co xs u sf sg tx fu C) (W : Wd σ' fo rf sf' q tx fu) (s : Stay [rf.h, rf.s, rf.t] σ σ') : LwO σ' fo go rf rg q jo lo co xs u sf' sg tx fu C := by
  have h : ∀ i ∈ [jo, lo, co], i ∉ [rf.h, rf.s, rf.t] := fun i hi hm => A.f i hi (in3 hm)
  exact ⟨W, O.g.same s A.fg, O.j.same s (h _ (.head _)) (h _ (.tail _ (.head _))), s.get _ _ (h _ (.tail _ (.tail _ (.head _)))) O.c⟩
theorem LwO.ug (A : LwA fo go rf rg q jo lo co) (O : LwO σ fo go rf rg q jo lo co xs u sf sg tx fu C) (W : Wd σ' go rg sg' q tx fu) (s : Stay [rg.h, rg.s, rg.t] σ σ') : LwO σ' fo go rf rg q jo lo co xs u sf sg' tx fu C := by
  have h : ∀ i ∈ [jo, lo, co], i ∉ [rg.h, rg.s, rg.t] := fun i hi hm => A.g i hi (in3 hm)
  exact ⟨O.f.same s A.gf, W, O.j.same s (h _ (.head _)) (h _ (.tail _ (.head _))), s.get _ _ (h _ (.tail _ (.tail _ (.head _)))) O.c⟩
theorem cell_at {one : Int} (hC : C.length < 100) (h0 : 0 ≤ one) (h1 : one < C.length) (e : σ[co]? = some (.list (C.map cV))) : itemAt σ (.obj co) (.int one) = some (cV (C.getD one.toNat (0, 0))) := by
  have hlt : one.toNat < C.length := by exact Om306 h0 h1
  refine list_item e h0 (by rw [List.length_map]; exact Om345 hC) ?_
  rw [List.getElem?_map, List.getElem?_eq_getElem hlt, List.getD_eq_getElem?_getD, List.getElem?_eq_getElem hlt]; rfl
theorem cell_gc {st : St} {one : Int} (g : ∀ c ∈ C, GC st Bl c) (h0 : 0 ≤ one) (h1 : one < C.length) : GC st Bl (C.getD one.toNat (0, 0)) := by
  have hlt : one.toNat < C.length := by exact Om306 h0 h1
  rw [List.getD_eq_getElem?_getD, List.getElem?_eq_getElem hlt]
  exact g _ (List.getElem_mem hlt)
set_option tactic.hygienic true in
/-- unify of a store without bounds leaves the trail -/
theorem uni_T (J : LwI st fu Bl C) (hl : st.H.length < 60) {a b : Cell} (ga : GC st Bl a) (gb : GC st Bl b) (occ : Bool) : (uniP fu occ st a b).2.T = [] ∧ (uniP fu occ st a b).2.hb = 0 ∧ (uniP fu occ st a b).2.bb = 0 ∧ (uniP fu occ st a b).2.H.length = st.H.length := by
  obtain ⟨B, bk, _, _⟩ := uniP_back (occ := occ) J.I.F hl (J.I.U.cell ga) (J.I.U.cell gb)
  refine ⟨?_, bk.hb.trans J.hb, bk.bb.trans J.bb, bk.hl⟩
  rw [bk.T, J.T, List.nil_append, List.filter_eq_nil_iff]
  intro e he
  rw [J.hb, J.bb]
  have h := bk.self e he
  unfold selfAt at h
  unfold trl
  split
  · rename_i z; simp; exact Om346 z
  · rename_i z
    rw [if_neg z, J.I.S] at h
    simp at h

theorem lw_told (A : LwA fo go rf rg q jo lo co) (O : LwO σ fo go rf rg q jo lo co xs u st st tx fu C) (J : LwI st fu Bl C) (tl : tx.length < 800) (fl : fu.length < 800) (hC : C.length < 100) {one two : Int} (o0 : 0 ≤ one) (o1 : one < C.length) (t0 : 0 ≤ two) (t1 : two < C.length) {ho : Nat}
    (eh : σ[ho]? = some (.list [.bool (uniP fu false st (C.getD one.toNat (0, 0)) (C.getD two.toNat (0, 0))).1, .bool (uniP fu true st (C.getD one.toNat (0, 0)) (C.getD two.toNat (0, 0))).1])) (hf : ho ∉ keptL fo rf q) (hg : ho ∉ keptL go rg q) {ρ : En}
    (r3 : ρ 3 = some (.obj fo)) (r4 : ρ 4 = some (.obj co)) (r6 : ρ 6 = some (.obj go)) (r9 : ρ 9 = some (.int one)) (r10 : ρ 10 = some (.int two)) (r11 : ρ 11 = some (.obj ho)) {Q : Fl → En → AH → Prop}
    (h1 : ∀ ρ' σ', Q (.ret (.bool true)) ρ' σ') (h2 : ∀ ρ' σ' st', LwO σ' fo go rf rg q jo lo co xs u st' st' tx fu C → LwI st' fu Bl C → (∀ i, i ≤ 8 → ρ' i = ρ i) → Q .next ρ' σ') : wSL P2 (callX P2 fns2 (m + 7)) lwTold ρ σ Q := by
  have ga := cell_gc J.g o0 o1
  have gb := cell_gc J.g t0 t1
  have hl := O.f.v.hl
  have k1 : ∀ {τ : AH}, τ[co]? = some (.list (C.map cV)) → itemAt τ (.obj co) (.int one) = some (cV (C.getD one.toNat (0, 0))) := fun e => cell_at hC o0 o1 e
  have k2 : ∀ {τ : AH}, τ[co]? = some (.list (C.map cV)) → itemAt τ (.obj co) (.int two) = some (cV (C.getD two.toNat (0, 0))) := fun e => cell_at hC t0 t1 e
  generalize C.getD one.toNat (0, 0) = a at ga k1 eh
  generalize C.getD two.toNat (0, 0) = b at gb k2 eh
  obtain ⟨y1, y2, y3, _⟩ := uni_T J hl ga gb false
  have X := told J.I hl ga gb J.ac
  have TL : st.T.length < 400000 := by rw [J.T]; decide
  refine c_loc (x_list (l_call (x_F (.cons (.loc r3) (.cons (.sub (.loc r4) (.loc r9) (k1 O.c)) (.cons (.sub (.loc r4) (.loc r10) (k2 O.c)) (.one .kbool)))) (unify_ok (m := m + 1) O.f J.I.F (J.I.U.cell ga) (J.I.U.cell gb) TL fun σ₁ W1 s1 => ?_))))
  have O1 := O.uf A W1 s1
  refine l_one (x_F (.cons (.loc r6) (.cons (.sub (.loc r4) (.loc r9) (k1 O1.c)) (.cons (.sub (.loc r4) (.loc r10) (k2 O1.c)) (.one .kbool)))) (unify_ok (m := m + 1) O1.g J.I.F (J.I.U.cell ga) (J.I.U.cell gb) TL fun σ₂ W2 s2 => ?_))
  have O2 := O1.ug A W2 s2
  have O3 := O2.stay0 (σ' := σ₂ ++ [AObj.list [.bool (uniP fu false st a b).1, .bool (uniP fu true st a b).1]]) (.app _)
  have eh3 := app_get (l := [AObj.list [.bool (uniP fu false st a b).1, .bool (uniP fu true st a b).1]]) (s2.get _ _ (fun h => hg (in3 h)) (s1.get _ _ (fun h => hf (in3 h)) eh))
  refine s_else (.cmp (.loc r11) (.loc rfl) (bools_ne eh3 snoc_get)) (lw_end (m := m) (ρ := ρ.put 12 (.obj σ₂.length)) O3.f O3.g.v X.f (X.gf a ga) (X.gf b gb) tl fl snoc_get (fun hm => Nat.lt_irrefl _ (O2.f.y.lt _ (List.mem_append_right [rf.sy, q.d] hm))) y1 X.no (fun h => ?_) (k1 O3.c) (fun σ' s => k2 (s.get _ _ nofun O3.c)) r3 r4 r6 r9 r10 rfl h1 fun eq ac ρ' σ' s er => ?_)
  · obtain ⟨e1, e2⟩ := X.yes h
    rw [e1]
    exact ⟨h, rfl, e2⟩
  · have O4 := O3.stay0 s
    rw [← eq] at O4
    exact h2 ρ' σ' _ O4 ⟨X.f, fun c hc => X.gf c (J.g c hc), ac, y1, y2, y3⟩ fun i hi => (er i (by exact Om347 hi)).trans (if_neg (by exact Om348 hi))

theorem lw_hope (A : LwA fo go rf rg q jo lo co) (O : LwO σ fo go rf rg q jo lo co xs u st st tx fu C) (J : LwI st fu Bl C) (tl : tx.length < 800) (fl : fu.length < 800) (hC : C.length < 100) {one two : Int} (o0 : 0 ≤ one) (o1 : one < C.length) (t0 : 0 ≤ two) (t1 : two < C.length) {ρ : En}
    (r3 : ρ 3 = some (.obj fo)) (r4 : ρ 4 = some (.obj co)) (r6 : ρ 6 = some (.obj go)) (r9 : ρ 9 = some (.int one)) (r10 : ρ 10 = some (.int two)) {Q : Fl → En → AH → Prop}
    (h1 : ∀ ρ' σ', Q (.ret (.bool true)) ρ' σ') (h2 : ∀ ρ' σ' st', LwO σ' fo go rf rg q jo lo co xs u st' st' tx fu C → LwI st' fu Bl C → (∀ i, i ≤ 8 → ρ' i = ρ i) → Q .next ρ' σ') : wSL P2 (callX P2 fns2 (m + 7)) lwHope ρ σ Q := by
  have ga := J.I.U.cell (cell_gc J.g o0 o1)
  have gb := J.I.U.cell (cell_gc J.g t0 t1)
  have TL : st.T.length < 400000 := by rw [J.T]; decide
  have k1 := fun {τ : AH} (e : τ[co]? = some (.list (C.map cV))) => cell_at hC o0 o1 e
  have k2 := fun {τ : AH} (e : τ[co]? = some (.list (C.map cV))) => cell_at hC t0 t1 e
  refine c_loc (x_list (l_call (x_F (.cons (.loc r3) (.cons (.sub (.loc r4) (.loc r9) (k1 O.c)) (.cons (.sub (.loc r4) (.loc r10) (k2 O.c)) (.one .kbool)))) (trial_ok (m := m) O.f J.I.F ga gb TL fun σ₁ W1 s1 => ?_))))
  have O1 := O.stay0 s1
  refine l_one (x_F (.cons (.loc r6) (.cons (.sub (.loc r4) (.loc r9) (k1 O1.c)) (.cons (.sub (.loc r4) (.loc r10) (k2 O1.c)) (.one .kbool)))) (trial_ok (m := m) O1.g J.I.F ga gb TL fun σ₂ W2 s2 => ?_))
  have O2 := O1.stay0 s2
  exact lw_told (ρ := ρ.put 11 (.obj σ₂.length)) A (O2.stay0 (.app _)) J tl fl hC o0 o1 t0 t1 snoc_get (above_kept O2.f (Nat.le_refl _)) (above_kept O2.g (Nat.le_refl _)) r3 r4 r6 r9 r10 rfl h1 fun ρ' σ' st' a b er => h2 ρ' σ' st' a b fun i hi => (er i hi).trans (if_neg (by exact Om349 hi))

theorem lw_turn (A : LwA fo go rf rg q jo lo co) (O : LwO σ fo go rf rg q jo lo co xs u st st tx fu C) (J : LwI st fu Bl C) (tl : tx.length < 800) (fl : fu.length < 800) (hC : C.length < 100) (hp : 0 < C.length) {ρ : En}
    (r1 : ρ 1 = some (.obj jo)) (r3 : ρ 3 = some (.obj fo)) (r4 : ρ 4 = some (.obj co)) (r6 : ρ 6 = some (.obj go)) {Q : Fl → En → AH → Prop}
    (h1 : ∀ ρ' σ', Q (.ret (.bool true)) ρ' σ') (h2 : ∀ ρ' σ' u' st', LwO σ' fo go rf rg q jo lo co xs u' st' st' tx fu C → LwI st' fu Bl C → (∀ i, i ≤ 8 → ρ' i = ρ i) → Q .next ρ' σ') : wSL P2 (callX P2 fns2 (m + 7)) lwBody ρ σ Q := by
  have len : ∀ {τ : AH}, τ[co]? = some (.list (C.map cV)) → bltV τ 0 [.obj co] = some (.int (C.length : Int), τ) := fun e => by
    rw [list_len e (by rw [List.length_map]; exact Om350 hC hp), List.length_map]
  have hp' : (0 : Int) < C.length := Int.natCast_pos.mpr hp
  have hc' : (C.length : Int) < 2 ^ 100 := Int.lt_trans (Int.ofNat_lt.mpr hC) (by decide)
  have pr := fun u : Int × Nat => pick_range (xs := xs) (u := u) (k := (C.length : Int)) hp'
  refine c_loc (x_F (.cons (.loc r1) (.one (.blt (.one (.loc r4)) (len O.c)))) (pick_ok (m := m + 6) O.j hp' hc' fun σ₁ j1 s1 l1 => ?_))
  have O1 := O.urn A j1 s1
  refine c_loc (x_F (.cons (.loc r1) (.one (.blt (.one (.loc r4)) (len O1.c)))) (pick_ok (m := m + 6) O1.j hp' hc' fun σ₂ j2 s2 l2 => ?_))
  have O2 := O1.urn A j2 s2
  exact lw_hope (m := m) (ρ := (ρ.put 9 _).put 10 _) A O2 J tl fl hC (pr u).1 (pr u).2 (pr (pickP xs u C.length).2).1 (pr (pickP xs u C.length).2).2 r3 r4 r6 rfl rfl h1 fun ρ' σ' st' a b er => h2 ρ' σ' _ st' a b fun i hi => (er i hi).trans ((if_neg (by exact Om351 hi)).trans (if_neg (by exact Om352 hi)))

theorem lw_loop (A : LwA fo go rf rg q jo lo co) (tl : tx.length < 800) (fl : fu.length < 800) (hC : C.length < 100) (hp : 0 < C.length) {all : List V} {Q : Fl → En → AH → Prop} (h1 : ∀ ρ' σ', Q (.ret (.bool true)) ρ' σ') (h2 : ∀ ρ' σ', Q .next ρ' σ') : ∀ (k : Nat) (j : Int) (u : Int × Nat) (st : St) (σ : AH) (ρ : En), LwO σ fo go rf rg q jo lo co xs u st st tx fu C → LwI st fu Bl C →
    ρ 1 = some (.obj jo) → ρ 3 = some (.obj fo) → ρ 4 = some (.obj co) → ρ 6 = some (.obj go) → forGo all .range (wT P2 (callX P2 fns2 (m + 7)) (.loc 8)) (wSL P2 (callX P2 fns2 (m + 7)) lwBody) (upFrom j 1 k) ρ σ Q
  | 0, j, u, st, σ, ρ, O, J, r1, r3, r4, r6 => f_end (h2 ρ σ)
  | k + 1, j, u, st, σ, ρ, O, J, r1, r3, r4, r6 => f_go (lw_turn (ρ := ρ.put 8 (.int j)) A O J tl fl hC hp r1 r3 r4 r6 (fun ρ' σ' => h1 ρ' σ') fun ρ' σ' u' st' O' J' er => lw_loop A tl fl hC hp h1 h2 k (j + 1) u' st' σ' ρ' O' J' ((er 1 (by decide)).trans r1) ((er 3 (by decide)).trans r3) ((er 4 (by decide)).trans r4) ((er 6 (by decide)).trans r6))
end

end Mine
end

/-! D35 -/
noncomputable section
set_option maxHeartbeats 200000
open PySem
namespace Mine

section
variable {m : Nat} {σ σ' : AH} {sy so : Nat} {r : Rc} {st : St} {q : Rs} {tx tx' : List PySem.Str} {fu fu' : List (Int × Int)} {Bl : List Cell} {xs : List Int}

/-- another store works on, over the same book -/
theorem new_store {i : Nat} {ρ : En} {ss : SL} {Q : Fl → En → AH → Prop} (y : SyView σ sy q tx fu) (hpos : 0 < σ.length) (r2 : ρ 2 = some (.obj sy))
    (h : ∀ σ' so r, Wd σ' so r st0 q tx fu → r.sy = sy → (∀ i ∈ [so, r.d, r.h, r.s, r.t], σ.length ≤ i) → Stay [] σ σ' → wSL P2 (callX P2 fns2 (m + 1)) ss (ρ.put i (.obj so)) σ' Q) : wSL P2 (callX P2 fns2 (m + 1)) (.cons (.assign (.loc i) (.new 2 (.cons (.loc 2) .nil))) ss) ρ σ Q := by
  have l1 : (σ ++ [AObj.ns []]).length = σ.length + 1 := by rw [List.length_append]; rfl
  have g1 : (σ ++ [AObj.ns []] ++ [AObj.inst 2 σ.length])[σ.length + 1]? = some (.inst 2 σ.length) := by rw [← l1]; exact snoc_get
  have g2 : (σ ++ [AObj.ns []] ++ [AObj.inst 2 σ.length])[σ.length]? = some (.ns []) := app_get snoc_get
  have s0 : Stay [] σ (σ ++ [AObj.ns []] ++ [AObj.inst 2 σ.length]) := (Stay.app _).trans (.app _)
  refine c_loc (x_new (.one (.loc r2)) (show P2.init 2 = some 11 from rfl) (cells_init (sy := sy) g1 g2 (Nat.lt_of_lt_of_le hpos s0.len) fun σ₁ r v ed es far s1 => ⟨rfl, ?_⟩))
  have s2 : Stay [] σ σ₁ := (s0.nil.trans s1).strong (on1' (P := fun i => i ∈ [] ∨ σ.length ≤ i) (.inr (Nat.le_refl _)))
  have far' : ∀ i ∈ [r.h, r.s, r.t], σ.length ≤ i := fun i hi => Nat.le_trans s0.len (far i hi).1
  subst es
  refine h σ₁ (σ.length + 1) r ⟨v, y.same s2 nofun, fun i hi hm => ?_⟩ rfl (List.forall_mem_cons.mpr ⟨Nat.le_succ _, List.forall_mem_cons.mpr ⟨Nat.le_of_eq ed.symm, far'⟩⟩) s2
  have h2 := y.lt i ((List.mem_cons.mp hm).elim (fun e => e ▸ .tail _ (.tail _ (.head _))) fun e => List.mem_singleton.mp e ▸ .tail _ (.tail _ (.tail _ (.tail _ (.head _)))))
  exact Nat.not_lt_of_le (far' i hi) h2

theorem new_urn {ρ : En} (e : σ[0]? = some (.list (xs.map .int))) (hx : xs.length < 1000) (r0 : ρ 0 = some (.obj 0)) : ∃ σ' jo, Ev ρ σ (.list (.cons (.kint 0) (.cons (.slTo (.loc 0) 60) (.cons (.kint 0) .nil)))) (.obj jo) σ' ∧ UrnV σ' jo σ.length (xs.take 60) (0, 0) ∧ σ.length ≤ jo ∧ Stay [] σ σ' := by
  have h6 : (xs.map V.int).length < 1000000 := by rw [List.length_map]; exact Om77 hx
  have hpos := lt_of_get e
  have ev : Ev ρ σ (.list (.cons (.kint 0) (.cons (.slTo (.loc 0) 60) (.cons (.kint 0) .nil)))) _ _ := .list (.cons .kint (.cons (.slTo (.loc r0) (list_at e) h6) (.one .kint)))
  have l1 : σ.length ≤ (σ ++ [AObj.list ((xs.map V.int).take 60)]).length := by rw [List.length_append]; exact Nat.le_add_right ..
  refine ⟨_, _, ev, ⟨snoc_get, ?_, Nat.ne_of_gt (Nat.lt_of_lt_of_le hpos l1), by rw [List.length_take]; omega⟩, l1, (Stay.app _).trans (.app _)⟩
  rw [List.map_take]; exact app_get snoc_get

theorem SInv.nil (I : SInv st fu []) : SInv st fu' [] := by
  have nc : ∀ (a : Nat) (c : Cell), st.H[a]? = some c → c.1 ≠ 2 ∧ c.1 ≠ 3 := fun a c e => by
    by_cases h6 : c.1 = 6
    · exact Om353 h6
    · rcases I.U.gc a c e h6 with ⟨h, _⟩ | h | h | h
      · exact Om354 h
      · exact Om355 h
      · exact Om356 h
      · cases h
  refine ⟨⟨I.F.wf, fun a c e => ⟨fun z => absurd z (nc a c e).1, fun z => absurd z (nc a c e).2⟩, fun a c e => ?_⟩, ⟨I.U.gc, fun _ h => (nomatch h), I.U.inj, I.U.cmp, I.U.len, fun _ h => (nomatch h), fun _ h => (nomatch h)⟩, I.S⟩
  rw [I.S] at e; simp at e
theorem ThI.lw {t : Ts} (H : ThI t Bl) : LwI t.st (bk t.b).2 Bl t.C := by
  cases hb : t.b with
  | true => exact ⟨H.I, H.g, H.d.acyc H.I, H.T, H.hb, H.bb⟩
  | false =>
    have := H.nb hb
    subst this
    exact ⟨H.I.nil, H.g, ⟨fun _ => 0, fun _ h => (nomatch h)⟩, H.T, H.hb, H.bb⟩

noncomputable def lwFor : S := .for_ (.loc 8) (.blt 1 (.cons (.bin .add (.kint 1) (.callF 39 (.cons (.loc 1) (.cons (.kint 3) .nil)))) .nil)) lwBody
noncomputable def lwRest : SL := (.cons (.ite (.boolop false (.cons (.cmp .ne (.loc 7) (.loc 4)) (.cons (.cmp .ne (.attr (.loc 6) 6) (.attr (.loc 3) 6)) .nil))) (.cons (.ret (.kbool false)) .nil) .nil) (.cons lwFor (.cons (.ret (.kbool true)) .nil)))
variable {fo go jo lo co co' : Nat} {rf rg : Rc} {C : List Cell} {u : Int × Nat}
theorem lw_rest (A : LwA fo go rf rg q jo lo co) (O : LwO σ fo go rf rg q jo lo co xs u st st tx fu C) (J : LwI st fu Bl C) (tl : tx.length < 800) (fl : fu.length < 800) (hC : C.length < 100) (hp : 0 < C.length) (e7 : σ[co']? = some (.list (C.map cV))) {ρ : En}
    (r1 : ρ 1 = some (.obj jo)) (r3 : ρ 3 = some (.obj fo)) (r4 : ρ 4 = some (.obj co)) (r6 : ρ 6 = some (.obj go)) (r7 : ρ 7 = some (.obj co')) {Q : Fl → En → AH → Prop} (h : ∀ ρ' σ', Q (.ret (.bool true)) ρ' σ') : wSL P2 (callX P2 fns2 (m + 7)) lwRest ρ σ Q := by
  have pr := pick_range (xs := xs) (u := u) (k := 3) (by decide)
  have hb : binV .add (.int 1) (.int (pickP xs u 3).1) = some (.int (((1 + (pickP xs u 3).1).toNat : Nat) : Int)) := by
    rw [Int.toNat_of_nonneg (by exact Om357 pr)]; rfl
  exact s_else (.bool (.go (.cmp (.loc r7) (.loc r4) (cells_ne e7 O.c)) (.one (.cmp (.attr (.loc r6) O.g.v.a6) (.attr (.loc r3) O.f.v.a6) (cells_ne O.g.v.h O.f.v.h))))) (s_range (l_one (x_bin .kint (x_F (.cons (.loc r1) (.one .kint)) (pick_ok (m := m + 6) O.j (by decide) (by decide) fun σ₁ j1 s1 l1 => bn_ok hb (rg_ok (range1 (by exact Om358 pr)) (lw_loop (Q := fun f ρ' σ' => match f with | .next => wSL P2 (callX P2 fns2 (m + 7)) (.cons (.ret (.kbool true)) .nil) ρ' σ' Q | f => Q f ρ' σ') A tl fl hC hp (fun ρ' σ' => h ρ' σ') (fun ρ' σ' => s_ret .kbool (h ρ' σ')) _ 0 _ st σ₁ ρ (O.urn A j1 s1) J r1 r3 r4 r6)))))))
end

end Mine
end

/-! D36 -/
noncomputable section
set_option maxHeartbeats 200000
open PySem
namespace Mine

noncomputable def lwUrn : E := .list (.cons (.kint 0) (.cons (.slTo (.loc 0) 60) (.cons (.kint 0) .nil)))
theorem law_split : f_law.body = .cons (.assign (.loc 1) lwUrn) (.cons (.assign (.loc 2) (.new 0 .nil)) (.cons (.assign (.loc 3) (.new 2 (.cons (.loc 2) .nil))) (.cons (.assign (.tup [4, 5]) (.callF 40 (.cons (.loc 1) (.cons (.loc 3) (.cons (.loc 2) (.cons (.kint 6) .nil)))))) (.cons (.assign (.loc 6) (.new 2 (.cons (.loc 2) .nil))) (.cons (.assign (.tup [7, 5]) (.callF 40 (.cons lwUrn (.cons (.loc 6) (.cons (.loc 2) (.cons (.kint 6) .nil)))))) lwRest))))) := rfl
theorem put2 {a b : V} {i j : Nat} {ρ : En} : putAll [i, j] [a, b] ρ = some ((ρ.put i a).put j b) := rfl
theorem in6 {r : Rc} {so i : Nat} {q : Rs} (h : i ∈ keptL so r q) : i ∈ [so, r.d, r.h, r.s, r.t] ∨ i ∈ [r.sy, q.d, q.tx, q.an, q.fu, q.fn] := List.mem_append.mp (show i ∈ [so, r.d, r.h, r.s, r.t] ++ [r.sy, q.d, q.tx, q.an, q.fu, q.fn] from h)

section
variable {m : Nat} {xs : List Int} {Q : Fl → En → AH → Prop}
/-- the second store is made, and all is compared -/
theorem law_two {σ : AH} {fo jo lo co : Nat} {rf : Rc} {q : Rs} {Bl : List Cell} {n1 : Nat} (H : ThI (thingsP (xs.take 60) (0, 0) false) Bl) (hC : 3 ≤ (thingsP (xs.take 60) (0, 0) false).C.length) (hC2 : (thingsP (xs.take 60) (0, 0) false).C.length ≤ 8)
    (W : Wd σ fo rf (thingsP (xs.take 60) (0, 0) false).st q (bk (thingsP (xs.take 60) (0, 0) false).b).1 (bk (thingsP (xs.take 60) (0, 0) false).b).2) (j : UrnV σ jo lo (xs.take 60) (thingsP (xs.take 60) (0, 0) false).u) (c : σ[co]? = some (.list ((thingsP (xs.take 60) (0, 0) false).C.map cV))) (e : σ[0]? = some (.list (xs.map .int))) (hx : xs.length < 1000)
    (hjo : jo < n1) (hlo : lo < n1) (hco : co ∉ keptL fo rf q) (hnc : n1 ≤ co) (hlow : ∀ i ∈ keptL fo rf q, n1 ≤ i) {ρ : En} (r0 : ρ 0 = some (.obj 0)) (r1 : ρ 1 = some (.obj jo)) (r2 : ρ 2 = some (.obj rf.sy)) (r3 : ρ 3 = some (.obj fo)) (r4 : ρ 4 = some (.obj co)) (h : ∀ ρ' σ', Q (.ret (.bool true)) ρ' σ') :
    wSL P2 (callX P2 fns2 (m + 7)) (.cons (.assign (.loc 6) (.new 2 (.cons (.loc 2) .nil))) (.cons (.assign (.tup [7, 5]) (.callF 40 (.cons lwUrn (.cons (.loc 6) (.cons (.loc 2) (.cons (.kint 6) .nil)))))) lwRest)) ρ σ Q := by
  have twice : thingsP (xs.take 60) (0, 0) (thingsP (xs.take 60) (0, 0) false).b = thingsP (xs.take 60) (0, 0) false := things_twice _ _ _ _ _ _
  have J := H.lw
  have bl := bk_len (thingsP (xs.take 60) (0, 0) false).b
  generalize thingsP (xs.take 60) (0, 0) false = T at H hC hC2 W j c twice J bl
  refine new_store (m := m + 6) W.y (lt_of_get e) r2 fun σ₁ go rg Wg es far s1 => ?_
  obtain ⟨σ₂, jo', ev, j2, hj', s2⟩ := new_urn (ρ := ρ.put 6 (.obj go)) (s1.get _ _ nofun e) hx r0
  have s12 := s1.trans s2
  have W2 := W.nil s12
  have c2 := s12.get _ _ nofun c
  have ja2 := j.same s12 nofun nofun
  refine c_tup (x_F (.cons ev (.cons (.loc rfl) (.cons (.loc (r2.trans (congrArg (fun n => some (V.obj n)) es.symm))) (.one .kint)))) (things_ok (m := m + 3) (b := T.b) (Wg.nil s2) j2 (above_kept Wg hj') (above_kept Wg (Nat.le_refl _)) fun σ₃ co' no' Bl' H' _ _ W3 j3 c3 hc3 s3 => ?_))
  rw [twice] at W3 c3
  have fa := kept_lt W
  have hs1 := s1.len
  have oldn : ∀ {i : Nat}, i < σ.length → i ∉ syL q → i ∉ jo' :: rg.h :: syL q := fun {i} hi hs hm => by
    rcases List.mem_cons.mp hm with z | hm
    · exact Om359 hj' hs1 hi z
    · rcases List.mem_cons.mp hm with z | hm
      · have := far rg.h (.tail _ (.tail _ (.head _))); exact Om360 hi z this
      · exact hs hm
  have nlow : ∀ {i : Nat}, i < n1 → i ∉ syL q := fun hi hm => Nat.not_lt_of_le (hlow _ (sy_kept hm)) hi
  have five : ∀ i ∈ [fo, rf.d, rf.h, rf.s, rf.t], i ∈ keptL fo rf q := fun i hi => List.mem_append_left [rf.sy, q.d, q.tx, q.an, q.fu, q.fn] hi
  have Wf3 : Wd σ₃ fo rf T.st q (bk T.b).1 (bk T.b).2 := W2.other s3 (fun i hi => oldn (fa i (five i hi)) (W.nsy i hi)) (by rw [← es]; exact W3.y)
  have jf3 := ja2.same s3 (oldn (lt_of_get j.j) (nlow hjo)) (oldn (lt_of_get j.l) (nlow hlo))
  have cf3 := s3.get _ _ (oldn (lt_of_get c) fun hm => hco (sy_kept hm)) c2
  have hcl := lt_of_get c
  have hjl := lt_of_get j.j
  have hll := lt_of_get j.l
  have off : ∀ {i}, i < σ.length → i ∉ [rf.sy, q.d, q.tx, q.an, q.fu, q.fn] → i ∉ keptL go rg q := fun hi hn hm => (in6 hm).elim (fun hm => Nat.not_lt_of_le (far _ hm) hi) fun hm => by rw [es] at hm; exact hn hm
  have low6 : ∀ {i}, i < n1 → i ∉ [rf.sy, q.d, q.tx, q.an, q.fu, q.fn] := fun hi hm => Nat.not_lt_of_le (hlow _ (List.mem_append_right [fo, rf.d, rf.h, rf.s, rf.t] hm)) hi
  have A : LwA fo go rf rg q jo lo co :=
    ⟨List.forall_mem_cons.mpr ⟨fun hm => Nat.not_lt_of_le (hlow _ hm) hjo, List.forall_mem_cons.mpr ⟨fun hm => Nat.not_lt_of_le (hlow _ hm) hlo, on1 hco⟩⟩,
     List.forall_mem_cons.mpr ⟨off hjl (low6 hjo), List.forall_mem_cons.mpr ⟨off hll (low6 hlo), on1 (off hcl fun hm => hco (List.mem_append_right [fo, rf.d, rf.h, rf.s, rf.t] hm))⟩⟩,
     fun i hi => off (fa i (in3 hi)) (W.off i hi), fun i hi hm => Nat.not_lt_of_le (far i (.tail _ (.tail _ hi))) (fa i hm), by exact Om361 hjo hnc⟩
  exact t_tup put2 (lw_rest (m := m) (ρ := ((ρ.put 6 _).put 7 _).put 5 _) A ⟨Wf3, W3, jf3, cf3⟩ J (by exact Om362 bl) (by exact Om363 bl) (by exact Om364 hC hC2) (by exact Om365 hC hC2) c3 r1 r3 r4 rfl rfl h)
end

theorem law_ok {m : Nat} {σ : AH} {xs : List Int} (e : σ[0]? = some (.list (xs.map .int))) (hx : xs.length < 1000) {Q : V → AH → Prop} (h : ∀ σ', Q (.bool true) σ') : callN P2 fns2 (m + 8) 42 [.obj 0] σ Q := by
  obtain ⟨σ₁, jo, ev, j1, hjo, s1⟩ := new_urn (ρ := bindE 0 [.obj 0]) e hx rfl
  have e1 := s1.get _ _ nofun e
  have hpos := lt_of_get e1
  have l1 : (σ₁ ++ [AObj.ns []]).length = σ₁.length + 1 := by rw [List.length_append]; rfl
  have g1 : (σ₁ ++ [AObj.ns []] ++ [AObj.inst 0 σ₁.length])[σ₁.length + 1]? = some (.inst 0 σ₁.length) := by rw [← l1]; exact snoc_get
  have g2 : (σ₁ ++ [AObj.ns []] ++ [AObj.inst 0 σ₁.length])[σ₁.length]? = some (.ns []) := app_get snoc_get
  have s0 : Stay [] σ₁ (σ₁ ++ [AObj.ns []] ++ [AObj.inst 0 σ₁.length]) := (Stay.app _).trans (.app _)
  refine call_of (fn := f_law) rfl rfl ?_
  rw [law_split]
  refine s_loc ev (c_loc (x_new .nil (show P2.init 0 = some 2 from rfl) (symbols_init (m := m + 4) g1 g2 (Nat.lt_of_lt_of_le hpos s0.len) fun σ₂ q y ed far s2 => ⟨rfl, ?_⟩)))
  have y : SyView σ₂ (σ₁.length + 1) q (bk false).1 (bk false).2 := y
  have s12 : Stay [] σ₁ σ₂ := (s0.nil.trans s2).strong (on1' (P := fun i => i ∈ [] ∨ σ₁.length ≤ i) (.inr (Nat.le_refl _)))
  have e2 := s12.get _ _ nofun e1
  have ylow : ∀ i ∈ [σ₁.length + 1, q.d, q.tx, q.an, q.fu, q.fn], σ₁.length ≤ i := List.forall_mem_cons.mpr ⟨Nat.le_succ _, List.forall_mem_cons.mpr ⟨Nat.le_of_eq ed.symm, fun i hi => Nat.le_trans s0.len (far i hi).1⟩⟩
  refine new_store (m := m + 6) y (lt_of_get e2) rfl fun σ₃ fo rf W es far3 s3 => ?_
  have s13 := s12.trans s3
  have j3 := j1.same s13 nofun nofun
  have l12 := s12.len
  have low : ∀ i ∈ keptL fo rf q, σ₁.length ≤ i := fun i hi => (in6 hi).elim (fun hi => Nat.le_trans l12 (far3 i hi)) fun hi => by rw [es] at hi; exact ylow i hi
  have hjl := lt_of_get j1.j
  have hll := lt_of_get j1.l
  refine c_tup (x_F (.cons (.loc rfl) (.cons (.loc rfl) (.cons (.loc (congrArg (fun n => some (V.obj n)) es.symm)) (.one .kint)))) (things_ok (m := m + 3) (b := false) W j3 (fun hm => Nat.not_lt_of_le (low _ hm) hjl) (fun hm => Nat.not_lt_of_le (low _ hm) hll) fun σ₄ co no Bl H hC hC2 W4 j4 c4 hco s4 => ?_))
  have hz : 0 ∉ jo :: rf.h :: syL q := fun hm => by
    have hp1 := lt_of_get e
    rcases List.mem_cons.mp hm with z | hm
    · exact Om366 hjo hp1 z
    · exact absurd (low 0 ((List.mem_cons.mp hm).elim (fun z => z ▸ .tail _ (.tail _ (.head _))) sy_kept)) (Nat.not_le_of_lt hpos)
  exact t_tup put2 (law_two (m := m) (n1 := σ₁.length) (ρ := (((((bindE 0 [.obj 0]).put 1 _).put 2 _).put 3 _).put 4 _).put 5 _) H hC hC2 W4 j4 c4 (s4.get _ _ hz (s3.get _ _ nofun e2)) hx hjl hll (above_kept W hco) (Nat.le_trans (Nat.le_trans l12 s3.len) hco) low rfl rfl (congrArg (fun n => some (V.obj n)) es.symm) rfl rfl fun ρ' σ' => h σ')

end Mine
end

/-! K2 -/
noncomputable section
set_option maxHeartbeats 0
open PyProof.Rows PySem PySem.W
namespace Mine

theorem ints_shape {R : WRecords} : ∀ {ds : List WData}, WShape.hasItems R ds .int = true → ∃ xs : List Int, ds = xs.map .int
  | [], _ => ⟨[], rfl⟩
  | d :: ds, h => by
    simp only [WShape.hasItems, Bool.and_eq_true] at h
    obtain ⟨i, rfl⟩ := hasW_int h.1
    obtain ⟨xs, rfl⟩ := ints_shape h.2
    exact ⟨i :: xs, rfl⟩
theorem args_shape {R : WRecords} {args : List WData} (h : WShape.hasAll R args [.list .int] = true) : ∃ xs : List Int, args = [.list (xs.map .int)] := by
  obtain ⟨d, r, rfl, h1, h2⟩ := hasAllW_cons h
  obtain rfl := hasAllW_nil h2
  obtain ⟨ds, rfl, h3⟩ := hasW_list h1
  obtain ⟨xs, rfl⟩ := ints_shape h3
  exact ⟨xs, rfl⟩
theorem well_ints {P : Params} {h : Heap} {φ : List Addr} : ∀ {xs : List Int} {vs : List Value}, WellAll P h vs (xs.map .int) → RelL h φ (xs.map V.int) vs
  | [], vs, w => by cases w; rfl
  | x :: xs, vs, w => by
    cases w with
    | cons a b =>
      cases a with
      | int i t => exact RelL.cons ⟨t, rfl⟩ (well_ints b)
theorem well_list {P : Params} {h : Heap} {vals : List Value} {xs : List Int} (w : WellAll P h vals [.list (xs.map .int)]) : ∃ b ws n, vals = [.ref b] ∧ h.get? b = some (listOf ws n) ∧ ∀ φ, RelL h φ (xs.map V.int) ws.toList := by
  cases w with
  | cons a b =>
    cases b
    cases a with
    | list e r => exact ⟨_, _, _, rfl, e, fun φ => by simpa using well_ints r⟩
theorem most_of {R : WRecords} {xs : List Int} {n : Nat} (h : WTm.holds R (.and (.not (.lt (.lit (.int n)) (.len (.arg 0)))) (.lit (.bool true))) { args := [.list (xs.map .int)] } = true) : xs.length ≤ n := by
  have h := (holds_andW h).1
  unfold WTm.holds at h
  simp [WTm.value] at h
  have e : less? (WData.int (n : Int)) (WData.int (xs.length : Int)) = some (decide ((n : Int) < xs.length)) := rfl
  rw [e] at h
  by_cases q : (n : Int) < xs.length
  · rw [decide_eq_true q] at h
    exact absurd h (by decide)
  · exact Om367 q
theorem callerA_ok : AOk callerA 16 := ⟨rfl, by decide +kernel, by decide +kernel⟩
theorem walk1 {w : World} {K : Frag} {s : Shared} {b : Addr} {ws : Array Value} {n : Nat} {xs : List Int} {R : Value → Shared → Prop} {E : Value → Shared → Prop} {prog : Program} (hK : K.In s.heap) (g : good K = true) (lim : s.heap.NoLimit) (hb : s.heap.get? b = some (listOf ws n)) (hr : RelL s.heap [b] (xs.map V.int) ws.toList) (hx : xs.length < 1000)
    (h : ∀ s', (∀ c o, s.heap.get? c = some o → s'.heap.get? c = some o) → s'.gens = s.gens → s'.os = s.os → R (.bool true) s') : wpAny (model prog w) callerA (call (.ref (faddr1 42)) [.ref b]) R E s := by
  have hG : GloOk (G2 prog w K s.heap) := gloOk2 hK g lim
  have hcf := simCf hG (fnOk2 hK g) 8
  have ok : Ok (G2 prog w K s.heap).C [b] [AObj.list (xs.map V.int)] s.heap :=
    { len := rfl
      nd := by simp
      new := fun i a hi e => by
        cases i with
        | zero => exact absurd rfl hi
        | succ k => simp at e
      zero := ⟨_, rfl⟩
      base := fun _ _ e => e
      obj := fun i o e => by
        cases i with
        | zero => cases e; exact ⟨b, rfl, ws, n, hb, hr⟩
        | succ k => simp at e }
  have rr : RelL s.heap [b] [V.obj 0] [.ref b] := RelL.cons ⟨b, rfl, rfl⟩ RelL.nil
  have q := law_ok (m := 0) (σ := [AObj.list (xs.map V.int)]) (xs := xs) rfl hx (Q := fun v _ => v = .bool true) (fun _ => rfl)
  refine wpAny_mono (call_cf (E := NR) hcf callerA_ok (fs := []) rfl (fun _ m => nomatch m) q ok rr fun e s' p => p.no) (fun v s' p => ?_) fun e s' p => p.elim
  obtain ⟨φ', σ', v', x1, x2, x3, x4, x5, x6⟩ := p
  subst x4
  have x3 : v = .bool true := x3
  subst x3
  exact h s' x2.base x5 x6

end Mine
end

/-! B7 -/
noncomputable section
set_option maxHeartbeats 0
open PyProof.Rows PySem PySem.W
namespace Mine
noncomputable def topRunT (tb : String → Option Builtin) (p : Program) (w : World) (n₀ : Nat) (ann : Option Value) : Nat → SharedT → Thread → Option SharedT
  | 0, _, _ => none
  | n + 1, s, t => match through t with
    | true => some s
    | false => match stepOk n₀ ann t with
      | false => none
      | true => match stepT (denote tb) p w s t with
        | some (s', t') => topRunT tb p w n₀ ann n s' t'
        | none => none
theorem topRun_of {tb : String → Option Builtin} {p : Program} {w : World} {n₀ : Nat} {ann : Option Value} : ∀ {n : Nat} {s s' : SharedT} {t : Thread},
    topRunT tb p w n₀ ann n s t = some s' → topRun tb p w n₀ ann n s.abs t = some s'.abs
  | 0, _, _, _, h => by cases h
  | n + 1, s, s', t, h => by
    unfold topRunT at h
    unfold topRun
    cases ht : through t with
    | true => rw [ht] at h; cases h; rfl
    | false =>
      rw [ht] at h
      cases hk : stepOk n₀ ann t with
      | false => rw [hk] at h; cases h
      | true =>
        rw [hk] at h
        cases hs : stepT (denote tb) p w s t with
        | none => rw [hs] at h; cases h
        | some r => obtain ⟨s₂, t₂⟩ := r; rw [hs] at h; rw [stepT_spec hs]; exact topRun_of h
noncomputable def treeGo : Nat → List Obj → BT → BT
  | _, [], t => t
  | i, o :: r, t => treeGo (i + 1) r (t.ins i o)
noncomputable def treeOf (l : List Obj) : BT := treeGo 0 l .nil

noncomputable def bootT (P : Params) : BT := treeOf (boot_heap P).objs.toList
theorem boot_abs (P : Params) : absHeap (bootT P) 11 (boot_heap P).life = boot_heap P := by kernel_rfl!

theorem leftO_of_run {p q : Program} {loose : List Str} {Xt : Shared → Bool} {α : Type} {Yf : Shared → α} {Ya : World → α} {N M m₀ : Nat} {ann : Option Value}
    (e : opening p = plainProg p.main.scope.names) (hN : Nat.ble 600 N = true) (f : ∀ s, fenceModules? p s = some s)
    (size : ∀ P : Params, ((boot_heap P).isNs mainGlobals, (boot_heap P).objs.size, (boot_heap P).nsMap mainGlobals "__annotations__") = (true, m₀, ann)) (le : Nat.ble M N = true)
    (run : ∀ (w : World) (os : OsState), (topRunT treeTable p w m₀ ann M ⟨bootT w.params, 11, (boot_heap w.params).life, Array.mk [], boot_drawn, boot_toks, os⟩ (topStub p)).map (fun t =>
        (staticsOk (importedModules p.main.body) (boot_heap w.params) t.abs.heap && namesBound p t.abs.heap && gensDone t.abs && laidKept (boot_heap w.params) t.abs.heap,
          openSeen q loose (importedModules p.main.body) Xt true t.abs, Yf t.abs)) = some (true, openGood q loose, Ya w)) : LeftO p q loose Xt Yf Ya N := fun w => by
  obtain ⟨⟨h, gs, d, k, os⟩, e1, e2⟩ := Option.map_eq_some_iff.mp (boot_open e hN f w)
  obtain ⟨rfl, rfl, rfl, rfl⟩ : h = boot_heap w.params ∧ gs = Array.mk [] ∧ d = boot_drawn ∧ k = boot_toks := by simpa using e2
  obtain ⟨t, r1, r2⟩ := Option.map_eq_some_iff.mp (run w os)
  obtain ⟨l1, l2, l3⟩ : _ ∧ _ ∧ _ := by simpa only [Prod.mk.injEq] using r2
  obtain ⟨z1, z2, z3⟩ : _ ∧ _ ∧ _ := by simpa only [Prod.mk.injEq] using size w.params
  have r := topRun_of r1
  have ea : (SharedT.abs ⟨bootT w.params, 11, (boot_heap w.params).life, Array.mk [], boot_drawn, boot_toks, os⟩) = ⟨boot_heap w.params, Array.mk [], boot_drawn, boot_toks, os⟩ := by
    unfold SharedT.abs
    rw [boot_abs]
  rw [ea] at r
  have r := topRun_mono (N - M) _ _ _ _ r
  rw [show M + (N - M) = N by have := Nat.le_of_ble_eq_true le; exact Om368 this] at r
  have tt : topFrom treeTable p w N ⟨boot_heap w.params, Array.mk [], boot_drawn, boot_toks, os⟩ = some t.abs := by
    unfold topFrom
    dsimp only
    rw [z1, z2, z3, r]
    show (match staticsOk (importedModules p.main.body) (boot_heap w.params) t.abs.heap && namesBound p t.abs.heap && gensDone t.abs && laidKept (boot_heap w.params) t.abs.heap with | true => _ | false => _) = _
    rw [l1]
  unfold openEnds
  rw [e1]
  show (topFrom treeTable p w N _).map _ = _
  rw [tt]
  exact congrArg some (Prod.ext l2 l3)

noncomputable def vw : Program := view PySem.Challenge.pw_rr0026_02 [41]
noncomputable def lnames : List PySem.Str := (["_wall", "ClausemillError", "PrologError", "A_NIL", "A_SYSTEM", "F_DOT", "F_ERROR", "fixed_atoms", "fixed_functors",
  "Symbols", "system_error", "formal_of", "resource_error", "REF", "SRF", "STR", "LIS", "CON", "INT", "FUN", "VISIT", "BUILD",
  "Cells", "Store", "PairSet", "push_arguments", "push_pairs", "same_shape", "is_variable", "unify", "bind_checked",
  "trial", "occurs_in", "_law_pick", "_law_things", "_law_is_finite"] : List String).map Str.ofString
theorem size1 (P : Params) : ((boot_heap P).isNs mainGlobals, (boot_heap P).objs.size, (boot_heap P).nsMap mainGlobals "__annotations__") = (true, 11, some (.ref 6)) := by kernel_rfl!
theorem left : LeftO PySem.Challenge.pw_rr0026_02 vw lnames (fun s => xlAt vw [] s && recOk [] s) hook2.obs hook2.val 6766 :=
  leftO_of_run (M := 6000) (m₀ := 11) (ann := some (.ref 6)) (by kernel_rfl!) rfl (fun s => by kernel_rfl!) size1 rfl (fun w os => by kernel_rfl!)

end Mine
end

/-! K3 -/
noncomputable section
set_option maxHeartbeats 0
open PyProof.Rows PySem PySem.W
namespace Mine
theorem said1 : PySem.Challenge.rw_rr0026_02.wellSaid = true := by decide +kernel
theorem okk1 : (chainsOk vw && opensWell PySem.Challenge.rw_rr0026_02.row.prog && (frees PySem.Challenge.rw_rr0026_02.row.toRowW && PySem.Challenge.rw_rr0026_02.row.within.isEmpty)) = true := by decide +kernel
theorem wit1 : PySem.Challenge.rw_rr0026_02.row.toRowW.promised := ⟨[.list [.int 3, .int 1]], by decide +kernel, by decide +kernel⟩
theorem bare1 : PySem.Challenge.rw_rr0026_02.row.prog.bare := ⟨rfl, rfl, rfl, rfl, rfl, by decide +kernel⟩

end Mine
end

open PySem PySem.W PyProof.Rows Mine
set_option maxHeartbeats 0
theorem PySem.Challenge.cw_rr0026_02_holds : PySem.Challenge.rw_rr0026_02.Holds := by
  refine holds_law said1 fun said => ?_
  refine holds_open (q := vw) (loose := lnames) (Xt := fun s => xlAt vw [] s && recOk [] s) (XP := XL vw []) (Yf := hook2.obs) (Ya := hook2.val) (YP := hook2.says) (N := 6766) left hook2.of hook2.keeps (fun s e => xl_of s (Bool.and_eq_true_iff.mp e).1) XL.keeps (by rfl) (by rfl) (by rfl) (fun s e => recFacts_of (Bool.and_eq_true_iff.mp e).2) rfl said okk1 bare1 wit1 ?hc
  intro w s₀ s₁ mg mb G Y a o pm cd doc dV kV ho hd hcd hD hmg hg args vals as hpre hlay hrd hwl hlo
  obtain ⟨K, hK, hgood⟩ := Y
  have hmK : mg (Str.ofString "law") = nsOf K mainGlobals (Str.ofString "law") := G.T.g.agree (gloOk2 (prog := PySem.Challenge.rw_rr0026_02.row.toRowW.prog) (w := w) hK hgood G.T.nolimit).g _
  have hfa := ((gloOk2 (prog := PySem.Challenge.rw_rr0026_02.row.toRowW.prog) (w := w) hK hgood G.T.nolimit).fn 42 (Str.ofString "law") rfl).1
  have ha : a = faddr1 42 := by
    have e1 : mg (Str.ofString "law") = some (.ref a) := hmg
    rw [hmK] at e1
    have e2 : nsOf K mainGlobals (Str.ofString "law") = some (.ref (faddr1 42)) := hfa
    rw [e1] at e2
    exact Value.ref.inj (Option.some.inj e2)
  subst ha
  obtain ⟨hsh, hcond⟩ := pre_splitW hpre
  obtain ⟨xs, rfl⟩ := args_shape hsh
  obtain ⟨b, ws, n, rfl, hb, hr⟩ := well_list hwl
  have hx : xs.length ≤ 63 := most_of hcond
  refine walk1 (xs := xs) hK hgood G.T.nolimit hb (hr _) (by exact Om369 hx) fun s' k1 k2 k3 => ?_
  exact ⟨.inl ⟨_, .bool true, [], rfl, fun _ => rfl, .bool _, by wrow_post, fun _ => ⟨List.nodup_nil, nofun⟩⟩, .of_keep k1, k3, .of_eq (k2.trans hg)⟩
