/-
  Table 3: what calls give: surveyor/bigint.Add (13), surveyor/bigint.Compare (8), surveyor/bigint.Gcd (15), surveyor/bigint.Mul (13), surveyor/bigint.Sub (5), surveyor/bigint.divided (17).
-/
import Derived.Test.YtjbpcddplaakfaaGreatDoorAwR3x1q
import Derived.Test.YtjbpcddplaakfaaGreatDoorAwR3x2q
import Derived.Test.YtjbpcddplaakfaaGreatDoorAwR3x3q
import Derived.KernelRfl
namespace Go.Proofs.YtjbpcddplaakfaaGreatDoor.Det
open Go
set_option linter.unusedVariables false
set_option linter.unusedSimpArgs false
set_option maxRecDepth 100000
def tbl3 : Tbl := (.node (.node (.node (.node (.node .leaf none (.node (.node .leaf (some (rows3_6 ++ rows3_7 ++ rows3_8)) .leaf) (some (rows3_1 ++ rows3_2 ++ rows3_3)) .leaf)) none .leaf) none (.node (.node (.node (.node .leaf (some (rows3_4 ++ rows3_5)) .leaf) none .leaf) none (.node (.node .leaf (some (rows3_9 ++ rows3_10 ++ rows3_11)) .leaf) none .leaf)) none .leaf)) none (.node .leaf none (.node (.node (.node (.node (.node .leaf (some (rows3_15)) .leaf) none .leaf) none .leaf) none .leaf) none .leaf))) none (.node .leaf none (.node (.node .leaf none (.node .leaf none (.node (.node .leaf (some (rows3_12 ++ rows3_13 ++ rows3_14)) .leaf) none .leaf))) none .leaf)))
theorem tbl3_ok : allT (rowOK E2 4000) tbl3 = true := by
  simp only [tbl3, allT, List.all_append, rows3_1_ok, rows3_2_ok, rows3_3_ok, rows3_4_ok, rows3_5_ok, rows3_6_ok, rows3_7_ok, rows3_8_ok, rows3_9_ok, rows3_10_ok, rows3_11_ok, rows3_12_ok, rows3_13_ok, rows3_14_ok, rows3_15_ok, Bool.and_true, Bool.and_self]
noncomputable def E3 : Env := E2.more tbl3
theorem E3_ok : EnvOK Tryz.prog tabP E3 := more_ok tabP_ok mixed E2_ok tbl3_ok
end Go.Proofs.YtjbpcddplaakfaaGreatDoor.Det
