/-
  Table 8: what calls give: surveyor/rational.Add (8), surveyor/rational.Div (4), surveyor/rational.Mul (10).
-/
import Derived.Test.YtjbpcddplaakfaaGreatDoorAwR8x1q
import Derived.KernelRfl
namespace Go.Proofs.YtjbpcddplaakfaaGreatDoor.Det
open Go
set_option linter.unusedVariables false
set_option linter.unusedSimpArgs false
set_option maxRecDepth 100000
def tbl8 : Tbl := (.node (.node (.node .leaf none (.node .leaf none (.node .leaf none (.node (.node (.node .leaf (some (rows8_3 ++ rows8_4)) .leaf) none .leaf) none .leaf)))) none (.node .leaf none (.node (.node (.node .leaf none (.node (.node (.node .leaf (some (rows8_5)) .leaf) none .leaf) none .leaf)) none .leaf) none .leaf))) none (.node .leaf none (.node (.node .leaf none (.node .leaf none (.node (.node (.node .leaf (some (rows8_1 ++ rows8_2)) .leaf) none .leaf) none .leaf))) none .leaf)))
theorem tbl8_ok : allT (rowOK E7 4000) tbl8 = true := by
  simp only [tbl8, allT, List.all_append, rows8_1_ok, rows8_2_ok, rows8_3_ok, rows8_4_ok, rows8_5_ok, Bool.and_true, Bool.and_self]
noncomputable def E8 : Env := E7.more tbl8
theorem E8_ok : EnvOK Tryz.prog tabP E8 := more_ok tabP_ok mixed E7_ok tbl8_ok
end Go.Proofs.YtjbpcddplaakfaaGreatDoor.Det
