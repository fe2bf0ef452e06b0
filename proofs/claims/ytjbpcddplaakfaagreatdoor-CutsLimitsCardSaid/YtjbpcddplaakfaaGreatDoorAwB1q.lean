/-
  Table 1: what calls give: strings.Contains (11), strings.makeASCIISet (1).
-/
import Derived.Test.YtjbpcddplaakfaaGreatDoorAwR1x1q
import Derived.KernelRfl
namespace Go.Proofs.YtjbpcddplaakfaaGreatDoor.Det
open Go
set_option linter.unusedVariables false
set_option linter.unusedSimpArgs false
set_option maxRecDepth 100000
def tbl1 : Tbl := (.node (.node (.node (.node (.node (.node .leaf none (.node .leaf (some (rows1_1 ++ rows1_2)) .leaf)) none .leaf) none .leaf) none .leaf) none (.node .leaf none (.node (.node (.node (.node (.node (.node .leaf (some (rows1_3)) .leaf) none .leaf) none .leaf) none .leaf) none .leaf) none .leaf))) none .leaf)
theorem tbl1_ok : allT (rowOK E0 4000) tbl1 = true := by
  simp only [tbl1, allT, List.all_append, rows1_1_ok, rows1_2_ok, rows1_3_ok, Bool.and_true, Bool.and_self]
noncomputable def E1 : Env := E0.more tbl1
theorem E1_ok : EnvOK Tryz.prog tabP E1 := more_ok tabP_ok mixed E0_ok tbl1_ok
end Go.Proofs.YtjbpcddplaakfaaGreatDoor.Det
