/-
  Table 7: what calls give: surveyor/rational.Ceil (2), surveyor/rational.Compare (2), surveyor/rational.calculate (22).
-/
import Derived.Test.YtjbpcddplaakfaaGreatDoorAwR7x1q
import Derived.KernelRfl
namespace Go.Proofs.YtjbpcddplaakfaaGreatDoor.Det
open Go
set_option linter.unusedVariables false
set_option linter.unusedSimpArgs false
set_option maxRecDepth 100000
def tbl7 : Tbl := (.node (.node (.node (.node .leaf none (.node (.node .leaf (some (rows7_1)) .leaf) none .leaf)) none .leaf) none .leaf) none (.node .leaf none (.node .leaf none (.node (.node (.node .leaf none (.node .leaf (some (rows7_2)) .leaf)) none .leaf) none (.node .leaf none (.node (.node .leaf none (.node .leaf (some (rows7_3 ++ rows7_4 ++ rows7_5 ++ rows7_6)) .leaf)) none .leaf))))))
theorem tbl7_ok : allT (rowOK E6 4000) tbl7 = true := by
  simp only [tbl7, allT, List.all_append, rows7_1_ok, rows7_2_ok, rows7_3_ok, rows7_4_ok, rows7_5_ok, rows7_6_ok, Bool.and_true, Bool.and_self]
noncomputable def E7 : Env := E6.more tbl7
theorem E7_ok : EnvOK Tryz.prog tabP E7 := more_ok tabP_ok mixed E6_ok tbl7_ok
end Go.Proofs.YtjbpcddplaakfaaGreatDoor.Det
