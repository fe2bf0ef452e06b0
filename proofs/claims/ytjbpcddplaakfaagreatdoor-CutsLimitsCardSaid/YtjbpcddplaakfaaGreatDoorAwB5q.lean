/-
  Table 5: what calls give: surveyor/cuts.negated (3), surveyor/cuts.rest (4), surveyor/rational.Check (11), surveyor/rational.whole (15).
-/
import Derived.Test.YtjbpcddplaakfaaGreatDoorAwR5x1q
import Derived.Test.YtjbpcddplaakfaaGreatDoorAwR5x2q
import Derived.KernelRfl
namespace Go.Proofs.YtjbpcddplaakfaaGreatDoor.Det
open Go
set_option linter.unusedVariables false
set_option linter.unusedSimpArgs false
set_option maxRecDepth 100000
def tbl5 : Tbl := (.node (.node (.node (.node .leaf none (.node .leaf none (.node .leaf (some (rows5_3 ++ rows5_4)) .leaf))) none .leaf) none (.node (.node .leaf none (.node (.node (.node .leaf (some (rows5_5 ++ rows5_6 ++ rows5_7)) .leaf) none .leaf) none .leaf)) none .leaf)) none (.node (.node .leaf none (.node (.node .leaf none (.node .leaf (some (rows5_2)) .leaf)) none .leaf)) none (.node .leaf none (.node .leaf none (.node (.node .leaf (some (rows5_1)) .leaf) none .leaf)))))
theorem tbl5_ok : allT (rowOK E4 4000) tbl5 = true := by
  simp only [tbl5, allT, List.all_append, rows5_1_ok, rows5_2_ok, rows5_3_ok, rows5_4_ok, rows5_5_ok, rows5_6_ok, rows5_7_ok, Bool.and_true, Bool.and_self]
noncomputable def E5 : Env := E4.more tbl5
theorem E5_ok : EnvOK Tryz.prog tabP E5 := more_ok tabP_ok mixed E4_ok tbl5_ok
end Go.Proofs.YtjbpcddplaakfaaGreatDoor.Det
