/-
  Table 6: what calls give: surveyor/rational.Den (4), surveyor/rational.Floor (2), surveyor/rational.Neg (4), surveyor/rational.Num (4), surveyor/rational.Of (7), surveyor/rational.newPair (22).
-/
import Derived.Test.YtjbpcddplaakfaaGreatDoorAwR6x1q
import Derived.Test.YtjbpcddplaakfaaGreatDoorAwR6x2q
import Derived.KernelRfl
namespace Go.Proofs.YtjbpcddplaakfaaGreatDoor.Det
open Go
set_option linter.unusedVariables false
set_option linter.unusedSimpArgs false
set_option maxRecDepth 100000
def tbl6 : Tbl := (.node (.node (.node .leaf none (.node .leaf none (.node (.node .leaf none (.node .leaf (some (rows6_6)) .leaf)) none .leaf))) none (.node .leaf none (.node (.node (.node .leaf (some (rows6_1 ++ rows6_2)) .leaf) none .leaf) none (.node (.node (.node .leaf (some (rows6_4)) .leaf) none .leaf) none .leaf)))) none (.node (.node .leaf none (.node .leaf none (.node (.node (.node .leaf (some (rows6_3)) .leaf) none .leaf) none .leaf))) none (.node (.node .leaf none (.node (.node .leaf none (.node .leaf (some (rows6_5)) .leaf)) none .leaf)) none (.node .leaf none (.node .leaf none (.node (.node (.node .leaf (some (rows6_7 ++ rows6_8 ++ rows6_9 ++ rows6_10)) .leaf) none .leaf) none .leaf))))))
theorem tbl6_ok : allT (rowOK E5 4000) tbl6 = true := by
  simp only [tbl6, allT, List.all_append, rows6_1_ok, rows6_2_ok, rows6_3_ok, rows6_4_ok, rows6_5_ok, rows6_6_ok, rows6_7_ok, rows6_8_ok, rows6_9_ok, rows6_10_ok, Bool.and_true, Bool.and_self]
noncomputable def E6 : Env := E5.more tbl6
theorem E6_ok : EnvOK Tryz.prog tabP E6 := more_ok tabP_ok mixed E5_ok tbl6_ok
end Go.Proofs.YtjbpcddplaakfaaGreatDoor.Det
