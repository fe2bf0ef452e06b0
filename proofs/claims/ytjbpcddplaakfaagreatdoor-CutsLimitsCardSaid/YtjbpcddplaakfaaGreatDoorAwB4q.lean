/-
  Table 4: what calls give: surveyor/bigint.Neg (5), surveyor/bigint.Quo (13), surveyor/bigint.Rem (4), surveyor/bigint.Sign (3), surveyor/cuts.order (4), surveyor/cuts.plus (6), surveyor/cuts.product (1), surveyor/rational.both (22), surveyor/rational.common (3).
-/
import Derived.Test.YtjbpcddplaakfaaGreatDoorAwR4x1q
import Derived.Test.YtjbpcddplaakfaaGreatDoorAwR4x2q
import Derived.Test.YtjbpcddplaakfaaGreatDoorAwR4x3q
import Derived.KernelRfl
namespace Go.Proofs.YtjbpcddplaakfaaGreatDoor.Det
open Go
set_option linter.unusedVariables false
set_option linter.unusedSimpArgs false
set_option maxRecDepth 100000
def tbl4 : Tbl := (.node (.node (.node (.node (.node (.node .leaf none (.node (.node .leaf (some (rows4_11 ++ rows4_12 ++ rows4_13 ++ rows4_14)) .leaf) none .leaf)) none .leaf) none .leaf) none .leaf) none (.node (.node .leaf none (.node .leaf none (.node (.node .leaf (some (rows4_8)) .leaf) none .leaf))) none (.node (.node .leaf none (.node .leaf (some (rows4_6)) .leaf)) none (.node (.node .leaf (some (rows4_2)) .leaf) none .leaf)))) none (.node (.node (.node (.node (.node (.node (.node .leaf (some (rows4_10)) .leaf) none .leaf) none (.node .leaf (some (rows4_9)) .leaf)) none (.node .leaf (some (rows4_3 ++ rows4_4 ++ rows4_5)) .leaf)) none .leaf) none (.node .leaf none (.node (.node .leaf (some (rows4_1)) .leaf) none .leaf))) none (.node .leaf none (.node .leaf none (.node (.node (.node .leaf (some (rows4_7)) .leaf) none .leaf) none .leaf)))))
theorem tbl4_ok : allT (rowOK E3 4000) tbl4 = true := by
  simp only [tbl4, allT, List.all_append, rows4_1_ok, rows4_2_ok, rows4_3_ok, rows4_4_ok, rows4_5_ok, rows4_6_ok, rows4_7_ok, rows4_8_ok, rows4_9_ok, rows4_10_ok, rows4_11_ok, rows4_12_ok, rows4_13_ok, rows4_14_ok, Bool.and_true, Bool.and_self]
noncomputable def E4 : Env := E3.more tbl4
theorem E4_ok : EnvOK Tryz.prog tabP E4 := more_ok tabP_ok mixed E3_ok tbl4_ok
end Go.Proofs.YtjbpcddplaakfaaGreatDoor.Det
