/-
  Table 4: what calls give: surveyor/bigint.Neg (4), surveyor/bigint.Quo (17), surveyor/bigint.Sign (4), surveyor/rational.Check (12), surveyor/rational.both (24).
-/
import Derived.Test.YtpkldpbjjbplmaaGreatDoorAwR4x1q
import Derived.Test.YtpkldpbjjbplmaaGreatDoorAwR4x2q
import Derived.KernelRfl
namespace Go.Proofs.YtpkldpbjjbplmaaGreatDoor.Det
open Go
set_option linter.unusedVariables false
set_option maxRecDepth 100000
def tbl4 : Tbl := (.node (.node (.node (.node .leaf none (.node .leaf (some (rows4_1 ++ rows4_2)) .leaf)) none (.node (.node .leaf none (.node .leaf (some (rows4_3)) .leaf)) none .leaf)) none .leaf) none (.node (.node (.node (.node .leaf none (.node (.node .leaf (some (rows4_4 ++ rows4_5 ++ rows4_6)) .leaf) none .leaf)) none .leaf) none (.node .leaf none (.node (.node .leaf none (.node (.node .leaf (some (rows4_8 ++ rows4_9 ++ rows4_10 ++ rows4_11)) .leaf) none .leaf)) none .leaf))) none (.node (.node (.node .leaf none (.node (.node .leaf (some (rows4_7)) .leaf) none .leaf)) none .leaf) none .leaf)))
theorem tbl4_ok : allT (rowOK E3 4000) tbl4 = true := by
  simp only [tbl4, allT, List.all_append, rows4_1_ok, rows4_2_ok, rows4_3_ok, rows4_4_ok, rows4_5_ok, rows4_6_ok, rows4_7_ok, rows4_8_ok, rows4_9_ok, rows4_10_ok, rows4_11_ok, Bool.and_true, Bool.and_self]
noncomputable def E4 : Env := E3.more tbl4
theorem E4_ok : EnvOK Tryz.prog tabP E4 := more_ok tabP_ok mixed E3_ok tbl4_ok
end Go.Proofs.YtpkldpbjjbplmaaGreatDoor.Det
