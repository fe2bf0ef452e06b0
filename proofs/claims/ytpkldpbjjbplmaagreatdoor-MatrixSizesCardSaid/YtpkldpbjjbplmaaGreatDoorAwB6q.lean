/-
  Table 6: what calls give: surveyor/rational.calculate (26).
-/
import Derived.Test.YtpkldpbjjbplmaaGreatDoorAwR6x1q
import Derived.KernelRfl
namespace Go.Proofs.YtpkldpbjjbplmaaGreatDoor.Det
open Go
set_option linter.unusedVariables false
set_option maxRecDepth 100000
def tbl6 : Tbl := (.node .leaf none (.node (.node (.node (.node (.node .leaf none (.node .leaf (some (rows6_1 ++ rows6_2 ++ rows6_3 ++ rows6_4 ++ rows6_5)) .leaf)) none .leaf) none .leaf) none .leaf) none .leaf))
theorem tbl6_ok : allT (rowOK E5 4000) tbl6 = true := by
  simp only [tbl6, allT, List.all_append, rows6_1_ok, rows6_2_ok, rows6_3_ok, rows6_4_ok, rows6_5_ok, Bool.and_true, Bool.and_self]
noncomputable def E6 : Env := E5.more tbl6
theorem E6_ok : EnvOK Tryz.prog tabP E6 := more_ok tabP_ok mixed E5_ok tbl6_ok
end Go.Proofs.YtpkldpbjjbplmaaGreatDoor.Det
