/-
  Table 2: what calls give: surveyor/bigint.Check (12).
-/
import Derived.Test.YtjbpcddplaakfaaGreatDoorAwR2x1q
import Derived.KernelRfl
namespace Go.Proofs.YtjbpcddplaakfaaGreatDoor.Det
open Go
set_option linter.unusedVariables false
set_option linter.unusedSimpArgs false
set_option maxRecDepth 100000
def tbl2 : Tbl := (.node .leaf none (.node (.node (.node .leaf none (.node (.node (.node .leaf (some (rows2_1 ++ rows2_2)) .leaf) none .leaf) none .leaf)) none .leaf) none .leaf))
theorem tbl2_ok : allT (rowOK E1 4000) tbl2 = true := by
  simp only [tbl2, allT, List.all_append, rows2_1_ok, rows2_2_ok, Bool.and_true, Bool.and_self]
noncomputable def E2 : Env := E1.more tbl2
theorem E2_ok : EnvOK Tryz.prog tabP E2 := more_ok tabP_ok mixed E1_ok tbl2_ok
end Go.Proofs.YtjbpcddplaakfaaGreatDoor.Det
