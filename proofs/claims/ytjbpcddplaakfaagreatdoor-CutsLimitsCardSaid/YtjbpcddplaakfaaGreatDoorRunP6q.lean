/-
  Closed runs of Prove, from 54 on below 60 hypotheses.
-/
import Derived.Test.YtjbpcddplaakfaaGreatDoorRunCq
import Derived.KernelRfl
namespace Go.Proofs.YtjbpcddplaakfaaGreatDoor.Det
open Go
set_option linter.unusedVariables false
set_option linter.unusedSimpArgs false
set_option maxRecDepth 100000
theorem runP_54 : runP 54 = true := by kernel_rfl
theorem runP_55 : runP 55 = true := by kernel_rfl
theorem runP_56 : runP 56 = true := by kernel_rfl
theorem runP_57 : runP 57 = true := by kernel_rfl
theorem runP_58 : runP 58 = true := by kernel_rfl
theorem runP_59 : runP 59 = true := by kernel_rfl
end Go.Proofs.YtjbpcddplaakfaaGreatDoor.Det
