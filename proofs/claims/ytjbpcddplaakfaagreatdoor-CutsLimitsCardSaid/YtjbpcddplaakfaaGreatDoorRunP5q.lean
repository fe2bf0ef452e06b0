/-
  Closed runs of Prove, from 48 on below 54 hypotheses.
-/
import Derived.Test.YtjbpcddplaakfaaGreatDoorRunCq
import Derived.KernelRfl
namespace Go.Proofs.YtjbpcddplaakfaaGreatDoor.Det
open Go
set_option linter.unusedVariables false
set_option linter.unusedSimpArgs false
set_option maxRecDepth 100000
theorem runP_48 : runP 48 = true := by kernel_rfl
theorem runP_49 : runP 49 = true := by kernel_rfl
theorem runP_50 : runP 50 = true := by kernel_rfl
theorem runP_51 : runP 51 = true := by kernel_rfl
theorem runP_52 : runP 52 = true := by kernel_rfl
theorem runP_53 : runP 53 = true := by kernel_rfl
end Go.Proofs.YtjbpcddplaakfaaGreatDoor.Det
