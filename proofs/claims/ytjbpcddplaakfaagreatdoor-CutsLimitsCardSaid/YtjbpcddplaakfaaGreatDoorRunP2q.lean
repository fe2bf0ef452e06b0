/-
  Closed runs of Prove, from 24 on below 34 hypotheses.
-/
import Derived.Test.YtjbpcddplaakfaaGreatDoorRunCq
import Derived.KernelRfl
namespace Go.Proofs.YtjbpcddplaakfaaGreatDoor.Det
open Go
set_option linter.unusedVariables false
set_option linter.unusedSimpArgs false
set_option maxRecDepth 100000
theorem runP_24 : runP 24 = true := by kernel_rfl
theorem runP_25 : runP 25 = true := by kernel_rfl
theorem runP_26 : runP 26 = true := by kernel_rfl
theorem runP_27 : runP 27 = true := by kernel_rfl
theorem runP_28 : runP 28 = true := by kernel_rfl
theorem runP_29 : runP 29 = true := by kernel_rfl
theorem runP_30 : runP 30 = true := by kernel_rfl
theorem runP_31 : runP 31 = true := by kernel_rfl
theorem runP_32 : runP 32 = true := by kernel_rfl
theorem runP_33 : runP 33 = true := by kernel_rfl
end Go.Proofs.YtjbpcddplaakfaaGreatDoor.Det
