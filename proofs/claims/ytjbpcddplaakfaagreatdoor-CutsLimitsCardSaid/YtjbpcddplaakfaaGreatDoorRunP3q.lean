/-
  Closed runs of Prove, from 34 on below 42 hypotheses.
-/
import Derived.Test.YtjbpcddplaakfaaGreatDoorRunCq
import Derived.KernelRfl
namespace Go.Proofs.YtjbpcddplaakfaaGreatDoor.Det
open Go
set_option linter.unusedVariables false
set_option linter.unusedSimpArgs false
set_option maxRecDepth 100000
theorem runP_34 : runP 34 = true := by kernel_rfl
theorem runP_35 : runP 35 = true := by kernel_rfl
theorem runP_36 : runP 36 = true := by kernel_rfl
theorem runP_37 : runP 37 = true := by kernel_rfl
theorem runP_38 : runP 38 = true := by kernel_rfl
theorem runP_39 : runP 39 = true := by kernel_rfl
theorem runP_40 : runP 40 = true := by kernel_rfl
theorem runP_41 : runP 41 = true := by kernel_rfl
end Go.Proofs.YtjbpcddplaakfaaGreatDoor.Det
