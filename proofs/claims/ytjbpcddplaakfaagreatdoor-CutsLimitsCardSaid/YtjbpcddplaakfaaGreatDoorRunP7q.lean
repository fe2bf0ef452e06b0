/-
  Closed runs of Prove, from 60 on below 65 hypotheses.
-/
import Derived.Test.YtjbpcddplaakfaaGreatDoorRunCq
import Derived.KernelRfl
namespace Go.Proofs.YtjbpcddplaakfaaGreatDoor.Det
open Go
set_option linter.unusedVariables false
set_option linter.unusedSimpArgs false
set_option maxRecDepth 100000
theorem runP_60 : runP 60 = true := by kernel_rfl
theorem runP_61 : runP 61 = true := by kernel_rfl
theorem runP_62 : runP 62 = true := by kernel_rfl
theorem runP_63 : runP 63 = true := by kernel_rfl
theorem runP_64 : runP 64 = true := by kernel_rfl
end Go.Proofs.YtjbpcddplaakfaaGreatDoor.Det
