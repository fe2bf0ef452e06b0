/-
  Closed runs of Prove, from 42 on below 48 hypotheses.
-/
import Derived.Test.YtjbpcddplaakfaaGreatDoorRunCq
import Derived.KernelRfl
namespace Go.Proofs.YtjbpcddplaakfaaGreatDoor.Det
open Go
set_option linter.unusedVariables false
set_option linter.unusedSimpArgs false
set_option maxRecDepth 100000
theorem runP_42 : runP 42 = true := by kernel_rfl
theorem runP_43 : runP 43 = true := by kernel_rfl
theorem runP_44 : runP 44 = true := by kernel_rfl
theorem runP_45 : runP 45 = true := by kernel_rfl
theorem runP_46 : runP 46 = true := by kernel_rfl
theorem runP_47 : runP 47 = true := by kernel_rfl
end Go.Proofs.YtjbpcddplaakfaaGreatDoor.Det
