/-
  Closed runs of Prove, from 0 on below 24 hypotheses.
-/
import Derived.Test.YtjbpcddplaakfaaGreatDoorRunCq
import Derived.KernelRfl
namespace Go.Proofs.YtjbpcddplaakfaaGreatDoor.Det
open Go
set_option linter.unusedVariables false
set_option linter.unusedSimpArgs false
set_option maxRecDepth 100000
theorem runP_0 : runP 0 = true := by kernel_rfl
theorem runP_1 : runP 1 = true := by kernel_rfl
theorem runP_2 : runP 2 = true := by kernel_rfl
theorem runP_3 : runP 3 = true := by kernel_rfl
theorem runP_4 : runP 4 = true := by kernel_rfl
theorem runP_5 : runP 5 = true := by kernel_rfl
theorem runP_6 : runP 6 = true := by kernel_rfl
theorem runP_7 : runP 7 = true := by kernel_rfl
theorem runP_8 : runP 8 = true := by kernel_rfl
theorem runP_9 : runP 9 = true := by kernel_rfl
theorem runP_10 : runP 10 = true := by kernel_rfl
theorem runP_11 : runP 11 = true := by kernel_rfl
theorem runP_12 : runP 12 = true := by kernel_rfl
theorem runP_13 : runP 13 = true := by kernel_rfl
theorem runP_14 : runP 14 = true := by kernel_rfl
theorem runP_15 : runP 15 = true := by kernel_rfl
theorem runP_16 : runP 16 = true := by kernel_rfl
theorem runP_17 : runP 17 = true := by kernel_rfl
theorem runP_18 : runP 18 = true := by kernel_rfl
theorem runP_19 : runP 19 = true := by kernel_rfl
theorem runP_20 : runP 20 = true := by kernel_rfl
theorem runP_21 : runP 21 = true := by kernel_rfl
theorem runP_22 : runP 22 = true := by kernel_rfl
theorem runP_23 : runP 23 = true := by kernel_rfl
end Go.Proofs.YtjbpcddplaakfaaGreatDoor.Det
