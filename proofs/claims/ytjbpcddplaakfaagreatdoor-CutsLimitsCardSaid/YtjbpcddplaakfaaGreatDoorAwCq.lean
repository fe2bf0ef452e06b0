/-
  The run of the examples: true.
-/
import Derived.Test.YtjbpcddplaakfaaGreatDoorAwB8q
import Derived.KernelRfl
namespace Go.Proofs.YtjbpcddplaakfaaGreatDoor.Det
open Go
set_option linter.unusedVariables false
set_option linter.unusedSimpArgs false
set_option maxRecDepth 100000
theorem awake_run : runsTo E8 4000 7 [] (.bool true) = true := by kernel_rfl
theorem awake_prim : PrimOK Tryz.prog tabP 7 [] (.bool true) := by
  obtain ⟨H', h⟩ := runsTo_ok awake_run
  exact primOK_of_run tabP_ok mixed E8_ok h (by kernel_rfl) rfl rfl
end Go.Proofs.YtjbpcddplaakfaaGreatDoor.Det
