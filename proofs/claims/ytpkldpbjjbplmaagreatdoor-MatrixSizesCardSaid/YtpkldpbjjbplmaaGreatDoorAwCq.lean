/-
  The run of the examples: true.
-/
import Derived.Test.YtpkldpbjjbplmaaGreatDoorAwB7q
import Derived.KernelRfl
namespace Go.Proofs.YtpkldpbjjbplmaaGreatDoor.Det
open Go
set_option linter.unusedVariables false
set_option maxRecDepth 100000
theorem awake_run : runsTo E7 4000 4 [] (.bool true) = true := by kernel_rfl
theorem awake_prim : PrimOK Tryz.prog tabP 4 [] (.bool true) := by
  obtain ⟨H', h⟩ := runsTo_ok awake_run
  exact primOK_of_run tabP_ok mixed E7_ok h (by kernel_rfl) rfl rfl
end Go.Proofs.YtpkldpbjjbplmaaGreatDoor.Det
