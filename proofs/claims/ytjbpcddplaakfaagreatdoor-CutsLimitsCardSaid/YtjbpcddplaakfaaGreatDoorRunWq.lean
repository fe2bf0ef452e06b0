/-
  Closed runs of a step, for up to 512 facts.
-/
import Derived.Test.YtjbpcddplaakfaaGreatDoorRunCq
import Derived.KernelRfl
namespace Go.Proofs.YtjbpcddplaakfaaGreatDoor.Det
open Go
set_option linter.unusedVariables false
set_option linter.unusedSimpArgs false
set_option maxRecDepth 100000
theorem runW_0 : upto runW 27 0 = true := by kernel_rfl
theorem runW_1 : upto runW 27 27 = true := by kernel_rfl
theorem runW_2 : upto runW 27 54 = true := by kernel_rfl
theorem runW_3 : upto runW 27 81 = true := by kernel_rfl
theorem runW_4 : upto runW 27 108 = true := by kernel_rfl
theorem runW_5 : upto runW 27 135 = true := by kernel_rfl
theorem runW_6 : upto runW 27 162 = true := by kernel_rfl
theorem runW_7 : upto runW 27 189 = true := by kernel_rfl
theorem runW_8 : upto runW 27 216 = true := by kernel_rfl
theorem runW_9 : upto runW 27 243 = true := by kernel_rfl
theorem runW_10 : upto runW 27 270 = true := by kernel_rfl
theorem runW_11 : upto runW 27 297 = true := by kernel_rfl
theorem runW_12 : upto runW 27 324 = true := by kernel_rfl
theorem runW_13 : upto runW 27 351 = true := by kernel_rfl
theorem runW_14 : upto runW 27 378 = true := by kernel_rfl
theorem runW_15 : upto runW 27 405 = true := by kernel_rfl
theorem runW_16 : upto runW 27 432 = true := by kernel_rfl
theorem runW_17 : upto runW 27 459 = true := by kernel_rfl
theorem runW_18 : upto runW 27 486 = true := by kernel_rfl
theorem runW_all (L : Nat) (h : L ≤ 512) : runW L = true := by
  by_cases h0 : L < 27
  · exact upto_ok runW_0 L (by omega) (by omega)
  by_cases h1 : L < 54
  · exact upto_ok runW_1 L (by omega) (by omega)
  by_cases h2 : L < 81
  · exact upto_ok runW_2 L (by omega) (by omega)
  by_cases h3 : L < 108
  · exact upto_ok runW_3 L (by omega) (by omega)
  by_cases h4 : L < 135
  · exact upto_ok runW_4 L (by omega) (by omega)
  by_cases h5 : L < 162
  · exact upto_ok runW_5 L (by omega) (by omega)
  by_cases h6 : L < 189
  · exact upto_ok runW_6 L (by omega) (by omega)
  by_cases h7 : L < 216
  · exact upto_ok runW_7 L (by omega) (by omega)
  by_cases h8 : L < 243
  · exact upto_ok runW_8 L (by omega) (by omega)
  by_cases h9 : L < 270
  · exact upto_ok runW_9 L (by omega) (by omega)
  by_cases h10 : L < 297
  · exact upto_ok runW_10 L (by omega) (by omega)
  by_cases h11 : L < 324
  · exact upto_ok runW_11 L (by omega) (by omega)
  by_cases h12 : L < 351
  · exact upto_ok runW_12 L (by omega) (by omega)
  by_cases h13 : L < 378
  · exact upto_ok runW_13 L (by omega) (by omega)
  by_cases h14 : L < 405
  · exact upto_ok runW_14 L (by omega) (by omega)
  by_cases h15 : L < 432
  · exact upto_ok runW_15 L (by omega) (by omega)
  by_cases h16 : L < 459
  · exact upto_ok runW_16 L (by omega) (by omega)
  by_cases h17 : L < 486
  · exact upto_ok runW_17 L (by omega) (by omega)
  by_cases h18 : L < 513
  · exact upto_ok runW_18 L (by omega) (by omega)
  omega
end Go.Proofs.YtjbpcddplaakfaaGreatDoor.Det
