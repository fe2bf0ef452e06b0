/-
  Closed runs of a step, for up to 512 facts.
-/
import Derived.Test.YtjbpcddplaakfaaGreatDoorRunCq
import Derived.KernelRfl
namespace Go.Proofs.YtjbpcddplaakfaaGreatDoor.Det
open Go
set_option linter.unusedVariables false
set_option linter.unusedSimpArgs false
set_option maxRecDepth 100000
theorem runT_0 : upto runT 27 0 = true := by kernel_rfl
theorem runT_1 : upto runT 27 27 = true := by kernel_rfl
theorem runT_2 : upto runT 27 54 = true := by kernel_rfl
theorem runT_3 : upto runT 27 81 = true := by kernel_rfl
theorem runT_4 : upto runT 27 108 = true := by kernel_rfl
theorem runT_5 : upto runT 27 135 = true := by kernel_rfl
theorem runT_6 : upto runT 27 162 = true := by kernel_rfl
theorem runT_7 : upto runT 27 189 = true := by kernel_rfl
theorem runT_8 : upto runT 27 216 = true := by kernel_rfl
theorem runT_9 : upto runT 27 243 = true := by kernel_rfl
theorem runT_10 : upto runT 27 270 = true := by kernel_rfl
theorem runT_11 : upto runT 27 297 = true := by kernel_rfl
theorem runT_12 : upto runT 27 324 = true := by kernel_rfl
theorem runT_13 : upto runT 27 351 = true := by kernel_rfl
theorem runT_14 : upto runT 27 378 = true := by kernel_rfl
theorem runT_15 : upto runT 27 405 = true := by kernel_rfl
theorem runT_16 : upto runT 27 432 = true := by kernel_rfl
theorem runT_17 : upto runT 27 459 = true := by kernel_rfl
theorem runT_18 : upto runT 27 486 = true := by kernel_rfl
theorem runT_all (L : Nat) (h : L ≤ 512) : runT L = true := by
  by_cases h0 : L < 27
  · exact upto_ok runT_0 L (by omega) (by omega)
  by_cases h1 : L < 54
  · exact upto_ok runT_1 L (by omega) (by omega)
  by_cases h2 : L < 81
  · exact upto_ok runT_2 L (by omega) (by omega)
  by_cases h3 : L < 108
  · exact upto_ok runT_3 L (by omega) (by omega)
  by_cases h4 : L < 135
  · exact upto_ok runT_4 L (by omega) (by omega)
  by_cases h5 : L < 162
  · exact upto_ok runT_5 L (by omega) (by omega)
  by_cases h6 : L < 189
  · exact upto_ok runT_6 L (by omega) (by omega)
  by_cases h7 : L < 216
  · exact upto_ok runT_7 L (by omega) (by omega)
  by_cases h8 : L < 243
  · exact upto_ok runT_8 L (by omega) (by omega)
  by_cases h9 : L < 270
  · exact upto_ok runT_9 L (by omega) (by omega)
  by_cases h10 : L < 297
  · exact upto_ok runT_10 L (by omega) (by omega)
  by_cases h11 : L < 324
  · exact upto_ok runT_11 L (by omega) (by omega)
  by_cases h12 : L < 351
  · exact upto_ok runT_12 L (by omega) (by omega)
  by_cases h13 : L < 378
  · exact upto_ok runT_13 L (by omega) (by omega)
  by_cases h14 : L < 405
  · exact upto_ok runT_14 L (by omega) (by omega)
  by_cases h15 : L < 432
  · exact upto_ok runT_15 L (by omega) (by omega)
  by_cases h16 : L < 459
  · exact upto_ok runT_16 L (by omega) (by omega)
  by_cases h17 : L < 486
  · exact upto_ok runT_17 L (by omega) (by omega)
  by_cases h18 : L < 513
  · exact upto_ok runT_18 L (by omega) (by omega)
  omega
end Go.Proofs.YtjbpcddplaakfaaGreatDoor.Det
