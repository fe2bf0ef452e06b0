/-
  The closed runs together.
-/
import Derived.Test.YtjbpcddplaakfaaGreatDoorRunP1q
import Derived.Test.YtjbpcddplaakfaaGreatDoorRunP2q
import Derived.Test.YtjbpcddplaakfaaGreatDoorRunP3q
import Derived.Test.YtjbpcddplaakfaaGreatDoorRunP4q
import Derived.Test.YtjbpcddplaakfaaGreatDoorRunP5q
import Derived.Test.YtjbpcddplaakfaaGreatDoorRunP6q
import Derived.Test.YtjbpcddplaakfaaGreatDoorRunP7q
import Derived.Test.YtjbpcddplaakfaaGreatDoorRunTq
import Derived.Test.YtjbpcddplaakfaaGreatDoorRunWq
import Derived.KernelRfl
namespace Go.Proofs.YtjbpcddplaakfaaGreatDoor.Det
open Go
set_option linter.unusedVariables false
set_option linter.unusedSimpArgs false
set_option maxRecDepth 100000
theorem runP_all : ∀ k : Nat, k ≤ 64 → runP k = true
  | 0, _ => runP_0
  | 1, _ => runP_1
  | 2, _ => runP_2
  | 3, _ => runP_3
  | 4, _ => runP_4
  | 5, _ => runP_5
  | 6, _ => runP_6
  | 7, _ => runP_7
  | 8, _ => runP_8
  | 9, _ => runP_9
  | 10, _ => runP_10
  | 11, _ => runP_11
  | 12, _ => runP_12
  | 13, _ => runP_13
  | 14, _ => runP_14
  | 15, _ => runP_15
  | 16, _ => runP_16
  | 17, _ => runP_17
  | 18, _ => runP_18
  | 19, _ => runP_19
  | 20, _ => runP_20
  | 21, _ => runP_21
  | 22, _ => runP_22
  | 23, _ => runP_23
  | 24, _ => runP_24
  | 25, _ => runP_25
  | 26, _ => runP_26
  | 27, _ => runP_27
  | 28, _ => runP_28
  | 29, _ => runP_29
  | 30, _ => runP_30
  | 31, _ => runP_31
  | 32, _ => runP_32
  | 33, _ => runP_33
  | 34, _ => runP_34
  | 35, _ => runP_35
  | 36, _ => runP_36
  | 37, _ => runP_37
  | 38, _ => runP_38
  | 39, _ => runP_39
  | 40, _ => runP_40
  | 41, _ => runP_41
  | 42, _ => runP_42
  | 43, _ => runP_43
  | 44, _ => runP_44
  | 45, _ => runP_45
  | 46, _ => runP_46
  | 47, _ => runP_47
  | 48, _ => runP_48
  | 49, _ => runP_49
  | 50, _ => runP_50
  | 51, _ => runP_51
  | 52, _ => runP_52
  | 53, _ => runP_53
  | 54, _ => runP_54
  | 55, _ => runP_55
  | 56, _ => runP_56
  | 57, _ => runP_57
  | 58, _ => runP_58
  | 59, _ => runP_59
  | 60, _ => runP_60
  | 61, _ => runP_61
  | 62, _ => runP_62
  | 63, _ => runP_63
  | 64, _ => runP_64
  | k + 65, h => by omega
end Go.Proofs.YtjbpcddplaakfaaGreatDoor.Det
