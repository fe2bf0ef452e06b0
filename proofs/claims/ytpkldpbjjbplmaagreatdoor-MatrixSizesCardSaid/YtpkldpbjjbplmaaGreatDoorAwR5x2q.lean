/-
  Table 5, rows: what calls give, each by a run.
-/
import Derived.Test.YtpkldpbjjbplmaaGreatDoorAwB4q
import Derived.KernelRfl
namespace Go.Proofs.YtpkldpbjjbplmaaGreatDoor.Det
open Go
set_option linter.unusedVariables false
set_option maxRecDepth 100000
def rows5_7 : List Ent := [⟨128, 1042, [(.str [45, 54]), (.str [49])], (.tuple [(.str [45, 54]), (.int .i64 0)])⟩, ⟨128, 1027, [(.str [45, 51]), (.str [49])], (.tuple [(.str [45, 51]), (.int .i64 0)])⟩, ⟨128, 449, [(.str [48]), (.str [45, 50])], (.tuple [(.str [48]), (.int .i64 0)])⟩, ⟨128, 1164, [(.str [45, 50]), (.str [45, 50])], (.tuple [(.str [49]), (.int .i64 0)])⟩, ⟨128, 1169, [(.str [45, 51]), (.str [45, 50])], (.tuple [(.str [51, 47, 50]), (.int .i64 0)])⟩, ⟨128, 454, [(.str [49]), (.str [45, 50])], (.tuple [(.str [45, 49, 47, 50]), (.int .i64 0)])⟩]
theorem rows5_7_ok : rows5_7.all (rowOK E4 4000) = true := by kernel_rfl
def rows5_8 : List Ent := [⟨128, 1043, [(.str [45, 54]), (.str [50])], (.tuple [(.str [45, 51]), (.int .i64 0)])⟩, ⟨128, 318, [(.str [50]), (.str [50])], (.tuple [(.str [49]), (.int .i64 0)])⟩]
theorem rows5_8_ok : rows5_8.all (rowOK E4 4000) = true := by kernel_rfl
end Go.Proofs.YtpkldpbjjbplmaaGreatDoor.Det
