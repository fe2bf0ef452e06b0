/-
  Table 3, rows: what calls give, each by a run.
-/
import Derived.Test.YtpkldpbjjbplmaaGreatDoorAwB2q
import Derived.KernelRfl
namespace Go.Proofs.YtpkldpbjjbplmaaGreatDoor.Det
open Go
set_option linter.unusedVariables false
set_option maxRecDepth 100000
def rows3_7 : List Ent := [⟨79, 311, [(.str [49]), (.str [48])], (.tuple [(.str [49]), (.int .i64 0)])⟩, ⟨79, 454, [(.str [49]), (.str [45, 50])], (.tuple [(.str [51]), (.int .i64 0)])⟩, ⟨79, 324, [(.str [51]), (.str [51])], (.tuple [(.str [48]), (.int .i64 0)])⟩, ⟨79, 334, [(.str [53]), (.str [51])], (.tuple [(.str [50]), (.int .i64 0)])⟩, ⟨79, 450, [(.str [48]), (.str [45, 51])], (.tuple [(.str [51]), (.int .i64 0)])⟩, ⟨79, 309, [(.str [48]), (.str [51])], (.tuple [(.str [45, 51]), (.int .i64 0)])⟩]
theorem rows3_7_ok : rows3_7.all (rowOK E2 4000) = true := by kernel_rfl
def rows3_8 : List Ent := [⟨79, 306, [(.str [48]), (.str [48])], (.tuple [(.str [48]), (.int .i64 0)])⟩, ⟨79, 1169, [(.str [45, 51]), (.str [45, 50])], (.tuple [(.str [45, 49]), (.int .i64 0)])⟩, ⟨79, 448, [(.str [48]), (.str [45, 49])], (.tuple [(.str [49]), (.int .i64 0)])⟩]
theorem rows3_8_ok : rows3_8.all (rowOK E2 4000) = true := by kernel_rfl
def rows3_9 : List Ent := [⟨86, 312, [(.str [49]), (.str [49])], (.tuple [(.str [49]), (.int .i64 0)])⟩, ⟨86, 317, [(.str [50]), (.str [49])], (.tuple [(.str [49]), (.int .i64 0)])⟩, ⟨86, 322, [(.str [51]), (.str [49])], (.tuple [(.str [49]), (.int .i64 0)])⟩, ⟨86, 1022, [(.str [45, 50]), (.str [49])], (.tuple [(.str [49]), (.int .i64 0)])⟩, ⟨86, 307, [(.str [48]), (.str [49])], (.tuple [(.str [49]), (.int .i64 0)])⟩, ⟨86, 1032, [(.str [45, 52]), (.str [49])], (.tuple [(.str [49]), (.int .i64 0)])⟩]
theorem rows3_9_ok : rows3_9.all (rowOK E2 4000) = true := by kernel_rfl
def rows3_10 : List Ent := [⟨86, 1042, [(.str [45, 54]), (.str [49])], (.tuple [(.str [49]), (.int .i64 0)])⟩, ⟨86, 1027, [(.str [45, 51]), (.str [49])], (.tuple [(.str [49]), (.int .i64 0)])⟩, ⟨86, 449, [(.str [48]), (.str [45, 50])], (.tuple [(.str [50]), (.int .i64 0)])⟩, ⟨86, 1164, [(.str [45, 50]), (.str [45, 50])], (.tuple [(.str [50]), (.int .i64 0)])⟩, ⟨86, 1169, [(.str [45, 51]), (.str [45, 50])], (.tuple [(.str [49]), (.int .i64 0)])⟩, ⟨86, 454, [(.str [49]), (.str [45, 50])], (.tuple [(.str [49]), (.int .i64 0)])⟩]
theorem rows3_10_ok : rows3_10.all (rowOK E2 4000) = true := by kernel_rfl
def rows3_11 : List Ent := [⟨86, 323, [(.str [51]), (.str [50])], (.tuple [(.str [49]), (.int .i64 0)])⟩, ⟨86, 1043, [(.str [45, 54]), (.str [50])], (.tuple [(.str [50]), (.int .i64 0)])⟩, ⟨86, 1018, [(.str [45, 49]), (.str [50])], (.tuple [(.str [49]), (.int .i64 0)])⟩, ⟨86, 318, [(.str [50]), (.str [50])], (.tuple [(.str [50]), (.int .i64 0)])⟩]
theorem rows3_11_ok : rows3_11.all (rowOK E2 4000) = true := by kernel_rfl
def rows3_12 : List Ent := [⟨105, 312, [(.str [49]), (.str [49])], (.tuple [(.str [49]), (.str [48]), (.int .i64 0)])⟩, ⟨105, 317, [(.str [50]), (.str [49])], (.tuple [(.str [50]), (.str [48]), (.int .i64 0)])⟩, ⟨105, 322, [(.str [51]), (.str [49])], (.tuple [(.str [51]), (.str [48]), (.int .i64 0)])⟩, ⟨105, 1022, [(.str [45, 50]), (.str [49])], (.tuple [(.str [45, 50]), (.str [48]), (.int .i64 0)])⟩, ⟨105, 307, [(.str [48]), (.str [49])], (.tuple [(.str [48]), (.str [48]), (.int .i64 0)])⟩, ⟨105, 1032, [(.str [45, 52]), (.str [49])], (.tuple [(.str [45, 52]), (.str [48]), (.int .i64 0)])⟩]
theorem rows3_12_ok : rows3_12.all (rowOK E2 4000) = true := by kernel_rfl
end Go.Proofs.YtpkldpbjjbplmaaGreatDoor.Det
