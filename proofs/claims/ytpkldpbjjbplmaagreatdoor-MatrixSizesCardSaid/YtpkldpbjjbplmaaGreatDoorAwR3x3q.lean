/-
  Table 3, rows: what calls give, each by a run.
-/
import Derived.Test.YtpkldpbjjbplmaaGreatDoorAwB2q
import Derived.KernelRfl
namespace Go.Proofs.YtpkldpbjjbplmaaGreatDoor.Det
open Go
set_option linter.unusedVariables false
set_option maxRecDepth 100000
def rows3_13 : List Ent := [⟨105, 1042, [(.str [45, 54]), (.str [49])], (.tuple [(.str [45, 54]), (.str [48]), (.int .i64 0)])⟩, ⟨105, 1027, [(.str [45, 51]), (.str [49])], (.tuple [(.str [45, 51]), (.str [48]), (.int .i64 0)])⟩, ⟨105, 449, [(.str [48]), (.str [45, 50])], (.tuple [(.str [48]), (.str [48]), (.int .i64 0)])⟩, ⟨105, 1164, [(.str [45, 50]), (.str [45, 50])], (.tuple [(.str [49]), (.str [48]), (.int .i64 0)])⟩, ⟨105, 1168, [(.str [45, 51]), (.str [45, 49])], (.tuple [(.str [51]), (.str [48]), (.int .i64 0)])⟩, ⟨105, 1163, [(.str [45, 50]), (.str [45, 49])], (.tuple [(.str [50]), (.str [48]), (.int .i64 0)])⟩]
theorem rows3_13_ok : rows3_13.all (rowOK E2 4000) = true := by kernel_rfl
def rows3_14 : List Ent := [⟨105, 453, [(.str [49]), (.str [45, 49])], (.tuple [(.str [45, 49]), (.str [48]), (.int .i64 0)])⟩, ⟨105, 1043, [(.str [45, 54]), (.str [50])], (.tuple [(.str [45, 51]), (.str [48]), (.int .i64 0)])⟩, ⟨105, 318, [(.str [50]), (.str [50])], (.tuple [(.str [49]), (.str [48]), (.int .i64 0)])⟩, ⟨105, 323, [(.str [51]), (.str [50])], (.tuple [(.str [49]), (.str [49]), (.int .i64 0)])⟩, ⟨105, 313, [(.str [49]), (.str [50])], (.tuple [(.str [48]), (.str [49]), (.int .i64 0)])⟩]
theorem rows3_14_ok : rows3_14.all (rowOK E2 4000) = true := by kernel_rfl
def rows3_15 : List Ent := [⟨106, 311, [(.str [49]), (.str [48])], (.tuple [(.int .i64 1), (.int .i64 0)])⟩, ⟨106, 1021, [(.str [45, 50]), (.str [48])], (.tuple [(.int .i64 (-1)), (.int .i64 0)])⟩, ⟨106, 316, [(.str [50]), (.str [48])], (.tuple [(.int .i64 1), (.int .i64 0)])⟩, ⟨106, 323, [(.str [51]), (.str [50])], (.tuple [(.int .i64 1), (.int .i64 0)])⟩, ⟨106, 313, [(.str [49]), (.str [50])], (.tuple [(.int .i64 (-1)), (.int .i64 0)])⟩, ⟨106, 306, [(.str [48]), (.str [48])], (.tuple [(.int .i64 0), (.int .i64 0)])⟩]
theorem rows3_15_ok : rows3_15.all (rowOK E2 4000) = true := by kernel_rfl
def rows3_16 : List Ent := [⟨129, 54, [(.str [51])], (.tuple [(.str [51]), (.int .i64 0)])⟩, ⟨129, 53, [(.str [50])], (.tuple [(.str [50]), (.int .i64 0)])⟩, ⟨129, 52, [(.str [49])], (.tuple [(.str [49]), (.int .i64 0)])⟩]
theorem rows3_16_ok : rows3_16.all (rowOK E2 4000) = true := by kernel_rfl
def rows3_17 : List Ent := [⟨170, 459, [(.str [50]), (.str [45, 50])], (.tuple [(.str [48]), (.int .i64 0)])⟩, ⟨170, 471, [(.str [52]), (.str [45, 52])], (.tuple [(.str [48]), (.int .i64 0)])⟩, ⟨170, 488, [(.str [55]), (.str [45, 54])], (.tuple [(.str [49]), (.int .i64 0)])⟩, ⟨170, 465, [(.str [51]), (.str [45, 51])], (.tuple [(.str [48]), (.int .i64 0)])⟩, ⟨170, 464, [(.str [51]), (.str [45, 50])], (.tuple [(.str [49]), (.int .i64 0)])⟩, ⟨170, 449, [(.str [48]), (.str [45, 50])], (.tuple [(.str [45, 50]), (.int .i64 0)])⟩]
theorem rows3_17_ok : rows3_17.all (rowOK E2 4000) = true := by kernel_rfl
def rows3_18 : List Ent := [⟨170, 473, [(.str [52]), (.str [45, 54])], (.tuple [(.str [45, 50]), (.int .i64 0)])⟩, ⟨170, 450, [(.str [48]), (.str [45, 51])], (.tuple [(.str [45, 51]), (.int .i64 0)])⟩, ⟨170, 455, [(.str [49]), (.str [45, 51])], (.tuple [(.str [45, 50]), (.int .i64 0)])⟩, ⟨170, 307, [(.str [48]), (.str [49])], (.tuple [(.str [49]), (.int .i64 0)])⟩]
theorem rows3_18_ok : rows3_18.all (rowOK E2 4000) = true := by kernel_rfl
end Go.Proofs.YtpkldpbjjbplmaaGreatDoor.Det
