/-
  Table 7, rows: what calls give, each by a run.
-/
import Derived.Test.YtpkldpbjjbplmaaGreatDoorAwB6q
import Derived.KernelRfl
namespace Go.Proofs.YtpkldpbjjbplmaaGreatDoor.Det
open Go
set_option linter.unusedVariables false
set_option maxRecDepth 100000
def rows7_1 : List Ent := [⟨71, 312, [(.str [49]), (.str [49])], (.tuple [(.str [49]), (.int .i64 0)])⟩, ⟨71, 317, [(.str [50]), (.str [49])], (.tuple [(.str [50]), (.int .i64 0)])⟩, ⟨71, 322, [(.str [51]), (.str [49])], (.tuple [(.str [51]), (.int .i64 0)])⟩, ⟨71, 307, [(.str [48]), (.str [49])], (.tuple [(.str [48]), (.int .i64 0)])⟩, ⟨71, 1022, [(.str [45, 50]), (.str [49])], (.tuple [(.str [45, 50]), (.int .i64 0)])⟩, ⟨71, 449, [(.str [48]), (.str [45, 50])], (.tuple [(.str [48]), (.int .i64 0)])⟩]
theorem rows7_1_ok : rows7_1.all (rowOK E6 4000) = true := by kernel_rfl
def rows7_2 : List Ent := [⟨71, 1164, [(.str [45, 50]), (.str [45, 50])], (.tuple [(.str [49]), (.int .i64 0)])⟩, ⟨71, 1169, [(.str [45, 51]), (.str [45, 50])], (.tuple [(.str [51, 47, 50]), (.int .i64 0)])⟩, ⟨71, 454, [(.str [49]), (.str [45, 50])], (.tuple [(.str [45, 49, 47, 50]), (.int .i64 0)])⟩]
theorem rows7_2_ok : rows7_2.all (rowOK E6 4000) = true := by kernel_rfl
def rows7_3 : List Ent := [⟨94, 459, [(.str [50]), (.str [45, 50])], (.tuple [(.str [48]), (.int .i64 0)])⟩, ⟨94, 471, [(.str [52]), (.str [45, 52])], (.tuple [(.str [48]), (.int .i64 0)])⟩, ⟨94, 488, [(.str [55]), (.str [45, 54])], (.tuple [(.str [49]), (.int .i64 0)])⟩, ⟨94, 465, [(.str [51]), (.str [45, 51])], (.tuple [(.str [48]), (.int .i64 0)])⟩, ⟨94, 464, [(.str [51]), (.str [45, 50])], (.tuple [(.str [49]), (.int .i64 0)])⟩, ⟨94, 449, [(.str [48]), (.str [45, 50])], (.tuple [(.str [45, 50]), (.int .i64 0)])⟩]
theorem rows7_3_ok : rows7_3.all (rowOK E6 4000) = true := by kernel_rfl
def rows7_4 : List Ent := [⟨94, 473, [(.str [52]), (.str [45, 54])], (.tuple [(.str [45, 50]), (.int .i64 0)])⟩, ⟨94, 450, [(.str [48]), (.str [45, 51])], (.tuple [(.str [45, 51]), (.int .i64 0)])⟩, ⟨94, 455, [(.str [49]), (.str [45, 51])], (.tuple [(.str [45, 50]), (.int .i64 0)])⟩, ⟨94, 307, [(.str [48]), (.str [49])], (.tuple [(.str [49]), (.int .i64 0)])⟩]
theorem rows7_4_ok : rows7_4.all (rowOK E6 4000) = true := by kernel_rfl
def rows7_5 : List Ent := [⟨95, 1022, [(.str [45, 50]), (.str [49])], (.tuple [(.str [45, 50]), (.int .i64 0)])⟩, ⟨95, 1023, [(.str [45, 50]), (.str [50])], (.tuple [(.str [45, 52]), (.int .i64 0)])⟩, ⟨95, 1024, [(.str [45, 50]), (.str [51])], (.tuple [(.str [45, 54]), (.int .i64 0)])⟩, ⟨95, 1027, [(.str [45, 51]), (.str [49])], (.tuple [(.str [45, 51]), (.int .i64 0)])⟩, ⟨95, 1028, [(.str [45, 51]), (.str [50])], (.tuple [(.str [45, 54]), (.int .i64 0)])⟩, ⟨95, 1647, [(.str [45, 50]), (.str [51, 47, 50])], (.tuple [(.str [45, 51]), (.int .i64 0)])⟩]
theorem rows7_5_ok : rows7_5.all (rowOK E6 4000) = true := by kernel_rfl
def rows7_6 : List Ent := [⟨95, 2898, [(.str [45, 50]), (.str [45, 49, 47, 50])], (.tuple [(.str [49]), (.int .i64 0)])⟩]
theorem rows7_6_ok : rows7_6.all (rowOK E6 4000) = true := by kernel_rfl
end Go.Proofs.YtpkldpbjjbplmaaGreatDoor.Det
