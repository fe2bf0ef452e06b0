/-
  Table 4, rows: what calls give, each by a run.
-/
import Derived.Test.YtpkldpbjjbplmaaGreatDoorAwB3q
import Derived.KernelRfl
namespace Go.Proofs.YtpkldpbjjbplmaaGreatDoor.Det
open Go
set_option linter.unusedVariables false
set_option maxRecDepth 100000
def rows4_1 : List Ent := [⟨23, 52, [(.str [49])], (.int .i64 0)⟩, ⟨23, 53, [(.str [50])], (.int .i64 0)⟩, ⟨23, 54, [(.str [51])], (.int .i64 0)⟩, ⟨23, 55, [(.str [52])], (.int .i64 0)⟩, ⟨23, 58, [(.str [55])], (.int .i64 0)⟩, ⟨23, 194, [(.str [45, 50])], (.int .i64 0)⟩]
theorem rows4_1_ok : rows4_1.all (rowOK E3 4000) = true := by kernel_rfl
def rows4_2 : List Ent := [⟨23, 196, [(.str [45, 52])], (.int .i64 0)⟩, ⟨23, 198, [(.str [45, 54])], (.int .i64 0)⟩, ⟨23, 51, [(.str [48])], (.int .i64 0)⟩, ⟨23, 195, [(.str [45, 51])], (.int .i64 0)⟩, ⟨23, 677, [(.str [51, 47, 50])], (.int .i64 0)⟩, ⟨23, 1928, [(.str [45, 49, 47, 50])], (.int .i64 0)⟩]
theorem rows4_2_ok : rows4_2.all (rowOK E3 4000) = true := by kernel_rfl
def rows4_3 : List Ent := [⟨51, 53, [(.str [50])], (.tuple [(.str [45, 50]), (.int .i64 0)])⟩, ⟨51, 52, [(.str [49])], (.tuple [(.str [45, 49]), (.int .i64 0)])⟩, ⟨51, 51, [(.str [48])], (.tuple [(.str [48]), (.int .i64 0)])⟩, ⟨51, 193, [(.str [45, 49])], (.tuple [(.str [49]), (.int .i64 0)])⟩]
theorem rows4_3_ok : rows4_3.all (rowOK E3 4000) = true := by kernel_rfl
def rows4_4 : List Ent := [⟨80, 312, [(.str [49]), (.str [49])], (.tuple [(.str [49]), (.int .i64 0)])⟩, ⟨80, 317, [(.str [50]), (.str [49])], (.tuple [(.str [50]), (.int .i64 0)])⟩, ⟨80, 322, [(.str [51]), (.str [49])], (.tuple [(.str [51]), (.int .i64 0)])⟩, ⟨80, 1022, [(.str [45, 50]), (.str [49])], (.tuple [(.str [45, 50]), (.int .i64 0)])⟩, ⟨80, 307, [(.str [48]), (.str [49])], (.tuple [(.str [48]), (.int .i64 0)])⟩, ⟨80, 1032, [(.str [45, 52]), (.str [49])], (.tuple [(.str [45, 52]), (.int .i64 0)])⟩]
theorem rows4_4_ok : rows4_4.all (rowOK E3 4000) = true := by kernel_rfl
def rows4_5 : List Ent := [⟨80, 1042, [(.str [45, 54]), (.str [49])], (.tuple [(.str [45, 54]), (.int .i64 0)])⟩, ⟨80, 1027, [(.str [45, 51]), (.str [49])], (.tuple [(.str [45, 51]), (.int .i64 0)])⟩, ⟨80, 449, [(.str [48]), (.str [45, 50])], (.tuple [(.str [48]), (.int .i64 0)])⟩, ⟨80, 1164, [(.str [45, 50]), (.str [45, 50])], (.tuple [(.str [49]), (.int .i64 0)])⟩, ⟨80, 1168, [(.str [45, 51]), (.str [45, 49])], (.tuple [(.str [51]), (.int .i64 0)])⟩, ⟨80, 1163, [(.str [45, 50]), (.str [45, 49])], (.tuple [(.str [50]), (.int .i64 0)])⟩]
theorem rows4_5_ok : rows4_5.all (rowOK E3 4000) = true := by kernel_rfl
def rows4_6 : List Ent := [⟨80, 453, [(.str [49]), (.str [45, 49])], (.tuple [(.str [45, 49]), (.int .i64 0)])⟩, ⟨80, 1043, [(.str [45, 54]), (.str [50])], (.tuple [(.str [45, 51]), (.int .i64 0)])⟩, ⟨80, 318, [(.str [50]), (.str [50])], (.tuple [(.str [49]), (.int .i64 0)])⟩, ⟨80, 323, [(.str [51]), (.str [50])], (.tuple [(.str [49]), (.int .i64 0)])⟩, ⟨80, 313, [(.str [49]), (.str [50])], (.tuple [(.str [48]), (.int .i64 0)])⟩]
theorem rows4_6_ok : rows4_6.all (rowOK E3 4000) = true := by kernel_rfl
end Go.Proofs.YtpkldpbjjbplmaaGreatDoor.Det
