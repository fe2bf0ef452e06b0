/-
  Table 8, rows: what calls give, each by a run.
-/
import Derived.Test.YtjbpcddplaakfaaGreatDoorAwB7q
import Derived.KernelRfl
namespace Go.Proofs.YtjbpcddplaakfaaGreatDoor.Det
open Go
set_option linter.unusedVariables false
set_option linter.unusedSimpArgs false
set_option maxRecDepth 100000
def rows8_1 : List Ent := [⟨154, 1642, [(.str [45, 49]), (.str [51, 47, 50])], (.tuple [(.str [45, 51, 47, 50]), (.int .i64 0)])⟩, ⟨154, 1624, [(.str [45, 49]), (.str [49, 47, 50])], (.tuple [(.str [45, 49, 47, 50]), (.int .i64 0)])⟩, ⟨154, 924, [(.str [50]), (.str [49, 47, 50])], (.tuple [(.str [49]), (.int .i64 0)])⟩, ⟨154, 914, [(.str [48]), (.str [49, 47, 50])], (.tuple [(.str [48]), (.int .i64 0)])⟩, ⟨154, 1634, [(.str [45, 51]), (.str [49, 47, 50])], (.tuple [(.str [45, 51, 47, 50]), (.int .i64 0)])⟩, ⟨154, 312, [(.str [49]), (.str [49])], (.tuple [(.str [49]), (.int .i64 0)])⟩]
theorem rows8_1_ok : rows8_1.all (rowOK E7 4000) = true := by kernel_rfl
def rows8_2 : List Ent := [⟨154, 307, [(.str [48]), (.str [49])], (.tuple [(.str [48]), (.int .i64 0)])⟩, ⟨154, 1022, [(.str [45, 50]), (.str [49])], (.tuple [(.str [45, 50]), (.int .i64 0)])⟩, ⟨154, 1032, [(.str [45, 52]), (.str [49])], (.tuple [(.str [45, 52]), (.int .i64 0)])⟩, ⟨154, 1017, [(.str [45, 49]), (.str [49])], (.tuple [(.str [45, 49]), (.int .i64 0)])⟩]
theorem rows8_2_ok : rows8_2.all (rowOK E7 4000) = true := by kernel_rfl
def rows8_3 : List Ent := [⟨155, 307, [(.str [48]), (.str [49])], (.tuple [(.str [49]), (.int .i64 0)])⟩, ⟨155, 306, [(.str [48]), (.str [48])], (.tuple [(.str [48]), (.int .i64 0)])⟩, ⟨155, 2201, [(.str [48]), (.str [45, 51, 47, 50])], (.tuple [(.str [45, 51, 47, 50]), (.int .i64 0)])⟩, ⟨155, 449, [(.str [48]), (.str [45, 50])], (.tuple [(.str [45, 50]), (.int .i64 0)])⟩, ⟨155, 451, [(.str [48]), (.str [45, 52])], (.tuple [(.str [45, 52]), (.int .i64 0)])⟩, ⟨155, 312, [(.str [49]), (.str [49])], (.tuple [(.str [50]), (.int .i64 0)])⟩]
theorem rows8_3_ok : rows8_3.all (rowOK E7 4000) = true := by kernel_rfl
def rows8_4 : List Ent := [⟨155, 453, [(.str [49]), (.str [45, 49])], (.tuple [(.str [48]), (.int .i64 0)])⟩, ⟨155, 1031, [(.str [45, 52]), (.str [48])], (.tuple [(.str [45, 52]), (.int .i64 0)])⟩]
theorem rows8_4_ok : rows8_4.all (rowOK E7 4000) = true := by kernel_rfl
def rows8_5 : List Ent := [⟨293, 323, [(.str [51]), (.str [50])], (.tuple [(.str [51, 47, 50]), (.int .i64 0)])⟩, ⟨293, 1023, [(.str [45, 50]), (.str [50])], (.tuple [(.str [45, 49]), (.int .i64 0)])⟩, ⟨293, 313, [(.str [49]), (.str [50])], (.tuple [(.str [49, 47, 50]), (.int .i64 0)])⟩, ⟨293, 1158, [(.str [45, 49]), (.str [45, 49])], (.tuple [(.str [49]), (.int .i64 0)])⟩]
theorem rows8_5_ok : rows8_5.all (rowOK E7 4000) = true := by kernel_rfl
end Go.Proofs.YtjbpcddplaakfaaGreatDoor.Det
