/-
  Table 6, rows: what calls give, each by a run.
-/
import Derived.Test.YtjbpcddplaakfaaGreatDoorAwB5q
import Derived.KernelRfl
namespace Go.Proofs.YtjbpcddplaakfaaGreatDoor.Det
open Go
set_option linter.unusedVariables false
set_option linter.unusedSimpArgs false
set_option maxRecDepth 100000
def rows6_1 : List Ent := [⟨37, 312, [(.str [49]), (.str [49])], (.tuple [(.str [49]), (.int .i64 0)])⟩, ⟨37, 307, [(.str [48]), (.str [49])], (.tuple [(.str [48]), (.int .i64 0)])⟩, ⟨37, 317, [(.str [50]), (.str [49])], (.tuple [(.str [50]), (.int .i64 0)])⟩, ⟨37, 1027, [(.str [45, 51]), (.str [49])], (.tuple [(.str [45, 51]), (.int .i64 0)])⟩, ⟨37, 1022, [(.str [45, 50]), (.str [49])], (.tuple [(.str [45, 50]), (.int .i64 0)])⟩, ⟨37, 1032, [(.str [45, 52]), (.str [49])], (.tuple [(.str [45, 52]), (.int .i64 0)])⟩]
theorem rows6_1_ok : rows6_1.all (rowOK E5 4000) = true := by kernel_rfl
def rows6_2 : List Ent := [⟨37, 1017, [(.str [45, 49]), (.str [49])], (.tuple [(.str [45, 49]), (.int .i64 0)])⟩]
theorem rows6_2_ok : rows6_2.all (rowOK E5 4000) = true := by kernel_rfl
def rows6_3 : List Ent := [⟨76, 677, [(.str [51, 47, 50])], (.tuple [(.str [45, 51, 47, 50]), (.int .i64 0)])⟩, ⟨76, 1946, [(.str [45, 51, 47, 50])], (.tuple [(.str [51, 47, 50]), (.int .i64 0)])⟩, ⟨76, 194, [(.str [45, 50])], (.tuple [(.str [50]), (.int .i64 0)])⟩, ⟨76, 53, [(.str [50])], (.tuple [(.str [45, 50]), (.int .i64 0)])⟩]
theorem rows6_3_ok : rows6_3.all (rowOK E5 4000) = true := by kernel_rfl
def rows6_4 : List Ent := [⟨77, 1946, [(.str [45, 51, 47, 50])], (.tuple [(.str [45, 50]), (.int .i64 0)])⟩, ⟨77, 194, [(.str [45, 50])], (.tuple [(.str [45, 50]), (.int .i64 0)])⟩]
theorem rows6_4_ok : rows6_4.all (rowOK E5 4000) = true := by kernel_rfl
def rows6_5 : List Ent := [⟨106, 51, [(.str [48])], (.tuple [(.str [49]), (.int .i64 0)])⟩, ⟨106, 52, [(.str [49])], (.tuple [(.str [49]), (.int .i64 0)])⟩, ⟨106, 196, [(.str [45, 52])], (.tuple [(.str [49]), (.int .i64 0)])⟩, ⟨106, 53, [(.str [50])], (.tuple [(.str [49]), (.int .i64 0)])⟩]
theorem rows6_5_ok : rows6_5.all (rowOK E5 4000) = true := by kernel_rfl
def rows6_6 : List Ent := [⟨107, 51, [(.str [48])], (.tuple [(.str [48]), (.int .i64 0)])⟩, ⟨107, 52, [(.str [49])], (.tuple [(.str [49]), (.int .i64 0)])⟩, ⟨107, 196, [(.str [45, 52])], (.tuple [(.str [45, 52]), (.int .i64 0)])⟩, ⟨107, 53, [(.str [50])], (.tuple [(.str [50]), (.int .i64 0)])⟩]
theorem rows6_6_ok : rows6_6.all (rowOK E5 4000) = true := by kernel_rfl
end Go.Proofs.YtjbpcddplaakfaaGreatDoor.Det
