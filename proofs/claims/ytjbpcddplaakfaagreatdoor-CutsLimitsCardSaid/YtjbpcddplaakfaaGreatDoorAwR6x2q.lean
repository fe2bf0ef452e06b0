/-
  Table 6, rows: what calls give, each by a run.
-/
import Derived.Test.YtjbpcddplaakfaaGreatDoorAwB5q
import Derived.KernelRfl
namespace Go.Proofs.YtjbpcddplaakfaaGreatDoor.Det
open Go
set_option linter.unusedVariables false
set_option linter.unusedSimpArgs false
set_option maxRecDepth 100000
def rows6_7 : List Ent := [⟨158, 323, [(.str [51]), (.str [50])], (.tuple [(.agg [(.str [51]), (.str [49]), (.str [50]), (.str [49])]), (.int .i64 0)])⟩, ⟨158, 1023, [(.str [45, 50]), (.str [50])], (.tuple [(.agg [(.str [45, 50]), (.str [49]), (.str [50]), (.str [49])]), (.int .i64 0)])⟩, ⟨158, 313, [(.str [49]), (.str [50])], (.tuple [(.agg [(.str [49]), (.str [49]), (.str [50]), (.str [49])]), (.int .i64 0)])⟩, ⟨158, 1642, [(.str [45, 49]), (.str [51, 47, 50])], (.tuple [(.agg [(.str [45, 49]), (.str [49]), (.str [51]), (.str [50])]), (.int .i64 0)])⟩, ⟨158, 1624, [(.str [45, 49]), (.str [49, 47, 50])], (.tuple [(.agg [(.str [45, 49]), (.str [49]), (.str [49]), (.str [50])]), (.int .i64 0)])⟩, ⟨158, 924, [(.str [50]), (.str [49, 47, 50])], (.tuple [(.agg [(.str [50]), (.str [49]), (.str [49]), (.str [50])]), (.int .i64 0)])⟩]
theorem rows6_7_ok : rows6_7.all (rowOK E5 4000) = true := by kernel_rfl
def rows6_8 : List Ent := [⟨158, 307, [(.str [48]), (.str [49])], (.tuple [(.agg [(.str [48]), (.str [49]), (.str [49]), (.str [49])]), (.int .i64 0)])⟩, ⟨158, 914, [(.str [48]), (.str [49, 47, 50])], (.tuple [(.agg [(.str [48]), (.str [49]), (.str [49]), (.str [50])]), (.int .i64 0)])⟩, ⟨158, 306, [(.str [48]), (.str [48])], (.tuple [(.agg [(.str [48]), (.str [49]), (.str [48]), (.str [49])]), (.int .i64 0)])⟩, ⟨158, 1634, [(.str [45, 51]), (.str [49, 47, 50])], (.tuple [(.agg [(.str [45, 51]), (.str [49]), (.str [49]), (.str [50])]), (.int .i64 0)])⟩, ⟨158, 2201, [(.str [48]), (.str [45, 51, 47, 50])], (.tuple [(.agg [(.str [48]), (.str [49]), (.str [45, 51]), (.str [50])]), (.int .i64 0)])⟩, ⟨158, 3346, [(.str [49, 47, 50]), (.str [48])], (.tuple [(.agg [(.str [49]), (.str [50]), (.str [48]), (.str [49])]), (.int .i64 0)])⟩]
theorem rows6_8_ok : rows6_8.all (rowOK E5 4000) = true := by kernel_rfl
def rows6_9 : List Ent := [⟨158, 312, [(.str [49]), (.str [49])], (.tuple [(.agg [(.str [49]), (.str [49]), (.str [49]), (.str [49])]), (.int .i64 0)])⟩, ⟨158, 1022, [(.str [45, 50]), (.str [49])], (.tuple [(.agg [(.str [45, 50]), (.str [49]), (.str [49]), (.str [49])]), (.int .i64 0)])⟩, ⟨158, 449, [(.str [48]), (.str [45, 50])], (.tuple [(.agg [(.str [48]), (.str [49]), (.str [45, 50]), (.str [49])]), (.int .i64 0)])⟩, ⟨158, 311, [(.str [49]), (.str [48])], (.tuple [(.agg [(.str [49]), (.str [49]), (.str [48]), (.str [49])]), (.int .i64 0)])⟩, ⟨158, 1032, [(.str [45, 52]), (.str [49])], (.tuple [(.agg [(.str [45, 52]), (.str [49]), (.str [49]), (.str [49])]), (.int .i64 0)])⟩, ⟨158, 451, [(.str [48]), (.str [45, 52])], (.tuple [(.agg [(.str [48]), (.str [49]), (.str [45, 52]), (.str [49])]), (.int .i64 0)])⟩]
theorem rows6_9_ok : rows6_9.all (rowOK E5 4000) = true := by kernel_rfl
def rows6_10 : List Ent := [⟨158, 1017, [(.str [45, 49]), (.str [49])], (.tuple [(.agg [(.str [45, 49]), (.str [49]), (.str [49]), (.str [49])]), (.int .i64 0)])⟩, ⟨158, 453, [(.str [49]), (.str [45, 49])], (.tuple [(.agg [(.str [49]), (.str [49]), (.str [45, 49]), (.str [49])]), (.int .i64 0)])⟩, ⟨158, 1031, [(.str [45, 52]), (.str [48])], (.tuple [(.agg [(.str [45, 52]), (.str [49]), (.str [48]), (.str [49])]), (.int .i64 0)])⟩, ⟨158, 1158, [(.str [45, 49]), (.str [45, 49])], (.tuple [(.agg [(.str [45, 49]), (.str [49]), (.str [45, 49]), (.str [49])]), (.int .i64 0)])⟩]
theorem rows6_10_ok : rows6_10.all (rowOK E5 4000) = true := by kernel_rfl
end Go.Proofs.YtjbpcddplaakfaaGreatDoor.Det
