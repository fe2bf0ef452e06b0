/-
  Table 4, rows: what calls give, each by a run.
-/
import Derived.Test.YtjbpcddplaakfaaGreatDoorAwB3q
import Derived.KernelRfl
namespace Go.Proofs.YtjbpcddplaakfaaGreatDoor.Det
open Go
set_option linter.unusedVariables false
set_option linter.unusedSimpArgs false
set_option maxRecDepth 100000
def rows4_7 : List Ent := [⟨78, 194, [(.str [45, 50])], (.tuple [(.str [50]), (.int .i64 0)])⟩, ⟨78, 53, [(.str [50])], (.tuple [(.str [45, 50]), (.int .i64 0)])⟩, ⟨78, 56, [(.str [53])], (.tuple [(.str [45, 53]), (.int .i64 0)])⟩, ⟨78, 51, [(.str [48])], (.tuple [(.str [48]), (.int .i64 0)])⟩, ⟨78, 52, [(.str [49])], (.tuple [(.str [45, 49]), (.int .i64 0)])⟩]
theorem rows4_7_ok : rows4_7.all (rowOK E3 4000) = true := by kernel_rfl
def rows4_8 : List Ent := [⟨89, 1026, [(.str [45, 50]), (.str [53])], (.tuple [(.str [51]), (.int .i64 0)])⟩, ⟨89, 342, [(.str [54]), (.str [54])], (.tuple [(.str [48]), (.int .i64 0)])⟩, ⟨89, 1047, [(.str [45, 54]), (.str [54])], (.tuple [(.str [48]), (.int .i64 0)])⟩, ⟨89, 312, [(.str [48]), (.str [54])], (.tuple [(.str [48]), (.int .i64 0)])⟩]
theorem rows4_8_ok : rows4_8.all (rowOK E3 4000) = true := by kernel_rfl
def rows4_9 : List Ent := [⟨96, 323, [(.str [51]), (.str [50])], (.bool false)⟩, ⟨96, 313, [(.str [49]), (.str [50])], (.bool false)⟩, ⟨96, 1028, [(.str [45, 51]), (.str [50])], (.bool false)⟩]
theorem rows4_9_ok : rows4_9.all (rowOK E3 4000) = true := by kernel_rfl
def rows4_10 : List Ent := [⟨128, 53, [(.str [50])], (.tuple [(.int .i64 1), (.int .i64 0)])⟩, ⟨128, 52, [(.str [49])], (.tuple [(.int .i64 1), (.int .i64 0)])⟩, ⟨128, 193, [(.str [45, 49])], (.tuple [(.int .i64 (-1)), (.int .i64 0)])⟩]
theorem rows4_10_ok : rows4_10.all (rowOK E3 4000) = true := by kernel_rfl
def rows4_11 : List Ent := [⟨159, 8363, [(.str [51]), (.str [49]), (.str [49]), (.str [50])], (.tuple [(.str [51]), (.str [50]), (.int .i64 0)])⟩, ⟨159, 25863, [(.str [45, 50]), (.str [49]), (.str [49]), (.str [50])], (.tuple [(.str [45, 50]), (.str [50]), (.int .i64 0)])⟩, ⟨159, 8113, [(.str [49]), (.str [49]), (.str [49]), (.str [50])], (.tuple [(.str [49]), (.str [50]), (.int .i64 0)])⟩, ⟨159, 25788, [(.str [45, 49]), (.str [51]), (.str [49]), (.str [50])], (.tuple [(.str [45, 51]), (.str [50]), (.int .i64 0)])⟩, ⟨159, 25738, [(.str [45, 49]), (.str [49]), (.str [49]), (.str [50])], (.tuple [(.str [45, 49]), (.str [50]), (.int .i64 0)])⟩, ⟨159, 8238, [(.str [50]), (.str [49]), (.str [49]), (.str [50])], (.tuple [(.str [50]), (.str [50]), (.int .i64 0)])⟩]
theorem rows4_11_ok : rows4_11.all (rowOK E3 4000) = true := by kernel_rfl
def rows4_12 : List Ent := [⟨159, 7987, [(.str [48]), (.str [49]), (.str [49]), (.str [49])], (.tuple [(.str [48]), (.str [49]), (.int .i64 0)])⟩, ⟨159, 7988, [(.str [48]), (.str [49]), (.str [49]), (.str [50])], (.tuple [(.str [48]), (.str [50]), (.int .i64 0)])⟩, ⟨159, 7982, [(.str [48]), (.str [49]), (.str [48]), (.str [49])], (.tuple [(.str [48]), (.str [48]), (.int .i64 0)])⟩, ⟨159, 25988, [(.str [45, 51]), (.str [49]), (.str [49]), (.str [50])], (.tuple [(.str [45, 51]), (.str [50]), (.int .i64 0)])⟩, ⟨159, 8727, [(.str [48]), (.str [50]), (.str [45, 51]), (.str [49])], (.tuple [(.str [48]), (.str [45, 51]), (.int .i64 0)])⟩, ⟨159, 8108, [(.str [49]), (.str [49]), (.str [48]), (.str [50])], (.tuple [(.str [49]), (.str [48]), (.int .i64 0)])⟩]
theorem rows4_12_ok : rows4_12.all (rowOK E3 4000) = true := by kernel_rfl
end Go.Proofs.YtjbpcddplaakfaaGreatDoor.Det
