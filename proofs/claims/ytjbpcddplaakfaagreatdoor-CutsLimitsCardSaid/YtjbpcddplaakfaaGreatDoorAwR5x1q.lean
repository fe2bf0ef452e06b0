/-
  Table 5, rows: what calls give, each by a run.
-/
import Derived.Test.YtjbpcddplaakfaaGreatDoorAwB4q
import Derived.KernelRfl
namespace Go.Proofs.YtjbpcddplaakfaaGreatDoor.Det
open Go
set_option linter.unusedVariables false
set_option linter.unusedSimpArgs false
set_option maxRecDepth 100000
def rows5_1 : List Ent := [⟨46, 53, [(.str [50])], (.str [45, 50])⟩, ⟨46, 56, [(.str [53])], (.str [45, 53])⟩, ⟨46, 51, [(.str [48])], (.str [48])⟩]
theorem rows5_1_ok : rows5_1.all (rowOK E4 4000) = true := by kernel_rfl
def rows5_2 : List Ent := [⟨52, 1026, [(.str [45, 50]), (.str [53])], (.str [51])⟩, ⟨52, 342, [(.str [54]), (.str [54])], (.str [48])⟩, ⟨52, 1047, [(.str [45, 54]), (.str [54])], (.str [48])⟩, ⟨52, 312, [(.str [48]), (.str [54])], (.str [48])⟩]
theorem rows5_2_ok : rows5_2.all (rowOK E4 4000) = true := by kernel_rfl
def rows5_3 : List Ent := [⟨55, 51, [(.str [48])], (.int .i64 0)⟩, ⟨55, 54, [(.str [51])], (.int .i64 0)⟩, ⟨55, 53, [(.str [50])], (.int .i64 0)⟩, ⟨55, 194, [(.str [45, 50])], (.int .i64 0)⟩, ⟨55, 52, [(.str [49])], (.int .i64 0)⟩, ⟨55, 193, [(.str [45, 49])], (.int .i64 0)⟩]
theorem rows5_3_ok : rows5_3.all (rowOK E4 4000) = true := by kernel_rfl
def rows5_4 : List Ent := [⟨55, 677, [(.str [51, 47, 50])], (.int .i64 0)⟩, ⟨55, 659, [(.str [49, 47, 50])], (.int .i64 0)⟩, ⟨55, 1946, [(.str [45, 51, 47, 50])], (.int .i64 0)⟩, ⟨55, 195, [(.str [45, 51])], (.int .i64 0)⟩, ⟨55, 196, [(.str [45, 52])], (.int .i64 0)⟩]
theorem rows5_4_ok : rows5_4.all (rowOK E4 4000) = true := by kernel_rfl
def rows5_5 : List Ent := [⟨73, 323, [(.str [51]), (.str [50])], (.tuple [(.str [51, 47, 50]), (.int .i64 0)])⟩, ⟨73, 1023, [(.str [45, 50]), (.str [50])], (.tuple [(.str [45, 49]), (.int .i64 0)])⟩, ⟨73, 313, [(.str [49]), (.str [50])], (.tuple [(.str [49, 47, 50]), (.int .i64 0)])⟩, ⟨73, 312, [(.str [49]), (.str [49])], (.tuple [(.str [49]), (.int .i64 0)])⟩, ⟨73, 307, [(.str [48]), (.str [49])], (.tuple [(.str [48]), (.int .i64 0)])⟩, ⟨73, 1028, [(.str [45, 51]), (.str [50])], (.tuple [(.str [45, 51, 47, 50]), (.int .i64 0)])⟩]
theorem rows5_5_ok : rows5_5.all (rowOK E4 4000) = true := by kernel_rfl
def rows5_6 : List Ent := [⟨73, 1018, [(.str [45, 49]), (.str [50])], (.tuple [(.str [45, 49, 47, 50]), (.int .i64 0)])⟩, ⟨73, 317, [(.str [50]), (.str [49])], (.tuple [(.str [50]), (.int .i64 0)])⟩, ⟨73, 318, [(.str [50]), (.str [50])], (.tuple [(.str [49]), (.int .i64 0)])⟩, ⟨73, 308, [(.str [48]), (.str [50])], (.tuple [(.str [48]), (.int .i64 0)])⟩, ⟨73, 1027, [(.str [45, 51]), (.str [49])], (.tuple [(.str [45, 51]), (.int .i64 0)])⟩, ⟨73, 1022, [(.str [45, 50]), (.str [49])], (.tuple [(.str [45, 50]), (.int .i64 0)])⟩]
theorem rows5_6_ok : rows5_6.all (rowOK E4 4000) = true := by kernel_rfl
end Go.Proofs.YtjbpcddplaakfaaGreatDoor.Det
