/-
  Table 4, rows: what calls give, each by a run.
-/
import Derived.Test.YtjbpcddplaakfaaGreatDoorAwB3q
import Derived.KernelRfl
namespace Go.Proofs.YtjbpcddplaakfaaGreatDoor.Det
open Go
set_option linter.unusedVariables false
set_option linter.unusedSimpArgs false
set_option maxRecDepth 100000
def rows4_1 : List Ent := [⟨44, 306, [(.str [48]), (.str [48])], (.int .i64 0)⟩, ⟨44, 1164, [(.str [45, 50]), (.str [45, 50])], (.int .i64 0)⟩, ⟨44, 1182, [(.str [45, 53]), (.str [45, 53])], (.int .i64 0)⟩, ⟨44, 1016, [(.str [45, 49]), (.str [48])], (.int .i64 (-1))⟩]
theorem rows4_1_ok : rows4_1.all (rowOK E3 4000) = true := by kernel_rfl
def rows4_2 : List Ent := [⟨45, 459, [(.str [50]), (.str [45, 50])], (.str [48])⟩, ⟨45, 316, [(.str [50]), (.str [48])], (.str [50])⟩, ⟨45, 319, [(.str [50]), (.str [51])], (.str [53])⟩, ⟨45, 1174, [(.str [45, 52]), (.str [45, 50])], (.str [45, 54])⟩, ⟨45, 306, [(.str [48]), (.str [48])], (.str [48])⟩, ⟨45, 460, [(.str [50]), (.str [45, 51])], (.str [45, 49])⟩]
theorem rows4_2_ok : rows4_2.all (rowOK E3 4000) = true := by kernel_rfl
def rows4_3 : List Ent := [⟨48, 322, [(.str [51]), (.str [49])], (.tuple [(.str [51]), (.int .i64 0)])⟩, ⟨48, 317, [(.str [50]), (.str [49])], (.tuple [(.str [50]), (.int .i64 0)])⟩, ⟨48, 1023, [(.str [45, 50]), (.str [50])], (.tuple [(.str [45, 49]), (.int .i64 0)])⟩, ⟨48, 318, [(.str [50]), (.str [50])], (.tuple [(.str [49]), (.int .i64 0)])⟩, ⟨48, 312, [(.str [49]), (.str [49])], (.tuple [(.str [49]), (.int .i64 0)])⟩, ⟨48, 307, [(.str [48]), (.str [49])], (.tuple [(.str [48]), (.int .i64 0)])⟩]
theorem rows4_3_ok : rows4_3.all (rowOK E3 4000) = true := by kernel_rfl
def rows4_4 : List Ent := [⟨48, 1027, [(.str [45, 51]), (.str [49])], (.tuple [(.str [45, 51]), (.int .i64 0)])⟩, ⟨48, 1017, [(.str [45, 49]), (.str [49])], (.tuple [(.str [45, 49]), (.int .i64 0)])⟩, ⟨48, 1028, [(.str [45, 51]), (.str [50])], (.tuple [(.str [45, 50]), (.int .i64 0)])⟩, ⟨48, 308, [(.str [48]), (.str [50])], (.tuple [(.str [48]), (.int .i64 0)])⟩, ⟨48, 1022, [(.str [45, 50]), (.str [49])], (.tuple [(.str [45, 50]), (.int .i64 0)])⟩, ⟨48, 1032, [(.str [45, 52]), (.str [49])], (.tuple [(.str [45, 52]), (.int .i64 0)])⟩]
theorem rows4_4_ok : rows4_4.all (rowOK E3 4000) = true := by kernel_rfl
def rows4_5 : List Ent := [⟨48, 1158, [(.str [45, 49]), (.str [45, 49])], (.tuple [(.str [49]), (.int .i64 0)])⟩]
theorem rows4_5_ok : rows4_5.all (rowOK E3 4000) = true := by kernel_rfl
def rows4_6 : List Ent := [⟨53, 317, [(.str [49]), (.str [54])], (.str [54])⟩]
theorem rows4_6_ok : rows4_6.all (rowOK E3 4000) = true := by kernel_rfl
end Go.Proofs.YtjbpcddplaakfaaGreatDoor.Det
