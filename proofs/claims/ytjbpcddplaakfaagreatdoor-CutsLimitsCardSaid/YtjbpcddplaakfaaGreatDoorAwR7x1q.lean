/-
  Table 7, rows: what calls give, each by a run.
-/
import Derived.Test.YtjbpcddplaakfaaGreatDoorAwB6q
import Derived.KernelRfl
namespace Go.Proofs.YtjbpcddplaakfaaGreatDoor.Det
open Go
set_option linter.unusedVariables false
set_option linter.unusedSimpArgs false
set_option maxRecDepth 100000
def rows7_1 : List Ent := [⟨39, 677, [(.str [51, 47, 50])], (.tuple [(.str [50]), (.int .i64 0)])⟩, ⟨39, 53, [(.str [50])], (.tuple [(.str [50]), (.int .i64 0)])⟩]
theorem rows7_1_ok : rows7_1.all (rowOK E6 4000) = true := by kernel_rfl
def rows7_2 : List Ent := [⟨102, 3346, [(.str [49, 47, 50]), (.str [48])], (.tuple [(.int .i64 1), (.int .i64 0)])⟩, ⟨102, 311, [(.str [49]), (.str [48])], (.tuple [(.int .i64 1), (.int .i64 0)])⟩]
theorem rows7_2_ok : rows7_2.all (rowOK E6 4000) = true := by kernel_rfl
def rows7_3 : List Ent := [⟨222, 1498, [(.int .u8 47), (.str [51]), (.str [50])], (.tuple [(.str [51, 47, 50]), (.int .i64 0)])⟩, ⟨222, 2198, [(.int .u8 47), (.str [45, 50]), (.str [50])], (.tuple [(.str [45, 49]), (.int .i64 0)])⟩, ⟨222, 1488, [(.int .u8 47), (.str [49]), (.str [50])], (.tuple [(.str [49, 47, 50]), (.int .i64 0)])⟩, ⟨222, 2692, [(.int .u8 42), (.str [45, 49]), (.str [51, 47, 50])], (.tuple [(.str [45, 51, 47, 50]), (.int .i64 0)])⟩, ⟨222, 2674, [(.int .u8 42), (.str [45, 49]), (.str [49, 47, 50])], (.tuple [(.str [45, 49, 47, 50]), (.int .i64 0)])⟩, ⟨222, 1974, [(.int .u8 42), (.str [50]), (.str [49, 47, 50])], (.tuple [(.str [49]), (.int .i64 0)])⟩]
theorem rows7_3_ok : rows7_3.all (rowOK E6 4000) = true := by kernel_rfl
def rows7_4 : List Ent := [⟨222, 1382, [(.int .u8 43), (.str [48]), (.str [49])], (.tuple [(.str [49]), (.int .i64 0)])⟩, ⟨222, 1964, [(.int .u8 42), (.str [48]), (.str [49, 47, 50])], (.tuple [(.str [48]), (.int .i64 0)])⟩, ⟨222, 1381, [(.int .u8 43), (.str [48]), (.str [48])], (.tuple [(.str [48]), (.int .i64 0)])⟩, ⟨222, 2684, [(.int .u8 42), (.str [45, 51]), (.str [49, 47, 50])], (.tuple [(.str [45, 51, 47, 50]), (.int .i64 0)])⟩, ⟨222, 3276, [(.int .u8 43), (.str [48]), (.str [45, 51, 47, 50])], (.tuple [(.str [45, 51, 47, 50]), (.int .i64 0)])⟩, ⟨222, 1362, [(.int .u8 42), (.str [49]), (.str [49])], (.tuple [(.str [49]), (.int .i64 0)])⟩]
theorem rows7_4_ok : rows7_4.all (rowOK E6 4000) = true := by kernel_rfl
def rows7_5 : List Ent := [⟨222, 1357, [(.int .u8 42), (.str [48]), (.str [49])], (.tuple [(.str [48]), (.int .i64 0)])⟩, ⟨222, 2072, [(.int .u8 42), (.str [45, 50]), (.str [49])], (.tuple [(.str [45, 50]), (.int .i64 0)])⟩, ⟨222, 1524, [(.int .u8 43), (.str [48]), (.str [45, 50])], (.tuple [(.str [45, 50]), (.int .i64 0)])⟩, ⟨222, 2082, [(.int .u8 42), (.str [45, 52]), (.str [49])], (.tuple [(.str [45, 52]), (.int .i64 0)])⟩, ⟨222, 1526, [(.int .u8 43), (.str [48]), (.str [45, 52])], (.tuple [(.str [45, 52]), (.int .i64 0)])⟩, ⟨222, 1387, [(.int .u8 43), (.str [49]), (.str [49])], (.tuple [(.str [50]), (.int .i64 0)])⟩]
theorem rows7_5_ok : rows7_5.all (rowOK E6 4000) = true := by kernel_rfl
def rows7_6 : List Ent := [⟨222, 2067, [(.int .u8 42), (.str [45, 49]), (.str [49])], (.tuple [(.str [45, 49]), (.int .i64 0)])⟩, ⟨222, 1528, [(.int .u8 43), (.str [49]), (.str [45, 49])], (.tuple [(.str [48]), (.int .i64 0)])⟩, ⟨222, 2106, [(.int .u8 43), (.str [45, 52]), (.str [48])], (.tuple [(.str [45, 52]), (.int .i64 0)])⟩, ⟨222, 2333, [(.int .u8 47), (.str [45, 49]), (.str [45, 49])], (.tuple [(.str [49]), (.int .i64 0)])⟩]
theorem rows7_6_ok : rows7_6.all (rowOK E6 4000) = true := by kernel_rfl
end Go.Proofs.YtjbpcddplaakfaaGreatDoor.Det
