/-
  Tables of what calls of values without addresses give.
-/
import Derived.Test.YtjbpcddplaakfaaGreatDoorRunAq
import Derived.Test.YtjbpcddplaakfaaGreatDoorAwCq
import Derived.KernelRfl
namespace Go.Proofs.YtjbpcddplaakfaaGreatDoor.Det
open Go
set_option linter.unusedVariables false
set_option linter.unusedSimpArgs false
set_option maxRecDepth 100000
theorem more_ok2 {P : Program} {tab : Tab} (htab : TabOK P tab) (hmix : P.follows .mixedOrders = true) {E E' : Env} (hE : EnvOK P tab E) (hE' : EnvOK P tab E') {n : Nat} {t : Tbl} (ht : allT (rowOK E' n) t = true) : EnvOK P tab (E.more t) where
  fn := hE.fn
  ext := hE.ext
  prim g args v h := by
    simp only [Env.more] at h
    cases hl : lookT t g args with
    | some v1 => rw [hl] at h; cases h; exact rows_ok htab hmix hE' ht g args _ hl
    | none => rw [hl] at h; exact hE.prim g args v h
noncomputable def ELa : Env := ⟨lookF lits, fun _ _ => none, fun _ => none⟩
theorem ELa_ok : EnvOK Tryz.prog tabP ELa where
  fn g F h := E0_ok.fn g F (lits_ok _ (lookF_mem h))
  ext g p h := by cases h
  prim g args v h := by cases h
def tblM : Tbl := (.node .leaf none (.node (.node .leaf none (.node .leaf (some ((List.range 300).map fun k => ⟨12, 5 + k, [.int .u64 1, .int .u64 (Int.ofNat k)], .tuple [.int .u64 0, .int .u64 (Int.ofNat k)]⟩)) .leaf)) none .leaf))
theorem tblM_ok : allT (rowOK ELa 400) tblM = true := by kernel_rfl
def tblF : Tbl := (.node (.node (.node (.node (.node (.node (.node .leaf (some [⟨63, 0, [(.agg [(.int .i64 0), (.slice none 0 0 0), (.str [48]), (.str [48])]), (.agg [(.int .i64 0), (.slice none 0 0 0), (.str [48]), (.str [48])])], (.bool true)⟩, ⟨63, 0, [(.agg [(.int .i64 0), (.slice none 0 0 0), (.str [49]), (.str [48])]), (.agg [(.int .i64 0), (.slice none 0 0 0), (.str [48]), (.str [48])])], (.bool false)⟩]) .leaf) none .leaf) none .leaf) none (.node (.node .leaf (some [⟨39, 51, [(.str [48])], (.tuple [(.str [48]), (.int .i64 0)])⟩]) (.node (.node .leaf (some [⟨167, 51, [(.str [48])], (.str [48])⟩]) .leaf) none .leaf)) none .leaf)) none (.node (.node (.node (.node (.node .leaf (some [⟨131, 0, [(.agg [(.slice none 0 0 0), (.str [48])])], (.agg [(.slice none 0 0 0), (.str [48])])⟩]) .leaf) none .leaf) none .leaf) none (.node (.node (.node .leaf (some [⟨147, 306, [(.str [48]), (.str [48])], (.int .i64 0)⟩]) .leaf) none .leaf) none (.node (.node .leaf (some [⟨179, 0, [(.slice none 0 0 0)], (.slice none 0 0 0)⟩]) .leaf) none .leaf))) none (.node (.node .leaf none (.node (.node .leaf (some [⟨171, 51, [(.str [48])], (.str [48])⟩]) .leaf) none .leaf)) none (.node .leaf none (.node (.node .leaf (some [⟨187, 52, [(.str [49])], (.bool false)⟩]) .leaf) none .leaf))))) none (.node (.node (.node (.node (.node (.node .leaf (some [⟨129, 0, [(.agg [(.slice none 0 0 0), (.str [48])])], (.int .i64 0)⟩]) .leaf) none (.node .leaf (some [⟨193, 51, [(.str [48])], (.int .i64 0)⟩]) .leaf)) (some [⟨33, 0, [(.agg [(.int .i64 0), (.slice none 0 0 0), (.str [48]), (.str [48])]), (.int .i64 0)], (.int .i64 0)⟩, ⟨33, 0, [(.agg [(.int .i64 0), (.slice none 0 0 0), (.str [49]), (.str [48])]), (.int .i64 0)], (.int .i64 0)⟩]) .leaf) none .leaf) none .leaf) none (.node .leaf none (.node (.node .leaf (some [⟨45, 306, [(.str [48]), (.str [48])], (.str [48])⟩]) .leaf) none .leaf)))) none (.node (.node (.node .leaf none (.node (.node .leaf none (.node (.node .leaf (some [⟨168, 51, [(.str [48])], (.str [48])⟩]) .leaf) none .leaf)) none .leaf)) none (.node (.node (.node (.node (.node .leaf (some [⟨132, 51, [(.str [48])], (.str [48])⟩]) .leaf) (some [⟨68, 0, [(.slice none 0 0 0), (.int .i64 0)], (.int .i64 0)⟩]) .leaf) none .leaf) none .leaf) none (.node (.node (.node .leaf (some [⟨76, 51, [(.str [48])], (.tuple [(.str [48]), (.int .i64 0)])⟩]) .leaf) (some [⟨44, 306, [(.str [48]), (.str [48])], (.int .i64 0)⟩]) .leaf) (some [⟨28, 0, [(.agg [(.int .i64 0), (.slice none 0 0 0), (.str [48]), (.str [48])]), (.agg [(.int .i64 0), (.slice none 0 0 0), (.str [48]), (.str [48])])], (.bool true)⟩, ⟨28, 0, [(.agg [(.int .i64 0), (.slice none 0 0 0), (.str [49]), (.str [48])]), (.agg [(.int .i64 0), (.slice none 0 0 0), (.str [48]), (.str [48])])], (.bool false)⟩]) .leaf))) none (.node (.node (.node (.node (.node (.node .leaf (some [⟨130, 0, [(.agg [(.int .i64 0), (.slice none 0 0 0), (.str [49]), (.str [48])]), (.int .i64 0)], (.int .i64 0)⟩]) .leaf) none .leaf) none .leaf) none .leaf) none (.node (.node (.node .leaf (some [⟨74, 0, [(.agg [(.slice none 0 0 0), (.str [48])]), (.slice none 0 0 0)], (.int .i64 0)⟩]) .leaf) none .leaf) none .leaf)) none (.node (.node .leaf none (.node .leaf (some [⟨54, 0, [(.agg [(.int .i64 0), (.slice none 0 0 0), (.str [48]), (.str [48])]), (.int .i64 0)], (.int .i64 0)⟩, ⟨54, 0, [(.agg [(.int .i64 0), (.slice none 0 0 0), (.str [49]), (.str [48])]), (.int .i64 0)], (.int .i64 0)⟩]) .leaf)) none (.node (.node .leaf (some [⟨46, 51, [(.str [48])], (.str [48])⟩]) .leaf) none .leaf)))))
theorem tblF_ok : allT (rowOK E8 4000) tblF = true := by kernel_rfl
noncomputable def EL : Env := (ELa.more tblM).more tblF
theorem EL_ok : EnvOK Tryz.prog tabP EL := more_ok2 tabP_ok mixed (more_ok2 tabP_ok mixed ELa_ok ELa_ok tblM_ok) E8_ok tblF_ok
end Go.Proofs.YtjbpcddplaakfaaGreatDoor.Det
