/-
  The run of the row: CutsLimits answers true, and its arguments read as before.
-/
import Derived.Test.YtjbpcddplaakfaaGreatDoorCards
import Derived.Test.YtjbpcddplaakfaaGreatDoorTie
import Derived.Test.YtjbpcddplaakfaaGreatDoorSymQq
import Derived.Test.YtjbpcddplaakfaaGreatDoorK3
import Derived.Lib.LaidTab
import Derived.Stop.LaidErr
import Derived.WideShapes
import Derived.WalkKit
import Derived.ProofKit
import Derived.OpenShut
import Derived.ChangeSame
import Derived.ChangeVars
import Derived.JoinedOf
import Derived.RowKit
import Derived.LaidLaws
import Derived.LaidSub
import Derived.Lay
import Derived.MakeChecks
import Derived.Stop.Joined
import Derived.SevenTiedAt
import Derived.KernelRfl
namespace Go.Proofs.YtjbpcddplaakfaaGreatDoor.cutsLimits
open Go Go.ChangeShapes Go.WideShapes Go.ChangeAt Go.RowKit
set_option linter.unusedVariables false
set_option linter.unusedSimpArgs false

theorem own : ownKnob Tryz.prog.godebug = none := by kernel_rfl
abbrev laid : List (String × DataW Unit) := Rows.cutsLimitsRow.laid
theorem plain : (laid.all fun x => x.2.handleName?.isNone) = true := by kernel_rfl
noncomputable abbrev laidWorld (os : Os) : World := World.laidAll Tryz.prog os laid
set_option maxRecDepth 100000 in
theorem laid_met (os : Os) (args : Array Value) : laidMetH Tryz.prog laid ((laidWorld os).forCall (fun _ _ => 0) ⟨#[], args, []⟩).memory := by
  rw [Go.MakeChecks.laidMetH_plain _ _ _ plain]
  exact laidMet_laidAll args (by kernel_rfl) (by kernel_rfl)
theorem name1 : Tryz.prog.globalNamed "internal/strconv.uint64pow10" = some Det.layG := by kernel_rfl
theorem lay_of_tab {w : World} (h : Lib.TabIs Tryz.prog w "internal/strconv.uint64pow10" .u64 Det.layC) : Det.LayV w.heap[Det.layG]? := by
  have h' : w.var? Tryz.prog "internal/strconv.uint64pow10" = some (Det.layC.map fun z => Value.int .u64 z).toArray := h
  unfold World.var? at h'
  rw [name1, Option.bind_some] at h'
  split at h'
  · rename_i c e fr he
    cases h'
    rw [he]; exact rfl
  · cases h'
theorem laid_fact {w : World} (h : laidMetH Tryz.prog laid w) : Det.LayV w.heap[Det.layG]? := by
  rw [Go.MakeChecks.laidMetH_plain _ _ _ plain] at h
  have h2 : laidMet Tryz.prog (("internal/strconv.uint64pow10", Lib.tabData .u64 Det.layC) :: laid.tail.tail.tail) w := laidMet.tail (laidMet.tail h)
  exact lay_of_tab (Lib.tabIs_of_head (t := 313) (e := 70) (n := 20) name1 (by kernel_rfl) (by kernel_rfl) (by kernel_rfl) (by kernel_rfl) (by kernel_rfl) h2)
theorem walk {A B : Nat} (hA : A < 65536) (hB : B < 65536) (w : World) (hlay : Det.LayV w.heap[Det.layG]?) :
    Calls Tryz.prog 3 #[.int .u16 (A : Int), .int .u16 (B : Int)] w fun e w' => e = .returned (.bool true) ∧ Det.Kept w w' := by
  refine ((Det.limits_prim hA hB).calls (args' := #[.int .u16 (A : Int), .int .u16 (B : Int)]) ⟨rfl, rfl, trivial⟩ w hlay).mono ?_
  rintro e w' ⟨⟨y, rfl, h⟩, hk⟩
  exact ⟨by rw [show y = .bool true from h], hk⟩
theorem u16_nat {n : Int} (h : (Lit.int .u16 n).wf = true) : ∃ A : Nat, A < 65536 ∧ n = (A : Int) := by
  simp only [Lit.wf, Bool.and_eq_true, decide_eq_true_eq] at h
  have h1 : (0 : Int) ≤ n := h.1
  have h2 : n ≤ 65535 := h.2
  exact ⟨n.toNat, by omega, by omega⟩

set_option maxRecDepth 100000 in
theorem lifted (os : Os) (started : os.Started) (H : Type) (enc : TypeId × Value → H) :
    ReturnsInHanded {} Tryz.checked os 3 .any (fun w args => (Rows.cutsLimitsSpec.pre enc Tryz.prog Tryz.f3 [] false w args ∧ laidMetH Tryz.prog laid w) ∧ sizedMet enc Tryz.prog Tryz.f3 (OpenSpec.ofChange Rows.cutsLimitsSpec) false w args)
      (Rows.cutsLimitsSpec.post enc Tryz.prog Tryz.f3 false true false false) := by
  refine returnsInHanded_of_change_and (C := Tryz.checked) (X := fun w _ => laidMetH Tryz.prog laid w) (fun _ _ _ hh h => h.of_heap hh) own started (by kernel_rfl) Tryz.func3
    (ChangeSpec.witness_shaped (enc := enc) (C := Tryz.checked) (os := os) (X := fun w _ => laidMetH Tryz.prog laid w) false (laidWorld os) #[.int .u16 0, .int .u16 0] 8 (World.laidAll_os _ _ _) (World.shaped_of_ZipB (by kernel_rfl) (by kernel_rfl)) (by kernel_rfl) (by kernel_rfl) (by kernel_rfl) (laid_met os _)) ?_
  intro W base args ds gs before hval0 hW _ _ hX _
  have hval : ∀ (j : Nat) t v, Tryz.f3.params[j]? = some t → args[j]? = some v → Value.okWide Tryz.prog W .any base t v := hval0
  have hW' := hW
  obtain ⟨p, q, hA0, hV, rfl, hfz, hnd⟩ := hW
  have hA : DataW.TrodAll enc Tryz.prog W 0 (fun _ => true) true Tryz.f3.params.toList args.toList ds p := hA0
  rw [Tryz.params3] at hA hval
  obtain ⟨v0, vs0, d0, ds0, p0, q0, hargs, rfl, rfl, h0, r0⟩ := trodAll_cons hA
  obtain ⟨v1, vs1, d1, ds1, p1, q1, rfl, rfl, rfl, h1, r1⟩ := trodAll_cons r0
  obtain ⟨rfl, rfl, rfl⟩ := trodAll_nil r1
  obtain rfl : args = #[v0, v1] := by cases args; simp_all
  obtain ⟨rfl, rfl⟩ := trodVars_none hV
  obtain ⟨a0, rfl, rfl, rfl, w0⟩ := open_int Tryz.underlying22 (hval 0 22 v0 rfl rfl) h0
  obtain ⟨a1, rfl, rfl, rfl, w1⟩ := open_int Tryz.underlying22 (hval 1 22 v1 rfl rfl) h1
  have hlay := laid_fact hX
  clear hA0 hval0
  simp only [List.append_nil] at hW'
  obtain ⟨A, hA1, rfl⟩ := u16_nat w0
  obtain ⟨B, hB1, rfl⟩ := u16_nat w1
  refine (walk hA1 hB1 W hlay).mono fun e W' ⟨he, hg⟩ => ?_
  subst he
  exact ⟨_, rfl, Det.post_of_kept (pa := []) (pv := []) hW' (fun _ _ _ => (trodAll_cons_mk (shut_bool Tryz.underlying4 _) trodAll_mk0)) (fun sp _ => (trodAll_cons_mk (shut_int Tryz.underlying22 w0) (trodAll_cons_mk (shut_int Tryz.underlying22 w1) trodAll_mk0))) (fun _ _ => rfl) rfl
    hg (ok_one (by kernel_rfl) rfl (okWide_bool_mk Tryz.underlying4 _))⟩

end Go.Proofs.YtjbpcddplaakfaaGreatDoor.cutsLimits
