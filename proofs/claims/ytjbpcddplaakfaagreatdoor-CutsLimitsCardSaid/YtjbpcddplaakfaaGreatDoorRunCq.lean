/-
  Closed runs over a row of numbers: what is checked, and what it says of every heap.
-/
import Derived.Test.YtjbpcddplaakfaaGreatDoorRunBq
import Derived.Test.YtjbpcddplaakfaaGreatDoorK3
namespace Go.Proofs.YtjbpcddplaakfaaGreatDoor.Det
open Go
set_option linter.unusedVariables false
set_option linter.unusedSimpArgs false
noncomputable def runsU (E : Env) (n g : Nat) (args : List AV) (y : Int) : Bool :=
  AV.underL 1 args && (E.fn g).isSome && acallK E false n g args ⟨.leaf, 1⟩ fun v' _ => AV.same v' (.int .i64 y)
/-- A run on a heap whose first block is not known, and not looked at. -/
theorem runsU_ok {P : Program} {tab : Tab} (htab : TabOK P tab) (hmix : P.follows .mixedOrders = true) {E : Env} (hE : EnvOK P tab E) {n g : Nat} {args : List AV} {y : Int} (h : runsU E n g args y = true) :
    ∃ k, ∀ (i : Nat) (H : AH), Brings P tab g (AV.renL (fun _ => i) args) H (.int .i64 y) ⟨H.m, H.next + k⟩ := by
  simp only [runsU, Bool.and_eq_true, acallK_eq] at h
  obtain ⟨⟨ha, hf⟩, h⟩ := h
  cases hr : acall E n g args ⟨.leaf, 1⟩ with
  | none => rw [hr] at h; cases h
  | some q =>
    obtain ⟨v, H'⟩ := q
    rw [hr] at h
    have := AV.same_eq _ _ h
    subst this
    have hg : ∀ i ob, (⟨.leaf, 1⟩ : AH).get i = some ob → False := fun i ob h => by cases h
    refine ⟨H'.next, fun i H => ?_⟩
    exact gives_of_run htab hmix hE hr hf (fun i ob hi => (hg _ _ hi).elim) (fun i ob hi => (hg _ _ hi).elim) (fun i ob hi => (hg _ _ hi).elim) ha rfl (fun j j' hj hj' _ => by have e1 : j < 1 := hj; have e2 : j' < 1 := hj'; omega) (fun i ob hi => (hg _ _ hi).elim)
noncomputable def upto (p : Nat → Bool) (n : Nat) : Nat → Bool :=
  Nat.rec (motive := fun _ => Nat → Bool) (fun _ => true) (fun _ ih i => Bool.rec (motive := fun _ => Bool) false (ih (Nat.succ i)) (p i)) n
theorem upto_ok {p : Nat → Bool} : ∀ {n i : Nat}, upto p n i = true → ∀ j, i ≤ j → j < i + n → p j = true
  | 0, i, _, j, h1, h2 => by omega
  | n + 1, i, h, j, h1, h2 => by
    have h' : Bool.rec (motive := fun _ => Bool) false (upto p n (i + 1)) (p i) = true := h
    cases hp : p i with
    | false => rw [hp] at h'; cases h'
    | true =>
      rw [hp] at h'
      by_cases e : j = i
      · rw [e]; exact hp
      · exact upto_ok h' j (by omega) (by omega)
def blk (k : Nat) : AB := .cells (rep one k) false none
def argP (k : Nat) : List AV := [.int .i64 0, .slice (some (0, 0)) k k 0, .agg zero]
def okP (v : AV) : Bool := match v with
  | .tuple [x, b, e] => AV.same b (.bool true) && AV.same e (.int .i64 0)
  | _ => false
noncomputable def runP (k : Nat) : Bool := runsOn EL 4000 6 (argP k) (blk k) okP
def argT (L : Nat) : List AV := [.int .i64 0, .slice (some (0, 0)) L L (cond (Nat.beq L 0) 0 4), .agg cut]
noncomputable def runT (L : Nat) : Bool := runsU EL 4000 25 (argT L) 0
noncomputable def runW (L : Nat) : Bool := runsU EL 4000 62 (argT L) 0
end Go.Proofs.YtjbpcddplaakfaaGreatDoor.Det
