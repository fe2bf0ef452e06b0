/-
  CutsLimits: what its calls are known to give, and the law's contract.
-/
import Derived.Test.YtjbpcddplaakfaaGreatDoorRunPq
import Derived.KernelRfl
namespace Go.Proofs.YtjbpcddplaakfaaGreatDoor.Det
open Go
set_option linter.unusedVariables false
set_option linter.unusedSimpArgs false
set_option maxRecDepth 100000
theorem fn3 : E0.fn 3 = some F3 := by kernel_rfl
theorem fn4 : E0.fn 4 = some F4 := by kernel_rfl
theorem fn5 : E0.fn 5 = some F5 := by kernel_rfl
theorem fn6' : E0.fn 6 = some F6 := by kernel_rfl
theorem fn8' : E0.fn 8 = some F8 := by kernel_rfl
theorem fn9 : E0.fn 9 = some F9 := by kernel_rfl
theorem fn10 : E0.fn 10 = some F10 := by kernel_rfl
theorem fn11 : E0.fn 11 = some F11 := by kernel_rfl
theorem fn13' : E0.fn 13 = some F13 := by kernel_rfl
theorem fn22' : E0.fn 22 = some F22 := by kernel_rfl
theorem fn23 : E0.fn 23 = some F23 := by kernel_rfl
theorem fn24 : E0.fn 24 = some F24 := by kernel_rfl
theorem fn26 : E0.fn 26 = some F26 := by kernel_rfl
theorem fn27 : E0.fn 27 = some F27 := by kernel_rfl
theorem fn29 : E0.fn 29 = some F29 := by kernel_rfl
theorem fn30 : E0.fn 30 = some F30 := by kernel_rfl
theorem fn40' : E0.fn 40 = some F40 := by kernel_rfl
/-- What a call brings, where something of this kind is known to come. -/
noncomputable def extBy (P : Program) (tab : Tab) (g : Nat) (Q : List AV → AH → AV × AH → Prop) : List AV → AH → Option (AV × AH) := fun args H =>
  open Classical in if h : ∃ q : AV × AH, Brings P tab g args H q.1 q.2 ∧ Q args H q then some h.choose else none
theorem extBy_ok {P : Program} {tab : Tab} {g : Nat} {Q : List AV → AH → AV × AH → Prop} : ∀ args H v H', extBy P tab g Q args H = some (v, H') → Brings P tab g args H v H' := by
  intro args H v H' h
  simp only [extBy] at h
  split at h
  · rename_i hx
    have := hx.choose_spec.1
    rw [Option.some.inj h] at this
    exact this
  · cases h
theorem extBy_some {P : Program} {tab : Tab} {g : Nat} {Q : List AV → AH → AV × AH → Prop} {args : List AV} {H : AH} (h : ∃ q : AV × AH, Brings P tab g args H q.1 q.2 ∧ Q args H q) : ∃ q, extBy P tab g Q args H = some q ∧ Q args H q :=
  ⟨_, dif_pos h, h.choose_spec.2⟩
theorem C_ext {E : Env} {g : Nat} {p : List AV → AH → Option (AV × AH)} {args : List AV} {H : AH} {q : AV × AH} (hp : E.prim g args = none) (he : E.ext g = some p) (h : p args H = some q) (hn : H.next ≤ q.2.next) : C E g args H = some q := by
  rw [C_eq]
  simp only [stepC, hp, he, h]
  rw [show Nat.ble H.next q.2.next = true from Nat.ble_eq_true_of_le hn]; rfl
def okNum (args : List AV) (H : AH) (q : AV × AH) : Prop := q.1 = .int .i64 0 ∧ Keeps H q.2
def okProve (args : List AV) (H : AH) (q : AV × AH) : Prop := ∀ k b, args = [.int .i64 0, .slice (some (b, 0)) k k 0, .agg zero] → (∃ x, q.1 = .tuple [x, .bool (decide (k ≤ 64)), .int .i64 (if k ≤ 64 then 0 else 5)]) ∧ Keeps H q.2
noncomputable def extM : Nat → Option (List AV → AH → Option (AV × AH)) := fun g =>
  cond (Nat.beq g 6) (some (extBy Tryz.prog tabP 6 okProve)) (cond (Nat.beq g 25) (some (extBy Tryz.prog tabP 25 okNum)) (cond (Nat.beq g 62) (some (extBy Tryz.prog tabP 62 okNum)) none))
theorem extM_ok : ∀ g p, extM g = some p → ∀ args H v H', p args H = some (v, H') → Brings Tryz.prog tabP g args H v H' := by
  intro g p h
  simp only [extM] at h
  cases h1 : Nat.beq g 6 with
  | true => rw [h1] at h; cases h; rw [Nat.eq_of_beq_eq_true h1]; exact extBy_ok
  | false =>
    rw [h1, cond_false] at h
    cases h2 : Nat.beq g 25 with
    | true => rw [h2] at h; cases h; rw [Nat.eq_of_beq_eq_true h2]; exact extBy_ok
    | false =>
      rw [h2, cond_false] at h
      cases h3 : Nat.beq g 62 with
      | true => rw [h3] at h; cases h; rw [Nat.eq_of_beq_eq_true h3]; exact extBy_ok
      | false => rw [h3] at h; cases h
def primM (g : Nat) (args : List AV) : Option AV := cond (Nat.beq g 7) (cond (AV.sameL [] args) (some (.bool true)) none) none
theorem primM_ok (g : Nat) (args : List AV) (v : AV) (h : primM g args = some v) : PrimOK Tryz.prog tabP g args v := by
  simp only [primM] at h
  cases h1 : Nat.beq g 7 with
  | false => rw [h1] at h; cases h
  | true =>
    rw [h1, cond_true] at h
    cases h2 : AV.sameL [] args with
    | false => rw [h2] at h; cases h
    | true =>
      rw [h2] at h; cases h
      rw [Nat.eq_of_beq_eq_true h1, ← AV.sameL_eq _ _ h2]
      exact awake_prim
noncomputable def EX (x : Nat → Option (List AV → AH → Option (AV × AH))) : Env := (Env.more (Env.more ⟨E0.fn, primM, x⟩ tblM) tblF)
theorem EX_ok {x : Nat → Option (List AV → AH → Option (AV × AH))} (hx : ∀ g p, x g = some p → ∀ args H v H', p args H = some (v, H') → Brings Tryz.prog tabP g args H v H') : EnvOK Tryz.prog tabP (EX x) :=
  more_ok2 tabP_ok mixed (more_ok2 tabP_ok mixed (E := ⟨E0.fn, primM, x⟩) ⟨E0_ok.fn, hx, primM_ok⟩ ELa_ok tblM_ok) E8_ok tblF_ok
noncomputable abbrev EN : Env := EX fun _ => none
theorem EN_ok : EnvOK Tryz.prog tabP EN := EX_ok fun g p h => by cases h
noncomputable abbrev EM : Env := EX extM
theorem EM_ok : EnvOK Tryz.prog tabP EM := EX_ok extM_ok
theorem EN_chk : Chk EN where
  k8 := ⟨fn8', fun _ => rfl, rfl⟩
  k9 := ⟨fn9, fun _ => rfl, rfl⟩
  k13 := ⟨fn13', fun _ => rfl, rfl⟩
  k22 := ⟨fn22', fun _ => rfl, rfl⟩
  k23 := ⟨fn23, fun _ => rfl, rfl⟩
  k29 := ⟨fn29, fun _ => rfl, rfl⟩
  fc1 := by kernel_rfl
  fc0 := by kernel_rfl
  rc1 := by kernel_rfl
  rc0 := by kernel_rfl
theorem brings_of {g : Nat} {args : List AV} {H : AH} {q : AV × AH} (h : C EN g args H = some q) : Brings Tryz.prog tabP g args H q.1 q.2 := by
  obtain ⟨v, H'⟩ := q
  obtain ⟨n, hr⟩ := C_run h
  exact (fns_sound tabP_ok mixed EN_ok n).2 g args H v H' hr
theorem of_num {g : Nat} {args : List AV} {H : AH} (h : ∃ k, Brings Tryz.prog tabP g args H (.int .i64 0) ⟨H.m, H.next + k⟩) : ∃ q : AV × AH, Brings Tryz.prog tabP g args H q.1 q.2 ∧ okNum args H q := by
  obtain ⟨k, h⟩ := h
  exact ⟨(.int .i64 0, ⟨H.m, H.next + k⟩), h, rfl, Keeps.more H k⟩
theorem argT_at (L b : Nat) : AV.renL (fun _ => b) (argT L) = [.int .i64 0, .slice (some (b, 0)) L L (if L = 0 then 0 else 4), .agg cut] := by
  by_cases h : L = 0
  · subst h; rfl
  · simp only [argT, beq_dec, h, decide_false, cond_false, if_false]; rfl
theorem tried_ex {L b : Nat} {H : AH} (hL : L ≤ 512) : ∃ q : AV × AH, Brings Tryz.prog tabP 25 [.int .i64 0, .slice (some (b, 0)) L L (if L = 0 then 0 else 4), .agg cut] H q.1 q.2 ∧ okNum [.int .i64 0, .slice (some (b, 0)) L L (if L = 0 then 0 else 4), .agg cut] H q := by
  obtain ⟨k, h⟩ := runsU_ok tabP_ok mixed EL_ok (runT_all L hL)
  exact of_num ⟨k, by rw [← argT_at]; exact h b H⟩
theorem follows_ex {L b : Nat} {H : AH} (hL : L ≤ 512) : ∃ q : AV × AH, Brings Tryz.prog tabP 62 [.int .i64 0, .slice (some (b, 0)) L L (if L = 0 then 0 else 4), .agg cut] H q.1 q.2 ∧ okNum [.int .i64 0, .slice (some (b, 0)) L L (if L = 0 then 0 else 4), .agg cut] H q := by
  obtain ⟨k, h⟩ := runsU_ok tabP_ok mixed EL_ok (runW_all L hL)
  exact of_num ⟨k, by rw [← argT_at]; exact h b H⟩
theorem okP_of {v : AV} (h : okP v = true) : ∃ x, v = .tuple [x, .bool true, .int .i64 0] := by
  unfold okP at h
  split at h
  · rename_i x b e
    simp only [Bool.and_eq_true] at h
    exact ⟨x, by rw [AV.same_eq _ _ h.1, AV.same_eq _ _ h.2]⟩
  · cases h
theorem prove_ex {k b : Nat} {H : AH} (hk : k < 300) (hbn : b < H.next) (hb : H.get b = some (.cells (rep one k) false none)) :
    ∃ q : AV × AH, Brings Tryz.prog tabP 6 [.int .i64 0, .slice (some (b, 0)) k k 0, .agg zero] H q.1 q.2 ∧ okProve [.int .i64 0, .slice (some (b, 0)) k k 0, .agg zero] H q := by
  by_cases c : k ≤ 64
  · obtain ⟨v, k', _, hok, h⟩ := runsOn_ok tabP_ok mixed EL_ok (runP_all k c)
    obtain ⟨x, rfl⟩ := okP_of hok
    refine ⟨(AV.ren (fun j => H.next + j) (.tuple [x, .bool true, .int .i64 0]), ⟨H.m, H.next + k'.next⟩), h b H hb, fun k2 b2 e => ?_⟩
    simp only [List.cons.injEq, AV.slice.injEq, and_true, true_and] at e
    obtain ⟨_, rfl, _⟩ := e
    rw [if_pos c, decide_eq_true c]
    exact ⟨⟨_, rfl⟩, Keeps.more H _⟩
  · obtain ⟨q, hq, h1, h2⟩ := prove_many EN_chk ⟨fn6', fun _ => rfl, rfl⟩ hb hbn hk (by omega)
    refine ⟨q, brings_of hq, fun k2 b2 e => ?_⟩
    simp only [List.cons.injEq, AV.slice.injEq, and_true, true_and] at e
    obtain ⟨_, rfl, _⟩ := e
    rw [if_neg c, decide_eq_false c]
    exact ⟨⟨_, h1⟩, h2⟩
theorem EM_chk : Chk EM where
  k8 := ⟨fn8', fun _ => rfl, rfl⟩
  k9 := ⟨fn9, fun _ => rfl, rfl⟩
  k13 := ⟨fn13', fun _ => rfl, rfl⟩
  k22 := ⟨fn22', fun _ => rfl, rfl⟩
  k23 := ⟨fn23, fun _ => rfl, rfl⟩
  k29 := ⟨fn29, fun _ => rfl, rfl⟩
  fc1 := by kernel_rfl
  fc0 := by kernel_rfl
  rc1 := by kernel_rfl
  rc0 := by kernel_rfl
theorem mul_ok : upto (fun k => match EM.prim 12 [.int .u64 1, .int .u64 (Int.ofNat k)] with | some v => AV.same v (.tuple [.int .u64 0, .int .u64 (Int.ofNat k)]) | none => false) 300 0 = true := by kernel_rfl
theorem mul_at {k : Nat} (h : k < 300) : EM.prim 12 [.int .u64 1, .int .u64 (k : Int)] = some (.tuple [.int .u64 0, .int .u64 (k : Int)]) := by
  have := upto_ok mul_ok k (Nat.zero_le _) (by omega)
  split at this
  · rename_i v hv
    rw [AV.same_eq _ _ this] at hv; exact hv
  · cases this
theorem EM_all : All EM where
  k10 := ⟨fn10, fun _ => rfl, rfl⟩
  k11 := ⟨fn11, fun _ => rfl, rfl⟩
  k24 := ⟨fn24, fun _ => rfl, rfl⟩
  k26 := ⟨fn26, fun _ => rfl, rfl⟩
  k27 := ⟨fn27, fun _ => rfl, rfl⟩
  k30 := ⟨fn30, fun _ => rfl, rfl⟩
  k40 := ⟨fn40', fun _ => rfl, rfl⟩
  same1 := by kernel_rfl
  same0 := by kernel_rfl
  rsame1 := by kernel_rfl
  rsame0 := by kernel_rfl
  claimed k b H hk hbn hb := claimed_c EM_chk hb hbn hk
  claim k b H hk hbn hb := claim_c EM_chk hb hbn hk
  tried L b H hL := by
    obtain ⟨q, h1, h2, h3⟩ := extBy_some (tried_ex (b := b) (H := H) hL)
    exact ⟨q, C_ext rfl rfl h1 h3.1, h2, h3⟩
  follows L b H hL := by
    obtain ⟨q, h1, h2, h3⟩ := extBy_some (follows_ex (b := b) (H := H) hL)
    exact ⟨q, C_ext rfl rfl h1 h3.1, h2, h3⟩
  k3 := ⟨fn3, fun _ => rfl, rfl⟩
  k4 := ⟨fn4, fun _ => rfl, rfl⟩
  k5 := ⟨fn5, fun _ => rfl, rfl⟩
  mul k hk := mul_at hk
  awake := by kernel_rfl
  check k b H hk hbn hb := check_c EM_chk hb hbn hk
  rcheck k b H hk hbn hb := (rcheck_c EM_chk hb hk).mono fun q hq => ⟨hq.1, by rw [hq.2]; exact Keeps.refl _⟩
  prove k b H hk hbn hb := by
    obtain ⟨q, h1, h2⟩ := extBy_some (prove_ex hk hbn hb)
    obtain ⟨h3, h4⟩ := h2 k b rfl
    exact ⟨q, C_ext rfl rfl h1 h4.1, h3, h4⟩
theorem limits_prim {A B : Nat} (hA : A < 65536) (hB : B < 65536) : PrimOK Tryz.prog tabP 3 [.int .u16 (A : Int), .int .u16 (B : Int)] (.bool true) := by
  obtain ⟨⟨v, H'⟩, hr, rfl⟩ := limits_c EM_all H0 hA hB
  obtain ⟨n, h⟩ := C_run hr
  exact primOK_of_run tabP_ok mixed EM_ok h (by kernel_rfl) rfl rfl
end Go.Proofs.YtjbpcddplaakfaaGreatDoor.Det
