/-
  Joined out of: DetA DetB DetC DetD DetE DetF DetG DetH DetI DetJ DetK DetL DetM.
-/
import Derived.RangeFuncLeaves
import Derived.OrdersIn
import Derived.LoopNIn
import Derived.Laws.StructEq
import Derived.MapKept
import Derived.Laws.BytesString
import Derived.Laws.AppendOwn

/-! A small deterministic interpreter for the fragment of Go's operations that this program uses: abstract values, an abstract heap (a trie), operations, code, and its run with a number of rounds. Definitions alone (and the trie's laws). What it says of the machine stands in the texts behind it. -/
namespace Go.Proofs.YtjbpcddplaakfaaGreatDoor.Det
open Go
set_option linter.unusedVariables false
set_option linter.unusedSimpArgs false

/-! ### A trie over the natural numbers -/
inductive PT (α : Type) where
  | leaf
  | node (l : PT α) (v : Option α) (r : PT α)

namespace PT
variable {α : Type}
def get : PT α → Nat → Option α
  | leaf, _ => none
  | node l v r, i => cond (Nat.beq i 0) v (cond (Nat.beq (i % 2) 1) (l.get (i / 2)) (r.get (i / 2 - 1)))
def setF : Nat → PT α → Nat → Option α → PT α
  | 0, t, _, _ => t
  | n + 1, leaf, i, x => cond (Nat.beq i 0) (node leaf x leaf) (cond (Nat.beq (i % 2) 1) (node (setF n leaf (i / 2) x) none leaf) (node leaf none (setF n leaf (i / 2 - 1) x)))
  | n + 1, node l v r, i, x => cond (Nat.beq i 0) (node l x r) (cond (Nat.beq (i % 2) 1) (node (setF n l (i / 2) x) v r) (node l v (setF n r (i / 2 - 1) x)))
def set (t : PT α) (i : Nat) (x : Option α) : PT α := setF (i + 1) t i x

theorem get_leaf (i : Nat) : (leaf : PT α).get i = none := rfl
theorem get_setF : ∀ (n : Nat) (t : PT α) (i : Nat) (x : Option α) (j : Nat), i < n → (setF n t i x).get j = if j = i then x else t.get j := by
  intro n
  induction n with
  | zero => intro t i x j h; omega
  | succ n ih =>
    intro t i x j h
    have key : ∀ (l : PT α) (v : Option α) (r : PT α), (cond (Nat.beq i 0) (node l x r) (cond (Nat.beq (i % 2) 1) (node (setF n l (i / 2) x) v r) (node l v (setF n r (i / 2 - 1) x)))).get j
        = if j = i then x else (node l v r).get j := by
      intro l v r
      by_cases h0 : i = 0
      · subst h0
        have : Nat.beq 0 0 = true := rfl
        rw [this]
        simp only [cond_true, get]
        by_cases hj : j = 0
        · subst hj; rfl
        · have : Nat.beq j 0 = false := by cases hb : Nat.beq j 0 <;> simp_all [Nat.beq_eq]
          simp [this, hj]
      · have e0 : Nat.beq i 0 = false := by cases hb : Nat.beq i 0 <;> simp_all [Nat.beq_eq]
        rw [e0]
        simp only [cond_false]
        by_cases h1 : i % 2 = 1
        · have e1 : Nat.beq (i % 2) 1 = true := by simp [Nat.beq_eq, h1]
          rw [e1]
          simp only [cond_true, get]
          by_cases hj0 : j = 0
          · subst hj0; have : Nat.beq 0 0 = true := rfl; rw [this]; simp; omega
          · have ej0 : Nat.beq j 0 = false := by cases hb : Nat.beq j 0 <;> simp_all [Nat.beq_eq]
            rw [ej0]
            simp only [cond_false]
            by_cases hj1 : j % 2 = 1
            · have ej1 : Nat.beq (j % 2) 1 = true := by simp [Nat.beq_eq, hj1]
              rw [ej1]
              simp only [cond_true]
              rw [ih _ _ _ _ (by omega)]
              by_cases hji : j = i
              · subst hji; simp
              · rw [if_neg hji, if_neg (by omega)]
            · have ej1 : Nat.beq (j % 2) 1 = false := by cases hb : Nat.beq (j % 2) 1 <;> simp_all [Nat.beq_eq]
              rw [ej1]
              simp only [cond_false]
              rw [if_neg (by omega)]
        · have e1 : Nat.beq (i % 2) 1 = false := by cases hb : Nat.beq (i % 2) 1 <;> simp_all [Nat.beq_eq]
          rw [e1]
          simp only [cond_false, get]
          by_cases hj0 : j = 0
          · subst hj0; have : Nat.beq 0 0 = true := rfl; rw [this]; simp; omega
          · have ej0 : Nat.beq j 0 = false := by cases hb : Nat.beq j 0 <;> simp_all [Nat.beq_eq]
            rw [ej0]
            simp only [cond_false]
            by_cases hj1 : j % 2 = 1
            · have ej1 : Nat.beq (j % 2) 1 = true := by simp [Nat.beq_eq, hj1]
              rw [ej1]
              simp only [cond_true]
              rw [if_neg (by omega)]
            · have ej1 : Nat.beq (j % 2) 1 = false := by cases hb : Nat.beq (j % 2) 1 <;> simp_all [Nat.beq_eq]
              rw [ej1]
              simp only [cond_false]
              rw [ih _ _ _ _ (by omega)]
              by_cases hji : j = i
              · subst hji; simp
              · rw [if_neg hji, if_neg (by omega)]
    cases t with
    | leaf => simp only [setF]; rw [key leaf none leaf]; simp [get]
    | node l v r => simp only [setF]; exact key l v r
theorem get_set (t : PT α) (i : Nat) (x : Option α) (j : Nat) : (t.set i x).get j = if j = i then x else t.get j := get_setF _ _ _ _ _ (Nat.lt_succ_self i)
theorem get_set_same (t : PT α) (i : Nat) (x : Option α) : (t.set i x).get i = x := by rw [get_set, if_pos rfl]
theorem get_set_ne (t : PT α) {i j : Nat} (x : Option α) (h : j ≠ i) : (t.set i x).get j = t.get j := by rw [get_set, if_neg h]
end PT
end Go.Proofs.YtjbpcddplaakfaaGreatDoor.Det

/-! The interpreter: abstract values, operations, code, a run with a number of rounds. Definitions alone. -/
namespace Go.Proofs.YtjbpcddplaakfaaGreatDoor.Det
open Go
set_option linter.unusedVariables false
set_option linter.unusedSimpArgs false

/-! ### Values -/
inductive AV where
  | int (k : IntKind) (n : Int)
  | bool (b : Bool)
  | str (s : List UInt8)
  | ptr (a : Option (Nat × Nat))
  | slice (a : Option (Nat × Nat)) (len cap : Nat) (ex : Nat)    -- ex: 0, the capacity is known; else the cells of an element, the capacity is drawn
  | map (r : Option Nat)
  | func (f : Nat) (first captured : List AV)
  | yield (l : Nat)
  | nilFunc
  | iface (t : Nat) (v : AV)
  | nilIface
  | agg (cells : List AV)
  | tuple (vs : List AV)
  deriving Inhabited

def IntKind.same : IntKind → IntKind → Bool
  | .i8, .i8 | .i16, .i16 | .i32, .i32 | .i64, .i64 | .u8, .u8 | .u16, .u16 | .u32, .u32 | .u64, .u64 => true
  | _, _ => false
theorem IntKind.same_eq {a b : IntKind} (h : IntKind.same a b = true) : a = b := by cases a <;> cases b <;> simp_all [IntKind.same]

def Int.same : Int → Int → Bool
  | .ofNat a, .ofNat b => Nat.beq a b
  | .negSucc a, .negSucc b => Nat.beq a b
  | _, _ => false
theorem Int.same_eq {a b : Int} (h : Int.same a b = true) : a = b := by
  cases a <;> cases b <;> simp_all [Int.same, Nat.beq_eq]
def bytesSame : List UInt8 → List UInt8 → Bool
  | [], [] => true
  | a :: as, b :: bs => Nat.beq a.toNat b.toNat && bytesSame as bs
  | _, _ => false
theorem bytesSame_iff : ∀ {a b : List UInt8}, bytesSame a b = true ↔ a = b
  | [], [] => by simp [bytesSame]
  | [], _ :: _ => by simp [bytesSame]
  | _ :: _, [] => by simp [bytesSame]
  | a :: as, b :: bs => by simp [bytesSame, bytesSame_iff, Nat.beq_eq, UInt8.toNat_inj]
def optSame : Option (Nat × Nat) → Option (Nat × Nat) → Bool
  | none, none => true
  | some (a, b), some (c, d) => Nat.beq a c && Nat.beq b d
  | _, _ => false
theorem optSame_eq {a b : Option (Nat × Nat)} (h : optSame a b = true) : a = b := by
  match a, b, h with
  | none, none, _ => rfl
  | some (a, b), some (c, d), h => simp [optSame, Nat.beq_eq] at h; simp [h]
  | none, some _, h => simp [optSame] at h
  | some _, none, h => simp [optSame] at h
mutual
def AV.same : AV → AV → Bool
  | .int k n, .int k' n' => IntKind.same k k' && Int.same n n'
  | .bool b, .bool b' => b == b'
  | .str s, .str s' => bytesSame s s'
  | .ptr a, .ptr a' => optSame a a'
  | .slice a l c e, .slice a' l' c' e' => optSame a a' && Nat.beq l l' && Nat.beq c c' && Nat.beq e e'
  | .map none, .map none => true
  | .map (some a), .map (some b) => Nat.beq a b
  | .func f x y, .func f' x' y' => Nat.beq f f' && AV.sameL x x' && AV.sameL y y'
  | .yield l, .yield l' => Nat.beq l l'
  | .nilFunc, .nilFunc => true
  | .iface t v, .iface t' v' => Nat.beq t t' && AV.same v v'
  | .nilIface, .nilIface => true
  | .agg x, .agg x' => AV.sameL x x'
  | .tuple x, .tuple x' => AV.sameL x x'
  | _, _ => false
def AV.sameL : List AV → List AV → Bool
  | [], [] => true
  | a :: as, b :: bs => AV.same a b && AV.sameL as bs
  | _, _ => false
end
mutual
theorem AV.same_eq : ∀ (a b : AV), AV.same a b = true → a = b
  | .int k n, b, h => by
    cases b <;> simp [AV.same] at h
    rw [IntKind.same_eq h.1, Int.same_eq h.2]
  | .bool b, c, h => by cases c <;> simp [AV.same] at h; rw [h]
  | .str s, c, h => by cases c <;> simp [AV.same] at h; rw [bytesSame_iff.1 h]
  | .ptr a, c, h => by cases c <;> simp [AV.same] at h; rw [optSame_eq h]
  | .slice a l c e, x, h => by
    cases x <;> simp [AV.same, Nat.beq_eq] at h
    rw [optSame_eq h.1.1.1, h.1.1.2, h.1.2, h.2]
  | .map none, x, h => by
    cases x with
    | map r => cases r <;> simp [AV.same] at h; rfl
    | _ => simp [AV.same] at h
  | .map (some r), x, h => by
    cases x with
    | map r => cases r <;> simp [AV.same, Nat.beq_eq] at h; rw [h]
    | _ => simp [AV.same] at h
  | .func f x y, z, h => by
    cases z <;> simp [AV.same, Nat.beq_eq] at h
    rw [h.1.1, AV.sameL_eq _ _ h.1.2, AV.sameL_eq _ _ h.2]
  | .yield l, z, h => by cases z <;> simp [AV.same, Nat.beq_eq] at h; rw [h]
  | .nilFunc, z, h => by cases z <;> simp [AV.same] at h; rfl
  | .iface t v, z, h => by
    cases z <;> simp [AV.same, Nat.beq_eq] at h
    rw [h.1, AV.same_eq _ _ h.2]
  | .nilIface, z, h => by cases z <;> simp [AV.same] at h; rfl
  | .agg x, z, h => by cases z <;> simp [AV.same] at h; rw [AV.sameL_eq _ _ h]
  | .tuple x, z, h => by cases z <;> simp [AV.same] at h; rw [AV.sameL_eq _ _ h]
theorem AV.sameL_eq : ∀ (a b : List AV), AV.sameL a b = true → a = b
  | [], [], _ => rfl
  | a :: as, b :: bs, h => by
    simp [AV.sameL] at h
    rw [AV.same_eq _ _ h.1, AV.sameL_eq _ _ h.2]
  | [], _ :: _, h => by simp [AV.sameL] at h
  | _ :: _, [], h => by simp [AV.sameL] at h
end

def AV.undef : AV := .tuple []

/-! ### Operations, code -/
inductive AX where
  | t (i : Nat)
  | c (v : AV)

/-- What an '==' of other values than ints and strings compares. -/
inductive LKd where
  | int | bool | str
inductive EK where
  | bool | sliceNil | funcNil | ifaceNil | ifaceC | ptr
  | leaves (ks : List LKd)

inductive CK where
  | int (k : IntKind)
  | str
  | bytes      -- a []byte to a string
  | toBytes    -- a string to a []byte
  | toU        -- a pointer to an unsafe.Pointer
  | ofU (u sz : Nat)   -- an unsafe.Pointer to a pointer to u, of so many cells

inductive LK where
  | str | slice | map | cap
  | arr (n : Nat)

inductive AOp where
  | mv (x : AX)
  | pick (c a b : AX)
  | alloc (t : Nat) (z : List AV)
  | box (x : AX)
  | build (z : List AV) (parts : List (Nat × Nat × AX))
  | bslice (z : List AV) (len : Nat) (parts : List (Nat × Nat × AX))
  | load1 (a : AX)
  | loadN (n : Nat) (a : AX)
  | store (n : Nat) (a x : AX)
  | bin (op : BinOp) (x y : AX)
  | eqv (neg : Bool) (e : EK) (x y : AX)
  | un (op : UnOp) (x : AX)
  | conv (k : CK) (x : AX)
  | iface (t : Nat) (x : AX)
  | mkfun (f : Nat) (first captured : List AX)
  | mkslice (z : List AV) (bytes : Nat) (l c : AX)
  | sliceS (x : AX) (lo hi : Option AX)
  | slice (size : Nat) (x : AX) (lo hi mx : Option AX)
  | fld (off n : Nat) (agg : Bool) (x : AX)
  | faddr (off : Nat) (x : AX)
  | iaddr (size : Nat) (x i : AX)
  | iaddrA (len size : Nat) (x i : AX)
  | idxS (x i : AX)
  | idxA (len size : Nat) (agg : Bool) (x i : AX)
  | look (z : AV) (ok ks : Bool) (m k : AX)     -- ks: the keys are strings; else ints
  | mkmap
  | mset (ks : Bool) (m k v : AX)
  | ext (x : AX) (i : Nat)
  | nilc (x : AX)
  | call (f : AX) (args : List AX)
  | len (k : LK) (x : AX)
  | append (e : Nat) (z : List AV) (bytes : Nat) (s x : AX)
  | appendZ (e : Nat) (z : List AV) (bytes : Nat) (s n : AX)    -- so many zero elements, to nothing
  | peq (neg : Bool) (x y : AX)
  | sdata (x : AX)
  | ustr (t : Nat) (p n : AX)
  | copy (size : Nat) (d s : AX)
  | clear (z : List AV) (x : AX)
  | minmax (mx : Bool) (xs : List AX)
  | del (ks : Bool) (m k : AX)
  | fail            -- what is not known here: it gives nothing

structure AOper where
  dst : Option Nat
  op : AOp
  g : Option (Nat × Bool)

inductive ACode where
  | skip
  | fail
  | region (ops : List AOper)
  | regionD (ops : List AOper) (plan : List (Nat × Nat))
  | seq (a b : ACode)
  | cond (c : AX) (a b : ACode)
  | block (id : Nat) (b : ACode)
  | loop (b : ACode)
  | rangeF (f : AX) (ps : List Nat) (assign body : ACode)
  | exit (id : Nat)
  | ret

/-! ### Frames, the heap -/
structure AF where
  n : Nat
  m : PT AV
def AF.get (f : AF) (i : Nat) : AV := match f.m.get i with | some v => v | none => .undef
def AF.put (f : AF) (d : Option Nat) (v : AV) : Option AF :=
  match d with
  | none => some f
  | some d => cond (Nat.blt d f.n) (some { f with m := f.m.set d (some v) }) none
def AF.ev (f : AF) : AX → AV
  | .t i => f.get i
  | .c v => v
def AF.setAll : PT AV → Nat → List AV → PT AV
  | m, _, [] => m
  | m, i, v :: vs => AF.setAll (m.set i (some v)) (i + 1) vs
def AF.init (args : List AV) (n : Nat) : AF := { n := max args.length n, m := AF.setAll .leaf 0 args }

structure ALoop where
  st : LoopState
  pend : Option ACode
  f : AF
  ps : List Nat
  assign : ACode
  body : ACode

inductive AB where
  | cells (c : List AV) (ro : Bool) (el : Option (Nat × Bool))    -- el: the type of its elements, and whether its first cell is the machine's first
  | map (es : List (AV × AV))
  | loop (l : ALoop)

structure AH where
  m : PT AB
  next : Nat
def AH.get (h : AH) (i : Nat) : Option AB := h.m.get i
def AH.set (h : AH) (i : Nat) (b : Option AB) : AH := { h with m := h.m.set i b }
def AH.new (h : AH) (b : AB) : AH := { m := h.m.set h.next (some b), next := h.next + 1 }

/-! ### Operations that look at no memory -/
def kmin : IntKind → Int
  | .i8 => -128 | .i16 => -32768 | .i32 => -2147483648 | .i64 => -9223372036854775808 | _ => 0
def cellsOf : AV → List AV
  | .agg cs => cs
  | v => [v]
def fillAt : List AV → Nat → List AV → List AV     -- the cells with others from an offset on
  | cs, _, [] => cs
  | cs, o, v :: vs => fillAt (cs.set o v) (o + 1) vs
def fill (f : AF) : List AV → List (Nat × Nat × AX) → Option (List AV)
  | cs, [] => some cs
  | cs, (off, size, x) :: rest =>
    let v := cellsOf (f.ev x)
    cond (Nat.beq v.length size && Nat.ble (off + size) cs.length) (fill f (fillAt cs off v) rest) none
def rep (z : List AV) : Nat → List AV
  | 0 => []
  | n + 1 => z ++ rep z n
def getPart (agg : Bool) (n : Nat) (cs : List AV) (off : Nat) : Option AV :=
  match agg with
  | true => cond (Nat.ble (off + n) cs.length) (some (.agg ((cs.drop off).take n))) none
  | false => cs[off]?
def addrAdd (a : Nat × Nat) (n : Nat) : Nat × Nat := (a.1, a.2 + n)
def ltI (a b : Int) : Bool := decide (a < b)
def leI (a b : Int) : Bool := decide (a ≤ b)
def bitsInt (k : IntKind) (a b : Int) (op : Nat → Nat → Nat) : AV := .int k (k.wrap (Int.ofNat (op (BitVec.ofInt k.bits a).toNat (BitVec.ofInt k.bits b).toNat)))
def isShift : BinOp → Bool
  | .shl | .shr => true
  | _ => false
def shiftInt (op : BinOp) (k : IntKind) (a : Int) : Int → Option AV
  | .ofNat y =>
    let n := cond (Nat.ble y k.bits) y k.bits
    match op with
    | .shl => some (.int k (k.wrap (a * Int.ofNat (2 ^ n))))
    | .shr => some (.int k (a.fdiv (Int.ofNat (2 ^ n))))
    | _ => none
  | .negSucc _ => none
def binInt (op : BinOp) (k : IntKind) (a b : Int) : Option AV :=
  match op with
  | .add => some (.int k (k.wrap (a + b)))
  | .sub => some (.int k (k.wrap (a - b)))
  | .mul => some (.int k (k.wrap (a * b)))
  | .quo => cond (Int.same b 0) none (some (.int k (k.wrap (a.tdiv b))))
  | .rem => cond (Int.same b 0) none (some (.int k (a.tmod b)))
  | .eql => some (.bool (Int.same a b))
  | .neq => some (.bool (!Int.same a b))
  | .lss => some (.bool (ltI a b))
  | .leq => some (.bool (leI a b))
  | .gtr => some (.bool (ltI b a))
  | .geq => some (.bool (leI b a))
  | .and => some (bitsInt k a b Nat.land)
  | .or => some (bitsInt k a b Nat.lor)
  | .xor => some (bitsInt k a b Nat.xor)
  | .andNot => some (bitsInt k a b fun x y => Nat.land x (2 ^ k.bits - 1 - y))
  | _ => none
def bytesLt : List UInt8 → List UInt8 → Bool
  | _, [] => false
  | [], _ :: _ => true
  | a :: x, b :: y => Nat.blt a.toNat b.toNat || (Nat.beq a.toNat b.toNat && bytesLt x y)
def binStr (op : BinOp) (a b : List UInt8) : Option AV :=
  match op with
  | .add => cond (Nat.ble (a.length + b.length) 9223372036854775807) (some (.str (a ++ b))) none
  | .eql => some (.bool (bytesSame a b))
  | .neq => some (.bool (!bytesSame a b))
  | .lss => some (.bool (bytesLt a b))
  | .geq => some (.bool (!bytesLt a b))
  | .leq => some (.bool (bytesLt a b || bytesSame a b))
  | .gtr => some (.bool (!(bytesLt a b || bytesSame a b)))
  | _ => none
def leafEq : LKd → AV → AV → Option Bool
  | .int, .int k a, .int k' b => cond (IntKind.same k k') (some (Int.same a b)) none
  | .bool, .bool a, .bool b => some (a == b)
  | .str, .str a, .str b => some (bytesSame a b)
  | _, _, _ => none
def leavesEq : List LKd → List AV → List AV → Option Bool
  | [], [], [] => some true
  | k :: ks, a :: as, b :: bs =>
    match leafEq k a b with
    | some true => leavesEq ks as bs
    | some false => match leavesEq ks as bs with | some _ => some false | none => none
    | none => none
  | _, _, _ => none
def eqOp : EK → AV → AV → Option Bool
  | .bool, .bool a, .bool b => some (a == b)
  | .sliceNil, .slice none _ _ _, .slice b _ _ _ => some b.isNone
  | .sliceNil, .slice (some _) _ _ _, .slice none _ _ _ => some false
  | .funcNil, .nilFunc, .nilFunc => some true
  | .funcNil, .nilFunc, .func _ _ _ | .funcNil, .func _ _ _, .nilFunc => some false
  | .ifaceNil, .nilIface, .iface _ _ | .ifaceNil, .iface _ _, .nilIface => some false
  | .ifaceC, .nilIface, .nilIface => some true
  | .ifaceC, .nilIface, .iface _ _ | .ifaceC, .iface _ _, .nilIface => some false
  | .ptr, .ptr none, .ptr b => some b.isNone
  | .ptr, .ptr (some _), .ptr none => some false
  | .leaves ks, .agg a, .agg b => leavesEq ks a b
  | _, _, _ => none
def bound (x : Option AX) (f : AF) (dflt most : Nat) : Option Nat :=   -- a slice's bound, within 0 .. most
  match x with
  | none => some dflt
  | some x =>
    match f.ev x with
    | .int _ (.ofNat i) => cond (Nat.ble i most) (some i) none
    | _ => none
def hiBound (mx hi : Option AX) (f : AF) (len cap m : Nat) : Option Nat :=
  match mx with
  | none => bound hi f len cap
  | some _ => match hi with | some hh => bound (some hh) f 0 m | none => none
def exOf (mx : Option AX) (ex : Nat) : Nat := match mx with | none => ex | some _ => 0
def natOf : AV → Option Nat
  | .int _ (.ofNat i) => some i
  | _ => none
def mm (mx : Bool) : AV → AV → Option AV
  | .int k a, .int k' b => some (.int k (cond mx (cond (ltI a b) b a) (cond (ltI b a) b a)))
  | _, _ => none
def mmAll (mx : Bool) : AV → List AV → Option AV
  | x, [] => some x
  | x, y :: r => match mm mx x y with | some z => mmAll mx z r | none => none

def pureOp (op : AOp) (f : AF) : Option AV :=
  match op with
  | .mv x => some (f.ev x)
  | .pick c a b => match f.ev c with | .bool true => some (f.ev a) | .bool false => some (f.ev b) | _ => none
  | .build z ps => match fill f z ps with | some cs => some (.agg cs) | none => none
  | .bin op x y =>
    match f.ev x, f.ev y with
    | .int k a, .int k' b => cond (isShift op) (shiftInt op k a b) (cond (IntKind.same k k') (binInt op k a b) none)
    | .str a, .str b => binStr op a b
    | _, _ => none
  | .eqv neg e x y => match eqOp e (f.ev x) (f.ev y) with | some b => some (.bool (cond neg (!b) b)) | none => none
  | .un .not x => match f.ev x with | .bool b => some (.bool (!b)) | _ => none
  | .un .neg x => match f.ev x with | .int k n => some (.int k (k.wrap (0 - n))) | _ => none
  | .un _ _ => none
  | .conv (.int k) x => match f.ev x with | .int _ n => some (.int k (k.wrap n)) | _ => none
  | .conv .str x => match f.ev x with | .str s => some (.str s) | _ => none
  | .conv .bytes _ | .conv .toBytes _ | .conv .toU _ | .conv (.ofU _ _) _ => none
  | .sdata x => match f.ev x with | .slice none _ _ _ => some (.ptr none) | .slice (some a) _ c _ => cond (Nat.blt 0 c) (some (.ptr (some a))) none | _ => none
  | .iface t x => some (.iface t (f.ev x))
  | .mkfun g a b => some (.func g (a.map f.ev) (b.map f.ev))
  | .sliceS x lo hi =>
    match f.ev x with
    | .str s =>
      match bound hi f s.length s.length with
      | some h => match bound lo f 0 h with | some l => some (.str ((s.drop l).take (h - l))) | none => none
      | none => none
    | _ => none
  | .slice size x lo hi mx =>
    match f.ev x with
    | .slice a len cap ex =>
      match bound mx f cap cap with
      | some m =>
        match hiBound mx hi f len cap m with
        | some h =>
          match bound lo f 0 h with
          | some l =>
            match a with
            | none => some (.slice none (h - l) (m - l) 0)
            | some a => cond (Nat.beq ex 0 || Nat.beq ex size) (some (.slice (some (addrAdd a (l * size))) (h - l) (m - l) (exOf mx ex))) none
          | none => none
        | none => none
      | none => none
    | _ => none
  | .fld off n agg x => match f.ev x with | .agg cs => getPart agg n cs off | _ => none
  | .faddr off x => match f.ev x with | .ptr (some a) => some (.ptr (some (addrAdd a off))) | _ => none
  | .iaddr size x i =>
    match f.ev x, natOf (f.ev i) with
    | .slice (some a) len _ _, some i => cond (Nat.blt i len) (some (.ptr (some (addrAdd a (i * size))))) none
    | _, _ => none
  | .iaddrA len size x i =>
    match f.ev x, natOf (f.ev i) with
    | .ptr (some a), some i => cond (Nat.blt i len) (some (.ptr (some (addrAdd a (i * size))))) none
    | _, _ => none
  | .idxS x i =>
    match f.ev x, natOf (f.ev i) with
    | .str s, some i => match s[i]? with | some b => some (.int .u8 (Int.ofNat b.toNat)) | none => none
    | _, _ => none
  | .idxA len size agg x i =>
    match f.ev x, natOf (f.ev i) with
    | .agg cs, some i => cond (Nat.blt i len) (getPart agg size cs (i * size)) none
    | _, _ => none
  | .ext x i => match f.ev x with | .tuple vs => vs[i]? | _ => none
  | .nilc x => match f.ev x with | .ptr none | .nilIface | .nilFunc => none | .func _ _ _ => some (f.ev x) | .yield _ => some (f.ev x) | .ptr (some _) => some (f.ev x) | _ => none
  | .len .str x => match f.ev x with | .str s => some (.int .i64 (Int.ofNat s.length)) | _ => none
  | .len .slice x => match f.ev x with | .slice _ n _ _ => some (.int .i64 (Int.ofNat n)) | _ => none
  | .len .cap x => match f.ev x with | .slice none _ _ _ => some (.int .i64 0) | .slice (some _) _ c 0 => some (.int .i64 (Int.ofNat c)) | _ => none
  | .len (.arr n) x => some (.int .i64 (Int.ofNat n))
  | .minmax mx xs => match xs with | [] => none | x :: r => mmAll mx (f.ev x) (r.map f.ev)
  | _ => none

/-! ### Operations that read -/
def cellsAt (h : AH) (a : Nat × Nat) (n : Nat) : Option (List AV) :=
  match h.get a.1 with
  | some (.cells c _ _) => cond (Nat.ble (a.2 + n) c.length) (some ((c.drop a.2).take n)) none
  | _ => none
def keyEq : AV → AV → Option Bool
  | .int k a, .int k' b => cond (IntKind.same k k') (some (Int.same a b)) none
  | .str a, .str b => some (bytesSame a b)
  | _, _ => none
def keyIs : Bool → AV → Bool
  | true, .str _ => true
  | false, .int _ _ => true
  | _, _ => false
def findKey (k : AV) : List (AV × AV) → Option (Option AV)
  | [] => some none
  | (k', v) :: es => match keyEq k k' with | some true => some (some v) | some false => findKey k es | none => none
def bytesOf : List AV → Option (List UInt8)
  | [] => some []
  | .int .u8 (.ofNat n) :: r => match bytesOf r with | some l => some (UInt8.ofNat n :: l) | none => none
  | _ => none
def readOp (op : AOp) (f : AF) (h : AH) : Option AV :=
  match op with
  | .load1 a => match f.ev a with | .ptr (some a) => (match h.get a.1 with | some (.cells c _ _) => c[a.2]? | _ => none) | _ => none
  | .loadN n a => match f.ev a with | .ptr (some a) => (match cellsAt h a n with | some cs => some (.agg cs) | none => none) | _ => none
  | .look z ok ks m k =>
    match f.ev m with
    | .map (some r) =>
      match h.get r with
      | some (.map es) =>
        cond (keyIs ks (f.ev k)) (match findKey (f.ev k) es with
        | some (some v) => some (cond ok (.tuple [v, .bool true]) v)
        | some none => some (cond ok (.tuple [z, .bool false]) z)
        | none => none) none
      | _ => none
    | _ => none
  | .len .map m =>
    match f.ev m with
    | .map (some r) => match h.get r with | some (.map es) => some (.int .i64 (Int.ofNat es.length)) | _ => none
    | _ => none
  | .conv .bytes x =>
    match f.ev x with
    | .slice none _ _ _ => some (.str [])
    | .slice (some a) n _ _ => match cellsAt h a n with | some cs => (match bytesOf cs with | some l => some (.str l) | none => none) | none => none
    | _ => none
  | .conv .toU x =>
    match f.ev x with
    | .ptr none => some (.ptr none)
    | .ptr (some a) => match h.get a.1 with | some (.cells c _ _) => cond (Nat.blt a.2 c.length) (some (.ptr (some a))) none | _ => none
    | _ => none
  | .conv (.ofU u sz) x =>
    match f.ev x with
    | .ptr none => some (.ptr none)
    | .ptr (some a) => match h.get a.1 with | some (.cells c _ (some (t, true))) => cond (Nat.beq a.2 0 && Nat.beq t u && Nat.ble sz c.length) (some (.ptr (some a))) none | _ => none
    | _ => none
  | .peq neg x y =>
    match f.ev x, f.ev y with
    | .ptr none, .ptr b => some (.bool (cond neg b.isSome b.isNone))
    | .ptr (some _), .ptr none => some (.bool neg)
    | .ptr (some a), .ptr (some b) => match h.get a.1 with | some (.cells _ _ _) => cond (optSame (some a) (some b)) (some (.bool (!neg))) none | _ => none
    | _, _ => none
  | _ => none

/-! ### Operations that make a block out of the frame alone -/
def allocOp (op : AOp) (f : AF) (id : Nat) : Option (AV × AB) :=
  match op with
  | .alloc t z => some (.ptr (some (id, 0)), .cells z false (some (t, true)))
  | .box x => some (.ptr (some (id, 0)), .cells (cellsOf (f.ev x)) false none)
  | .bslice z len ps => match fill f (rep z len) ps with | some cs => some (.slice (some (id, 0)) len len 0, .cells cs false none) | none => none
  | .mkslice z bytes l c =>
    match natOf (f.ev l), natOf (f.ev c) with
    | some l, some c => cond (Nat.ble l c && Nat.ble (c * bytes) 1099511627776 && Nat.ble c 1099511627776) (some (.slice (some (id, 0)) l c 0, .cells (rep z c) false none)) none
    | _, _ => none
  | .mkmap => some (.map (some id), .map [])
  | _ => none

/-! ### Operations that act -/
def setKey (k v : AV) : List (AV × AV) → Option (List (AV × AV))
  | [] => some [(k, v)]
  | (k', v') :: es => match keyEq k k' with | some true => some ((k, v) :: es) | some false => (match setKey k v es with | some r => some ((k', v') :: r) | none => none) | none => none
def delKey (k : AV) : List (AV × AV) → Option (List (AV × AV))
  | [] => some []
  | (k', v') :: es => match keyEq k k' with | some true => some es | some false => (match delKey k es with | some r => some ((k', v') :: r) | none => none) | none => none
def oneCells : List AV → Bool
  | [] => true
  | .agg _ :: _ | .tuple _ :: _ => false
  | _ :: r => oneCells r
def writeAt (h : AH) (a : Nat × Nat) (vs : List AV) : Option AH :=
  match h.get a.1 with
  | some (.cells c false el) => cond (Nat.ble (a.2 + vs.length) c.length && oneCells vs) (some (h.set a.1 (some (.cells (fillAt c a.2 vs) false el)))) none
  | _ => none
/-- The cells of what is appended or copied: a slice's, or a string's bytes. -/
def sourceCells (h : AH) (size : Nat) (x : AV) (n : Nat) : Option (List AV) :=
  match x with
  | .slice none _ _ _ => cond (Nat.beq n 0) (some []) none
  | .slice (some a) _ _ _ => cellsAt h a (n * size)
  | .str s => some ((s.take n).map fun b => .int .u8 (Int.ofNat b.toNat))
  | _ => none
def lenOfAV : AV → Option Nat
  | .slice _ n _ _ => some n
  | .str s => some s.length
  | _ => none
def elKeep (e : Nat) : Option (Nat × Bool) → Option (Nat × Bool)
  | some (t, _) => cond (Nat.beq t e) (some (t, false)) none
  | none => none
def appendOp (h : AH) (e : Nat) (z : List AV) (bytes : Nat) (s x : AV) : Option (AV × AH) :=
  match s, lenOfAV x with
  | .slice base len cap ex, some n =>
    match sourceCells h z.length x n with
    | none => none
    | some new =>
      cond (Nat.ble (len + n) cap)
        (match base with
         | none => some (.slice none (len + n) cap ex, h)
         | some a => match writeAt h (addrAdd a (len * z.length)) new with | some h' => some (.slice (some a) (len + n) cap ex, h') | none => none)
        (cond (Nat.ble ((len + n) * bytes) 1099511627776 && Nat.ble (len + n) 1099511627776 && Nat.beq new.length (n * z.length))
          (match base with
           | none => some (.slice (some (h.next, 0)) (len + n) (len + n) z.length, h.new (.cells new false (some (e, true))))
           | some a =>
             match h.get a.1, cellsAt h a (len * z.length) with
             | some (.cells c ro el), some old =>
               let h1 := cond (Nat.beq ex 0) h (h.set a.1 none)
               cond (Nat.beq ex 0 || (Nat.beq ex z.length && !ro && oneCells new)) (some (.slice (some (h.next, 0)) (len + n) (len + n) z.length, h1.new (.cells (old ++ new) false (cond (Nat.beq ex 0) (some (e, true)) (elKeep e el))))) none
             | _, _ => none)
          none)
  | _, _ => none

def evs (f : AF) : List AX → List AV
  | [] => []
  | x :: xs => f.ev x :: evs f xs
abbrev CV := AV → List AV → AH → Option (AV × AH)
def effOp (cv : CV) (op : AOp) (f : AF) (h : AH) : Option (AV × AH) :=
  match op with
  | .store n a x =>
    match f.ev a with
    | .ptr (some a) =>
      let vs := cellsOf (f.ev x)
      cond (Nat.beq vs.length n) (match writeAt h a vs with | some h' => some (.undef, h') | none => none) none
    | _ => none
  | .mset ks m k v =>
    match f.ev m with
    | .map (some r) => match h.get r with
      | some (.map es) => cond (keyIs ks (f.ev k)) (match setKey (f.ev k) (f.ev v) es with | some es' => some (.undef, h.set r (some (.map es'))) | none => none) none
      | _ => none
    | _ => none
  | .del ks m k =>
    match f.ev m with
    | .map (some r) => match h.get r with
      | some (.map es) => cond (keyIs ks (f.ev k)) (match delKey (f.ev k) es with | some es' => some (.tuple [], h.set r (some (.map es'))) | none => none) none
      | _ => none
    | _ => none
  | .append e z bytes s x => appendOp h e z bytes (f.ev s) (f.ev x)
  | .appendZ e z bytes s n =>
    match f.ev s, natOf (f.ev n) with
    | .slice none _ _ _, some n => cond (Nat.blt 0 n && Nat.ble (n * bytes) 1099511627776 && Nat.ble n 1099511627776) (some (.slice (some (h.next, 0)) n n z.length, h.new (.cells (rep z n) false (some (e, true))))) none
    | _, _ => none
  | .copy size d s =>
    match f.ev d, lenOfAV (f.ev s) with
    | .slice base dl _ _, some sl =>
      let n := cond (Nat.ble sl dl) sl dl
      match sourceCells h size (f.ev s) n with
      | none => none
      | some cs =>
        match base with
        | none => some (.int .i64 (Int.ofNat n), h)
        | some a => match writeAt h a cs with | some h' => some (.int .i64 (Int.ofNat n), h') | none => none
    | _, _ => none
  | .clear z x =>
    match f.ev x with
    | .slice none _ _ _ => some (.tuple [], h)
    | .slice (some a) n _ _ => cond (Nat.beq n 0) (some (.tuple [], h)) (match writeAt h a (rep z n) with | some h' => some (.tuple [], h') | none => none)
    | _ => none
  | .conv .toBytes x =>
    match f.ev x with
    | .str s => some (.slice (some (h.next, 0)) s.length s.length 1, h.new (.cells (s.map fun b => .int .u8 (Int.ofNat b.toNat)) false none))
    | _ => none
  | .ustr t p n =>
    match f.ev p, natOf (f.ev n) with
    | .ptr none, some n => cond (Nat.beq n 0) (some (.str [], h)) none
    | .ptr (some a), some n => cond (Nat.beq n 0) (some (.str [], h))
      (match h.get a.1 with
       | some (.cells c ro (some (u, b))) => cond (Nat.beq u t && Nat.ble n 1099511627776) (match cellsAt h a n with
         | some cs => (match bytesOf cs with | some l => some (.str l, h.set a.1 (some (.cells c true (some (u, b))))) | none => none)
         | none => none) none
       | _ => none)
    | _, _ => none
  | .call g xs => cv (f.ev g) (evs f xs) h
  | _ => none

/-! ### Regions -/
inductive Cls where
  | P | R | A | E
def cls : AOp → Cls
  | .load1 _ | .loadN _ _ | .look _ _ _ _ _ | .len .map _ | .conv .bytes _ | .conv .toU _ | .conv (.ofU _ _) _ | .peq _ _ _ => .R
  | .alloc _ _ | .box _ | .bslice _ _ _ | .mkslice _ _ _ _ | .mkmap => .A
  | .store _ _ _ | .mset _ _ _ _ | .del _ _ _ | .append _ _ _ _ _ | .appendZ _ _ _ _ _ | .copy _ _ _ | .clear _ _ | .conv .toBytes _ | .ustr _ _ _ | .call _ _ => .E
  | _ => .P
def doOp (cv : CV) (op : AOp) (f : AF) (h : AH) : Option (AV × AH) :=
  match cls op with
  | .P => match pureOp op f with | some v => some (v, h) | none => none
  | .R => match readOp op f h with | some v => some (v, h) | none => none
  | .A => match allocOp op f h.next with | some (v, b) => some (v, h.new b) | none => none
  | .E => effOp cv op f h
def wantedA (f : AF) : Option (Nat × Bool) → Bool
  | none => true
  | some (t, b) => match f.get t with | .bool c => c == b | _ => false
def runOps (cv : CV) : List AOper → AF → AH → Option (AF × AH)
  | [], f, h => some (f, h)
  | o :: os, f, h =>
    match wantedA f o.g with
    | false => match f.put o.dst .undef with | some f' => runOps cv os f' h | none => none
    | true =>
      match doOp cv o.op f h with
      | some (v, h') => match f.put o.dst v with | some f' => runOps cv os f' h' | none => none
      | none => none
def checkR (op : AOp) (f : AF) (v : AV) (m : Nat) : List (Nat × AH) → Bool
  | [] => true
  | (e, g) :: older =>
    match readOp op f g with
    | some v' => AV.same v' v && cond (Nat.testBit m e) true (checkR op f v m older)
    | none => false
def runD (cv : CV) (ops : List AOper) : List (Nat × Nat) → AF → AH → List (Nat × AH) → Option (AF × AH)
  | [], f, h, _ => some (f, h)
  | (i, m) :: rest, f, h, hist =>
    match ops[i]? with
    | none => none
    | some o =>
      match wantedA f o.g with
      | false => match f.put o.dst .undef with | some f' => runD cv ops rest f' h hist | none => none
      | true =>
        match cls o.op with
        | .P => match pureOp o.op f with
          | some v => (match f.put o.dst v with | some f' => runD cv ops rest f' h hist | none => none)
          | none => none
        | .R => match hist with
          | [] => none
          | (e, g) :: older => match readOp o.op f g with
            | some v => cond (checkR o.op f v m ((e, g) :: older)) (match f.put o.dst v with | some f' => runD cv ops rest f' h hist | none => none) none
            | none => none
        | .A => match allocOp o.op f h.next with
          | some (v, b) => (match f.put o.dst v with | some f' => runD cv ops rest f' (h.new b) hist | none => none)
          | none => none
        | .E => match effOp cv o.op f h with
          | some (v, h') => (match f.put o.dst v with | some f' => runD cv ops rest f' h' ((i, h') :: hist) | none => none)
          | none => none

/-! ### Code and calls -/
inductive AE where
  | normal
  | exit (id : Nat)
  | ret
inductive ARes where
  | t (i : Nat)
  | c1 (i : Nat)
  | cN (i n : Nat)
structure AFn where
  ntmps : Nat
  res : List ARes
  body : ACode
structure Env where
  fn : Nat → Option AFn
  prim : Nat → List AV → Option AV    -- what calls of functions with a text give, where it is known
  ext : Nat → Option (List AV → AH → Option (AV × AH))     -- functions without a text, that give at once

abbrev XF := ACode → AF → AH → Option (AE × AF × AH)
abbrev CF := Nat → List AV → AH → Option (AV × AH)
def setParams : AF → List Nat → List AV → Option AF
  | f, [], [] => some f
  | f, p :: ps, v :: vs => match f.put (some p) v with | some f' => setParams f' ps vs | none => none
  | _, _, _ => none
def AE.pend : AE → Option ACode
  | .normal => none
  | .exit id => some (.exit id)
  | .ret => some .ret
def callV (x : XF) (c : CF) (g : AV) (args : List AV) (h : AH) : Option (AV × AH) :=
  match g with
  | .func f a b => c f (a ++ args ++ b) h
  | .yield l =>
    match h.get l with
    | some (.loop r) =>
      match setParams r.f r.ps args with
      | none => none
      | some f =>
        match x r.assign f h with
        | some (.normal, f1, h1) =>
          match h1.get l with
          | some (.loop r1) =>
            match r1.st with
            | .ready =>
              match x r.body f1 (h1.set l (some (.loop { r1 with st := .busy }))) with
              | some (e, _, h2) =>
                match h2.get l with
                | some (.loop r2) => some (.bool (match e with | .normal => true | _ => false), h2.set l (some (.loop { r2 with st := (match e with | .normal => .ready | _ => .done), pend := e.pend })))
                | _ => none
              | none => none
            | _ => none
          | _ => none
        | _ => none
    | _ => none
  | _ => none
def stepX (x : XF) (c : CF) : XF := fun code f h =>
  match code with
  | .skip => some (.normal, f, h)
  | .fail => none
  | .region ops => match runOps (callV x c) ops f h with | some (f', h') => some (.normal, f', h') | none => none
  | .regionD ops plan => match runD (callV x c) ops plan f h [(ops.length, h)] with | some (f', h') => some (.normal, f', h') | none => none
  | .seq a b =>
    match x a f h with
    | some (.normal, f', h') => x b f' h'
    | r => r
  | .cond v a b => match f.ev v with | .bool true => x a f h | .bool false => x b f h | _ => none
  | .block id b =>
    match x b f h with
    | some (.exit i, f', h') => cond (Nat.beq i id) (some (.normal, f', h')) (some (.exit i, f', h'))
    | r => r
  | .loop b =>
    match x b f h with
    | some (.normal, f', h') => x (.loop b) f' h'
    | r => r
  | .rangeF g ps as body =>
    let l := h.next
    match f.ev g with
    | .func gf ga gb =>
    (match c gf (ga ++ [.yield l] ++ gb) (h.new (.loop { st := .ready, pend := none, f := f, ps := ps, assign := as, body := body })) with
    | some (_, h1) =>
      match h1.get l with
      | some (.loop r) =>
        match r.st with
        | .busy => none
        | _ => match r.pend with
          | none => some (.normal, f, h1.set l none)
          | some j => x j f (h1.set l none)
      | _ => none
    | none => none)
    | _ => none
  | .exit id => some (.exit id, f, h)
  | .ret => some (.ret, f, h)
def resOf (f : AF) (h : AH) : ARes → Option AV
  | .t i => some (f.get i)
  | .c1 i => match f.get i with | .ptr (some a) => (match h.get a.1 with | some (.cells c _ _) => c[a.2]? | _ => none) | _ => none
  | .cN i n => match f.get i with | .ptr (some a) => (match cellsAt h a n with | some cs => some (.agg cs) | none => none) | _ => none
def resAll (f : AF) (h : AH) : List ARes → Option (List AV)
  | [] => some []
  | r :: rs => match resOf f h r with | some v => (match resAll f h rs with | some l => some (v :: l) | none => none) | none => none
def stepC (E : Env) (x : XF) : CF := fun g args h =>
  match E.prim g args with
  | some v => some (v, h)
  | none =>
  match E.ext g with
  | some p => match p args h with | some (v, h') => cond (Nat.ble h.next h'.next) (some (v, h')) none | none => none
  | none =>
    match E.fn g with
    | none => none
    | some F =>
      match x F.body (AF.init args F.ntmps) h with
      | some (.normal, f, h') | some (.ret, f, h') =>
        match resAll f h' F.res with
        | some [v] => some (v, h')
        | some l => some (.tuple l, h')
        | none => none
      | _ => none
structure Fns where
  x : XF
  c : CF
def fns (E : Env) (n : Nat) : Fns :=
  Nat.rec ⟨fun _ _ _ => none, fun _ _ _ => none⟩ (fun _ r => ⟨stepX r.x r.c, stepC E r.x⟩) n
def exec (E : Env) (n : Nat) : XF := (fns E n).x
def acall (E : Env) (n : Nat) : CF := (fns E n).c
theorem exec_zero (E : Env) (c : ACode) (f : AF) (h : AH) : exec E 0 c f h = none := rfl
theorem acall_zero (E : Env) (g : Nat) (a : List AV) (h : AH) : acall E 0 g a h = none := rfl
theorem exec_succ (E : Env) (n : Nat) : exec E (n + 1) = stepX (exec E n) (acall E n) := rfl
theorem acall_succ (E : Env) (n : Nat) : acall E (n + 1) = stepC E (exec E n) := rfl
end Go.Proofs.YtjbpcddplaakfaaGreatDoor.Det

/-! How abstract values, frames and heaps stand to the machine's: a renaming of blocks, under which values read alike. -/
namespace Go.Proofs.YtjbpcddplaakfaaGreatDoor.Det
open Go
set_option linter.unusedVariables false
set_option linter.unusedSimpArgs false

/-- Of an abstract block: not known; known and dead; alive at a machine's block, shifted. -/
structure Sh where
  s : Nat     -- the shift
  R : Nat     -- how many cells the machine's block has
abbrev Rho := Nat → Option (Option (Nat × Sh))

/-- Is it a value of one cell? -/
def isCell : Value → Bool
  | .agg _ | .tuple _ | .bool _ => false
  | _ => true
mutual
def Conc (ρ : Rho) : AV → Value → Prop
  | .int k n, v => v = .int k n
  | .bool b, v => v = .bool b
  | .str s, v => v = .string ⟨s.toArray⟩
  | .ptr none, v => v = .pointer none
  | .ptr (some (i, o)), v => ∃ m, ρ i = some m ∧ ∃ a, v = .pointer (some a) ∧ ∀ b s, m = some (b, s) → a = ⟨b, o + s.s, none⟩
  | .slice none l c e, v => v = .slice none 0 0 ∧ l = 0 ∧ c = 0
  | .slice (some (i, o)) l c e, v => ∃ m, ρ i = some m ∧ ∃ a c', v = .slice (some a) l c' ∧ l ≤ c' ∧ c ≤ c' ∧ (e = 0 → c' = c) ∧ ∀ b s, m = some (b, s) → 0 < c' → a = ⟨b, o + s.s, none⟩ ∧ (0 < e → o + s.s + c' * e ≤ s.R)
  | .map none, v => v = .map none
  | .map (some i), v => ∃ m, ρ i = some m ∧ isCell v = true ∧ ∀ b s, m = some (b, s) → v = .map (some b)
  | .func f x y, v => ∃ x' y', v = .func (.func f) x' y' ∧ ConcL ρ x x'.toList ∧ ConcL ρ y y'.toList
  | .yield i, v => ∃ m, ρ i = some m ∧ ∃ l, v = .func (.yield l) #[] #[] ∧ ∀ b s, m = some (b, s) → l = b
  | .nilFunc, v => v = .nilFunc
  | .iface t x, v => ∃ y, v = .iface t y ∧ Conc ρ x y
  | .nilIface, v => v = .nilIface
  | .agg xs, v => ∃ ys, v = .agg ys ∧ ConcL ρ xs ys.toList
  | .tuple xs, v => ∃ ys, v = .tuple ys ∧ ConcL ρ xs ys.toList
def ConcL (ρ : Rho) : List AV → List Value → Prop
  | [], [] => True
  | a :: as, b :: bs => Conc ρ a b ∧ ConcL ρ as bs
  | _, _ => False
end

/-- What is known stays known: at its place, or dead. -/
def Ext (ρ ρ' : Rho) : Prop := ∀ i m, ρ i = some m → ρ' i = some m ∨ ρ' i = some none
theorem Ext.refl (ρ : Rho) : Ext ρ ρ := fun _ _ h => .inl h
theorem Ext.trans {ρ ρ' ρ'' : Rho} (h : Ext ρ ρ') (h' : Ext ρ' ρ'') : Ext ρ ρ'' := fun i m e => by
  rcases h i m e with h1 | h1
  · exact h' i m h1
  · rcases h' i none h1 with h2 | h2 <;> exact .inr h2
theorem Ext.some_ {ρ ρ' : Rho} (h : Ext ρ ρ') {i : Nat} {m : Option (Nat × Sh)} (e : ρ i = some m) : ∃ m', ρ' i = some m' ∧ (m' = m ∨ m' = none) := by
  rcases h i m e with h1 | h1
  · exact ⟨m, h1, .inl rfl⟩
  · exact ⟨none, h1, .inr rfl⟩

mutual
theorem Conc.mono {ρ ρ' : Rho} (hx : Ext ρ ρ') : ∀ (a : AV) (v : Value), Conc ρ a v → Conc ρ' a v
  | .int k n, v, h => h
  | .bool b, v, h => h
  | .str s, v, h => h
  | .ptr none, v, h => h
  | .ptr (some (i, o)), v, h => by
    obtain ⟨m, e, a, hv, ha⟩ := h
    obtain ⟨m', e', hm⟩ := hx.some_ e
    exact ⟨m', e', a, hv, fun b s he => by rcases hm with rfl | rfl; exact ha b s he; cases he⟩
  | .slice none l c e, v, h => h
  | .slice (some (i, o)) l c e, v, h => by
    obtain ⟨m, e, a, c', hv, h1, h2, h3, ha⟩ := h
    obtain ⟨m', e', hm⟩ := hx.some_ e
    exact ⟨m', e', a, c', hv, h1, h2, h3, fun b s he => by rcases hm with rfl | rfl; exact ha b s he; cases he⟩
  | .map none, v, h => h
  | .map (some i), v, h => by
    obtain ⟨m, e, hv, ha⟩ := h
    obtain ⟨m', e', hm⟩ := hx.some_ e
    exact ⟨m', e', hv, fun b s he => by rcases hm with rfl | rfl; exact ha b s he; cases he⟩
  | .func f x y, v, h => by
    obtain ⟨x', y', hv, h1, h2⟩ := h
    exact ⟨x', y', hv, ConcL.mono hx _ _ h1, ConcL.mono hx _ _ h2⟩
  | .yield i, v, h => by
    obtain ⟨m, e, a, hv, ha⟩ := h
    obtain ⟨m', e', hm⟩ := hx.some_ e
    exact ⟨m', e', a, hv, fun b s he => by rcases hm with rfl | rfl; exact ha b s he; cases he⟩
  | .nilFunc, v, h => h
  | .iface t x, v, h => by
    obtain ⟨y, hv, h1⟩ := h
    exact ⟨y, hv, Conc.mono hx _ _ h1⟩
  | .nilIface, v, h => h
  | .agg xs, v, h => by
    obtain ⟨y, hv, h1⟩ := h
    exact ⟨y, hv, ConcL.mono hx _ _ h1⟩
  | .tuple xs, v, h => by
    obtain ⟨y, hv, h1⟩ := h
    exact ⟨y, hv, ConcL.mono hx _ _ h1⟩
theorem ConcL.mono {ρ ρ' : Rho} (hx : Ext ρ ρ') : ∀ (a : List AV) (v : List Value), ConcL ρ a v → ConcL ρ' a v
  | [], [], h => trivial
  | a :: as, b :: bs, h => ⟨Conc.mono hx _ _ h.1, ConcL.mono hx _ _ h.2⟩
  | [], _ :: _, h => h
  | _ :: _, [], h => h
end

/-! ### Lists of values -/
theorem ConcL.length {ρ : Rho} : ∀ {a : List AV} {v : List Value}, ConcL ρ a v → v.length = a.length
  | [], [], _ => rfl
  | a :: as, b :: bs, h => by simp [ConcL.length h.2]
  | [], _ :: _, h => h.elim
  | _ :: _, [], h => h.elim
theorem ConcL.get {ρ : Rho} : ∀ {a : List AV} {v : List Value}, ConcL ρ a v → ∀ (i : Nat) (x : AV), a[i]? = some x → ∃ y, v[i]? = some y ∧ Conc ρ x y
  | [], [], _, i, x, h => by simp at h
  | a :: as, b :: bs, hc, 0, x, h => by simp at h; subst h; exact ⟨b, rfl, hc.1⟩
  | a :: as, b :: bs, hc, i + 1, x, h => by simpa using ConcL.get hc.2 i x (by simpa using h)
  | [], _ :: _, h, _, _, _ => h.elim
  | _ :: _, [], h, _, _, _ => h.elim
theorem ConcL.of_get {ρ : Rho} : ∀ {a : List AV} {v : List Value}, v.length = a.length → (∀ (i : Nat) (x : AV), a[i]? = some x → ∃ y, v[i]? = some y ∧ Conc ρ x y) → ConcL ρ a v
  | [], [], _, _ => trivial
  | a :: as, b :: bs, hl, h => by
    refine ⟨?_, ConcL.of_get (by simpa using hl) fun i x hx => ?_⟩
    · obtain ⟨y, hy, hc⟩ := h 0 a rfl
      simp at hy; subst hy; exact hc
    · simpa using h (i + 1) x (by simpa using hx)
  | [], _ :: _, hl, _ => by simp at hl
  | _ :: _, [], hl, _ => by simp at hl
theorem ConcL.append {ρ : Rho} : ∀ {a a' : List AV} {v v' : List Value}, ConcL ρ a v → ConcL ρ a' v' → ConcL ρ (a ++ a') (v ++ v')
  | [], _, [], _, _, h => h
  | a :: as, _, b :: bs, _, h, h' => ⟨h.1, ConcL.append h.2 h'⟩
  | [], _, _ :: _, _, h, _ => h.elim
  | _ :: _, _, [], _, h, _ => h.elim
theorem ConcL.take {ρ : Rho} {a : List AV} {v : List Value} (h : ConcL ρ a v) (n : Nat) : ConcL ρ (a.take n) (v.take n) := by
  refine ConcL.of_get (by simp [h.length]) fun i x hx => ?_
  rw [List.getElem?_take] at hx ⊢
  split at hx
  · rename_i hi; simpa [hi] using h.get i x hx
  · cases hx
theorem ConcL.drop {ρ : Rho} {a : List AV} {v : List Value} (h : ConcL ρ a v) (n : Nat) : ConcL ρ (a.drop n) (v.drop n) := by
  refine ConcL.of_get (by simp [h.length]) fun i x hx => ?_
  rw [List.getElem?_drop] at hx ⊢
  exact h.get _ x hx
theorem ConcL.set {ρ : Rho} {a : List AV} {v : List Value} (h : ConcL ρ a v) (i : Nat) {x : AV} {y : Value} (hc : Conc ρ x y) : ConcL ρ (a.set i x) (v.set i y) := by
  refine ConcL.of_get (by simp [h.length]) fun j z hz => ?_
  rw [List.getElem?_set] at hz ⊢
  split at hz
  · rename_i hij
    subst hij
    split at hz
    · rename_i hl
      simp at hz; subst hz
      exact ⟨y, by simp [h.length, hl], hc⟩
    · cases hz
  · rename_i hij
    simpa [hij] using h.get j z hz
theorem ConcL.map_ {α : Type} {ρ : Rho} (f : α → AV) (g : α → Value) (h : ∀ x, Conc ρ (f x) (g x)) : ∀ l : List α, ConcL ρ (l.map f) (l.map g)
  | [] => trivial
  | x :: l => ⟨h x, ConcL.map_ f g h l⟩
theorem ConcL.map_on {α : Type} {ρ : Rho} (f : α → AV) (g : α → Value) : ∀ l : List α, (∀ x ∈ l, Conc ρ (f x) (g x)) → ConcL ρ (l.map f) (l.map g)
  | [], _ => trivial
  | x :: l, h => ⟨h x (by simp), ConcL.map_on f g l fun y hy => h y (by simp [hy])⟩

theorem Conc.cells {ρ : Rho} {a : AV} {v : Value} (h : Conc ρ a v) : ConcL ρ (cellsOf a) v.cells.toList := by
  cases a with
  | agg xs => obtain ⟨y, rfl, h1⟩ := h; exact h1
  | ptr a =>
    rcases a with _ | ⟨i, o⟩
    · have h' : v = .pointer none := h; subst h'; exact ⟨rfl, trivial⟩
    · have h' := h; obtain ⟨m, e, x, rfl, hx⟩ := h; exact ⟨h', trivial⟩
  | slice a l c e =>
    rcases a with _ | ⟨i, o⟩
    · have h' := h; obtain ⟨rfl, _, _⟩ := h; exact ⟨h', trivial⟩
    · have h' := h; obtain ⟨m, e, x, c', rfl, hx⟩ := h; exact ⟨h', trivial⟩
  | map a =>
    rcases a with _ | i
    · have h' := h; have h1 : v = .map none := h; subst h1; exact ⟨h', trivial⟩
    · have h' := h; obtain ⟨m, e, hc, hx⟩ := h; cases v <;> first | (simp [isCell] at hc; done) | exact ⟨h', trivial⟩
  | func f x y => have h' := h; obtain ⟨x', y', rfl, _⟩ := h; exact ⟨h', trivial⟩
  | yield i => have h' := h; obtain ⟨m, e, x, rfl, hx⟩ := h; exact ⟨h', trivial⟩
  | iface t x => have h' := h; obtain ⟨y, rfl, _⟩ := h; exact ⟨h', trivial⟩
  | tuple xs => have h' := h; obtain ⟨y, rfl, _⟩ := h; exact ⟨h', trivial⟩
  | int k n => have h' := h; have h1 : v = .int k n := h; subst h1; exact ⟨h', trivial⟩
  | bool b => have h' := h; have h1 : v = .bool b := h; subst h1; exact ⟨h', trivial⟩
  | str s => have h' := h; have h1 : v = .string ⟨s.toArray⟩ := h; subst h1; exact ⟨h', trivial⟩
  | nilFunc => have h' := h; have h1 : v = .nilFunc := h; subst h1; exact ⟨h', trivial⟩
  | nilIface => have h' := h; have h1 : v = .nilIface := h; subst h1; exact ⟨h', trivial⟩
theorem Conc.map_live {ρ : Rho} {i b : Nat} {s : Sh} {v : Value} (h : Conc ρ (.map (some i)) v) (hr : ρ i = some (some (b, s))) : ∃ m, ρ i = some m ∧ ∃ r, v = .map (some r) ∧ ∀ b s, m = some (b, s) → r = b := by
  obtain ⟨m, e, _, ha⟩ := h
  rw [hr] at e; cases e
  exact ⟨_, hr, b, ha b s rfl, fun _ _ e => by cases e; rfl⟩
theorem Conc.undef {ρ : Rho} : Conc ρ .undef Go.undef := ⟨#[], rfl, trivial⟩

/-! ### Frames -/
def FRel (ρ : Rho) (f : AF) (tmps : Array Value) : Prop := f.n = tmps.size ∧ ∀ t, Conc ρ (f.get t) (tmps.getD t Go.undef)
theorem FRel.mono {ρ ρ' : Rho} {f : AF} {tmps : Array Value} (h : FRel ρ f tmps) (hx : Ext ρ ρ') : FRel ρ' f tmps := ⟨h.1, fun t => Conc.mono hx _ _ (h.2 t)⟩
theorem AF.get_put {f f' : AF} {d : Option Nat} {v : AV} (h : f.put d v = some f') (t : Nat) : f'.get t = if d = some t then v else f.get t := by
  cases d with
  | none => simp [AF.put] at h; subst h; simp
  | some d =>
    simp only [AF.put] at h
    cases hb : Nat.blt d f.n with
    | false => rw [hb] at h; simp at h
    | true =>
      rw [hb] at h; simp at h; subst h
      simp only [AF.get, PT.get_set]
      by_cases ht : t = d
      · subst ht; simp
      · have : ¬ d = t := fun e => ht e.symm
        simp [ht, this]
theorem AF.put_n {f f' : AF} {d : Option Nat} {v : AV} (h : f.put d v = some f') : f'.n = f.n := by
  cases d with
  | none => simp [AF.put] at h; subst h; rfl
  | some d =>
    simp only [AF.put] at h
    cases hb : Nat.blt d f.n with
    | false => rw [hb] at h; simp at h
    | true => rw [hb] at h; simp at h; subst h; rfl
theorem AF.put_lt {f f' : AF} {d : Nat} {v : AV} (h : f.put (some d) v = some f') : d < f.n := by
  simp only [AF.put] at h
  cases hb : Nat.blt d f.n with
  | false => rw [hb] at h; simp at h
  | true => exact of_decide_eq_true (by simpa [Nat.blt_eq] using hb)
theorem getD_setIfInBounds (a : Array Value) (d t : Nat) (v u : Value) (hd : d < a.size) : (a.setIfInBounds d v).getD t u = if d = t then v else a.getD t u := by
  simp only [Array.getD_eq_getD_getElem?, Array.getElem?_setIfInBounds]
  by_cases h : d = t
  · subst h; simp [hd]
  · simp [h]
theorem FRel.put {ρ : Rho} {f f' : AF} {a : Act} {d : Option Nat} {v : AV} {x : Value} (h : FRel ρ f a.tmps) (hp : f.put d v = some f') (hc : Conc ρ v x) : FRel ρ f' (a.put d x).tmps := by
  cases d with
  | none => simp [AF.put] at hp; subst hp; simpa [Act.put] using h
  | some d =>
    have hl := AF.put_lt hp
    refine ⟨by rw [AF.put_n hp, h.1]; simp [Act.put], fun t => ?_⟩
    rw [AF.get_put hp t]
    simp only [Act.put]
    rw [getD_setIfInBounds _ _ _ _ _ (by rw [← h.1]; exact hl)]
    by_cases ht : d = t
    · subst ht; simpa using hc
    · have : ¬ (some d = some t) := fun e => ht (by simpa using e)
      simp only [ht, this, if_false]; exact h.2 t
theorem Act.put_defers_eq (a : Act) (d : Option Nat) (v : Value) : (a.put d v).defers = a.defers := by cases d <;> rfl

/-! ### Operands -/
def XRel : AX → Operand → Prop
  | .t i, .tmp j => i = j
  | .c v, .const x => ∀ ρ, Conc ρ v x
  | .c v, .func f => v = .func f [] []
  | _, _ => False
theorem XRel.ev {ρ : Rho} {f : AF} {a : Act} {x : AX} {y : Operand} (hx : XRel x y) (h : FRel ρ f a.tmps) : Conc ρ (f.ev x) (a.eval y) := by
  cases x with
  | t i =>
    cases y with
    | tmp j => have : i = j := hx; subst this; exact h.2 i
    | _ => exact hx.elim
  | c v =>
    cases y with
    | const x => exact hx ρ
    | func g => have : v = .func g [] [] := hx; subst this; exact ⟨#[], #[], rfl, trivial, trivial⟩
    | _ => exact hx.elim
def XRelL : List AX → List Operand → Prop
  | [], [] => True
  | x :: xs, y :: ys => XRel x y ∧ XRelL xs ys
  | _, _ => False
theorem XRelL.evs {ρ : Rho} {f : AF} {a : Act} (h : FRel ρ f a.tmps) : ∀ {xs : List AX} {ys : List Operand}, XRelL xs ys → ConcL ρ (xs.map f.ev) (ys.map a.eval)
  | [], [], _ => trivial
  | x :: xs, y :: ys, hx => ⟨hx.1.ev h, XRelL.evs h hx.2⟩
  | [], _ :: _, hx => hx.elim
  | _ :: _, [], hx => hx.elim
theorem evs_eq (f : AF) (xs : List AX) : evs f xs = xs.map f.ev := by induction xs with
  | nil => rfl
  | cons x xs ih => simp [evs, ih]
def XRelO : Option AX → Option Operand → Prop
  | none, none => True
  | some x, some y => XRel x y
  | _, _ => False

/-! ### Types -/
structure TI where
  u : TypeDesc
  size : Nat
  bytes : Nat
  zero : List AV
  zv : AV           -- the zero value itself
  plain : Bool      -- it holds no interface and no address that the model stands in for
def TIOk (P : Program) (t : TypeId) (i : TI) : Prop :=
  P.underlying t = some i.u ∧ (i.plain = true → P.eqGuardType P.depth t = false ∧ P.stoodInHeld t = false) ∧ ∃ inf z, P.info? t = some inf ∧ inf.size = i.size ∧ inf.bytes = i.bytes ∧ inf.zero = some z ∧ z.cells.size = i.size ∧ (∀ ρ, ConcL ρ i.zero z.cells.toList) ∧ ∀ ρ, Conc ρ i.zv z
def aggD : TypeDesc → Bool
  | .struct _ | .array _ _ => true
  | _ => false
section
variable {P : Program} {t : TypeId} {i : TI} (h : TIOk P t i) (w : World)
include h
theorem TIOk.run_underlying : (underlying t).run P w = .ok i.u w := by
  simp [underlying, program, Sem.run_bind, Sem.run, Result.andThen, h.1, bind, Sem.bind, pure]
theorem TIOk.run_typeInfo : ∃ inf z, (typeInfo t).run P w = .ok inf w ∧ inf.size = i.size ∧ inf.bytes = i.bytes ∧ inf.zero = some z ∧ z.cells.size = i.size ∧ ∀ ρ, ConcL ρ i.zero z.cells.toList := by
  obtain ⟨inf, z, h1, h2, h3, h4, h5, h6⟩ := h.2.2
  exact ⟨inf, z, by simp [typeInfo, program, Sem.run_bind, Sem.run, Result.andThen, h1, bind, Sem.bind, pure], h2, h3, h4, h5, h6.1⟩
theorem TIOk.run_zeroValue : ∃ z, (zeroValue t).run P w = .ok z w ∧ z.cells.size = i.size ∧ (∀ ρ, ConcL ρ i.zero z.cells.toList) ∧ ∀ ρ, Conc ρ i.zv z := by
  obtain ⟨inf, z, h1, h2, h3, h4, h5, h6, h7⟩ := h.2.2
  refine ⟨z, ?_, h5, h6, h7⟩
  simp [zeroValue, typeInfo, program, Sem.run_bind, Sem.run, Result.andThen, h1, h4, bind, Sem.bind, pure]
theorem TIOk.run_sizeOf : (sizeOf t).run P w = .ok i.size w := by
  obtain ⟨inf, z, h1, h2, _⟩ := h.run_typeInfo w
  simp [sizeOf, Sem.run_bind, h1, Result.andThen, h2]
theorem TIOk.run_isAgg : (isAgg t).run P w = .ok (aggD i.u) w := by
  simp only [isAgg, Sem.run_bind, h.run_underlying w, Result.andThen]
  cases i.u <;> rfl
end
end Go.Proofs.YtjbpcddplaakfaaGreatDoor.Det

/-! Which abstract code stands for which of the machine's code: a check by program, once a function. -/
namespace Go.Proofs.YtjbpcddplaakfaaGreatDoor.Det
open Go
set_option linter.unusedVariables false
set_option linter.unusedSimpArgs false

mutual
def vOK : AV → Value → Bool
  | .int k n, .int k' n' => IntKind.same k k' && Int.same n n'
  | .bool b, .bool b' => b == b'
  | .str s, .string t => bytesSame s t.data.toList
  | .ptr none, .pointer none => true
  | .slice none l c _, .slice none l' c' => Nat.beq l 0 && Nat.beq c 0 && Nat.beq l' 0 && Nat.beq c' 0
  | .map none, .map none => true
  | .nilFunc, .nilFunc => true
  | .nilIface, .nilIface => true
  | .agg xs, .agg ys => vOKL xs ys.toList
  | .tuple xs, .tuple ys => vOKL xs ys.toList
  | _, _ => false
def vOKL : List AV → List Value → Bool
  | [], [] => true
  | x :: xs, y :: ys => vOK x y && vOKL xs ys
  | _, _ => false
end
mutual
theorem vOK_conc {ρ : Rho} : ∀ (a : AV) (v : Value), vOK a v = true → Conc ρ a v
  | .int k n, v, h => by
    cases v <;> simp [vOK] at h
    show _ = _
    rw [IntKind.same_eq h.1, Int.same_eq h.2]
  | .bool b, v, h => by cases v <;> simp [vOK] at h; show _ = _; rw [h]
  | .str s, v, h => by
    cases v <;> simp [vOK] at h
    show _ = _
    rw [bytesSame_iff] at h
    rw [h]
  | .ptr none, v, h => by
    cases v with
    | pointer a => cases a <;> simp [vOK] at h; rfl
    | _ => simp [vOK] at h
  | .ptr (some _), v, h => by cases v <;> simp [vOK] at h
  | .slice none l c e, v, h => by
    cases v with
    | slice a l' c' => cases a <;> simp [vOK, Nat.beq_eq] at h; obtain ⟨⟨⟨h1, h2⟩, h3⟩, h4⟩ := h; subst h1 h2 h3 h4; exact ⟨rfl, rfl, rfl⟩
    | _ => simp [vOK] at h
  | .slice (some _) _ _ _, v, h => by cases v <;> simp [vOK] at h
  | .map none, v, h => by
    cases v with
    | map a => cases a <;> simp [vOK] at h; rfl
    | _ => simp [vOK] at h
  | .map (some _), v, h => by cases v <;> simp [vOK] at h
  | .func _ _ _, v, h => by cases v <;> simp [vOK] at h
  | .yield _, v, h => by cases v <;> simp [vOK] at h
  | .nilFunc, v, h => by cases v <;> simp [vOK] at h; rfl
  | .iface _ _, v, h => by cases v <;> simp [vOK] at h
  | .nilIface, v, h => by cases v <;> simp [vOK] at h; rfl
  | .agg xs, v, h => by
    cases v with
    | agg ys => exact ⟨ys, rfl, vOKL_conc _ _ (by simpa [vOK] using h)⟩
    | _ => simp [vOK] at h
  | .tuple xs, v, h => by
    cases v with
    | tuple ys => exact ⟨ys, rfl, vOKL_conc _ _ (by simpa [vOK] using h)⟩
    | _ => simp [vOK] at h
theorem vOKL_conc {ρ : Rho} : ∀ (a : List AV) (v : List Value), vOKL a v = true → ConcL ρ a v
  | [], [], _ => trivial
  | x :: xs, y :: ys, h => by simp [vOKL] at h; exact ⟨vOK_conc _ _ h.1, vOKL_conc _ _ h.2⟩
  | [], _ :: _, h => by simp [vOKL] at h
  | _ :: _, [], h => by simp [vOKL] at h
end

def xOK : AX → Operand → Bool
  | .t i, .tmp j => Nat.beq i j
  | .c v, .const x => vOK v x
  | .c (.func f [] []), .func g => Nat.beq f g
  | _, _ => false
theorem xOK_rel {x : AX} {y : Operand} (h : xOK x y = true) : XRel x y := by
  cases x with
  | t i =>
    cases y <;> simp [xOK, Nat.beq_eq] at h
    exact h
  | c v =>
    cases y with
    | const z => exact fun ρ => vOK_conc _ _ (by simpa [xOK] using h)
    | func g =>
      cases v with
      | func f a b => cases a <;> cases b <;> simp [xOK, Nat.beq_eq] at h; subst h; rfl
      | _ => simp [xOK] at h
    | tmp j => cases v <;> simp [xOK] at h
    | global j => cases v <;> simp [xOK] at h
def xOKL : List AX → List Operand → Bool
  | [], [] => true
  | x :: xs, y :: ys => xOK x y && xOKL xs ys
  | _, _ => false
theorem xOKL_rel : ∀ {xs : List AX} {ys : List Operand}, xOKL xs ys = true → XRelL xs ys
  | [], [], _ => trivial
  | x :: xs, y :: ys, h => by simp [xOKL] at h; exact ⟨xOK_rel h.1, xOKL_rel h.2⟩
  | [], _ :: _, h => by simp [xOKL] at h
  | _ :: _, [], h => by simp [xOKL] at h
def xOKO : Option AX → Option Operand → Bool
  | none, none => true
  | some x, some y => xOK x y
  | _, _ => false
theorem xOKO_rel : ∀ {x : Option AX} {y : Option Operand}, xOKO x y = true → XRelO x y
  | none, none, _ => trivial
  | some x, some y, h => xOK_rel (by simpa [xOKO] using h)
  | none, some _, h => by simp [xOKO] at h
  | some _, none, h => by simp [xOKO] at h

abbrev Tab := PT TI
def TabOK (P : Program) (tab : Tab) : Prop := ∀ t i, tab.get t = some i → TIOk P t i

def BinOp.same : BinOp → BinOp → Bool
  | .add, .add | .sub, .sub | .mul, .mul | .quo, .quo | .rem, .rem | .eql, .eql | .neq, .neq | .lss, .lss | .leq, .leq | .gtr, .gtr | .geq, .geq | .and, .and | .or, .or | .xor, .xor | .andNot, .andNot | .shl, .shl | .shr, .shr => true
  | _, _ => false
theorem BinOp.same_eq {a b : BinOp} (h : BinOp.same a b = true) : a = b := by cases a <;> cases b <;> simp_all [BinOp.same]
def UnOp.same : UnOp → UnOp → Bool
  | .neg, .neg | .not, .not => true
  | _, _ => false
theorem UnOp.same_eq {a b : UnOp} (h : UnOp.same a b = true) : a = b := by cases a <;> cases b <;> simp_all [UnOp.same]

/-- A struct's or an array's places: offset and size of its parts. -/
def placeOf (tab : Tab) (u : TypeDesc) (k : Nat) : Option (Nat × Nat) :=
  match u with
  | .struct fs => match fs.toList[k]? with | some f => (match tab.get f.type with | some i => some (f.offset, i.size) | none => none) | none => none
  | .array _ e => match tab.get e with | some i => some (k * i.size, i.size) | none => none
  | _ => none
def fieldsIn (tab : Tab) : List Field → Bool
  | [] => true
  | f :: fs => match tab.get f.type with | some _ => fieldsIn tab fs | none => false
def partsOK (place : Nat → Option (Nat × Nat)) : List (Nat × Nat × AX) → List (Nat × Operand) → Bool
  | [], [] => true
  | (off, size, x) :: ps, (k, y) :: qs => (match place k with | some (o, s) => Nat.beq o off && Nat.beq s size | none => false) && xOK x y && partsOK place ps qs
  | _, _ => false
def leafK : LKd → TypeDesc → Bool
  | .int, .int _ | .bool, .bool | .str, .string => true
  | _, _ => false
def leafField (tab : Tab) : List LKd → List Field → Nat → Bool
  | [], [], _ => true
  | k :: ks, f :: fs, o => Nat.beq f.offset o && (f.name != "_") && (match tab.get f.type with | some i => leafK k i.u | none => false) && leafField tab ks fs (o + 1)
  | _, _, _ => false
def leafElems (u : TypeDesc) : List LKd → Bool
  | [] => true
  | k :: ks => leafK k u && leafElems u ks
def leavesOK (tab : Tab) (u : TypeDesc) (ks : List LKd) : Bool :=
  match u with
  | .struct fs => leafField tab ks fs.toList 0
  | .array len e => Nat.beq len ks.length && (match tab.get e with | some i => leafElems i.u ks && Nat.beq i.size 1 | none => false)
  | _ => false
def eqOK (tab : Tab) (e : EK) (i : TI) (n : Nat) : Bool :=
  match e, i.u with
  | .bool, .bool => true
  | .sliceNil, .slice _ => true
  | .funcNil, .func _ _ _ => true
  | .ifaceNil, .interface _ => true
  | .ifaceC, .interface _ => true
  | .ptr, .pointer _ => true
  | .leaves m, u => i.plain && leavesOK tab u m
  | _, _ => false

def isConst : Operand → Bool
  | .const _ => true
  | _ => false
def constOK (e : EK) (x y : Operand) : Bool := match e with | .ifaceC => isConst x || isConst y | _ => true
def opOK (tab : Tab) (o : Oper) (a : AOp) : Bool :=
  match a with
  | .fail => (match o.op with
    | .defer _ => false
    | _ => true)
  | .mv x => (match o.op with
    | .move y => xOK x y
    | .assign y => xOK x y
    | _ => false)
  | .pick c a b => (match o.op with
    | .pick c' a' b' => xOK c c' && xOK a a' && xOK b b'
    | _ => false)
  | .alloc t' z => (match o.op with
    | .alloc t => match tab.get t with | some i => AV.sameL z i.zero && Nat.beq t t' | none => false
    | _ => false)
  | .box x => (match o.op with
    | .box t y => xOK x y
    | _ => false)
  | .build z ps => (match o.op with
    | .build t qs => match tab.get t with
        | some i => AV.sameL z i.zero && (match i.u with | .struct fs => fieldsIn tab fs.toList | .array _ e => (tab.get e).isSome | _ => false) && partsOK (placeOf tab i.u) ps qs.toList
        | none => false
    | _ => false)
  | .bslice z len ps => (match o.op with
    | .buildSlice t len' qs => match tab.get t with
        | some i => (match i.u with
          | .slice e => (match tab.get e with
            | some j => AV.sameL z j.zero && Nat.beq len len' && Nat.ble (len * j.size) 16777216 && Nat.blt 0 j.size && partsOK (fun k => some (k * j.size, j.size)) ps qs.toList
            | none => false)
          | _ => false)
        | none => false
    | _ => false)
  | .load1 x => (match o.op with
    | .load t y => match tab.get t with | some i => !aggD i.u && xOK x y | none => false
    | _ => false)
  | .loadN n x => (match o.op with
    | .load t y => match tab.get t with | some i => aggD i.u && Nat.beq n i.size && xOK x y | none => false
    | _ => false)
  | .store n x y => (match o.op with
    | .store t x' y' => match tab.get t with | some i => Nat.beq n i.size && xOK x x' && xOK y y' | none => false
    | _ => false)
  | .bin op x y => (match o.op with
    | .binOp op' t x' y' _ => BinOp.same op op' && xOK x x' && xOK y y'
    | _ => false)
  | .eqv neg e x y => (match o.op with
    | .binOp op t x' y' _ => match tab.get t with
        | some i => (match op with | .eql => !neg | .neq => neg | _ => false) && eqOK tab e i 0 && xOK x x' && xOK y y' && constOK e x' y'
        | none => false
    | _ => false)
  | .peq neg x y => (match o.op with
    | .binOp op t x' y' _ => match tab.get t with
        | some i => (match op with | .eql => !neg | .neq => neg | _ => false) && (match i.u with | .pointer e => (tab.get e).isSome | _ => false) && xOK x x' && xOK y y'
        | none => false
    | _ => false)
  | .sdata x => (match o.op with
    | .call c => match c.callee, c.args.toList with
        | .builtin .unsafeSliceData, [y] => xOK x y
        | _, _ => false
    | _ => false)
  | .ustr t p n => (match o.op with
    | .call c => match c.callee, c.args.toList, c.argTypes.toList with
        | .builtin .unsafeString, [p', n'], pt :: _ => (match tab.get pt, tab.get t with
          | some i, some j => (match i.u with | .pointer e => Nat.beq e t | _ => false) && Nat.beq j.size 1 && xOK p p' && xOK n n'
          | _, _ => false)
        | _, _, _ => false
    | _ => false)
  | .un op x => (match o.op with
    | .unOp op' _ x' => UnOp.same op op' && xOK x x'
    | _ => false)
  | .conv k x => (match o.op with
    | .convert s d x' => match tab.get s, tab.get d with
        | some i, some j => xOK x x' && (match k, i.u, j.u with
          | .int k, .int _, .int k' => IntKind.same k k'
          | .str, .string, .string => true
          | .bytes, .slice e, .string => (match tab.get e with | some l => (match l.u with | .int .u8 => true | _ => false) | none => false)
          | .toBytes, .string, .slice e => (match tab.get e with | some l => (match l.u with | .int .u8 => true | _ => false) | none => false)
          | .toU, .pointer e, .unsafePointer => (match tab.get e with | some l => Nat.blt 0 l.size | none => false)
          | .ofU u sz, .unsafePointer, .pointer e => Nat.beq e u && (match tab.get e with | some l => Nat.blt 0 l.size && Nat.beq l.size sz | none => false)
          | _, _, _ => false)
        | _, _ => false
    | _ => false)
  | .iface t x => (match o.op with
    | .makeInterface t' x' => Nat.beq t t' && xOK x x' && (match tab.get t' with | some i => (match i.u with | .interface _ => false | _ => true) | none => false)
    | _ => false)
  | .mkfun f a b => (match o.op with
    | .makeFunc (.func g) a' b' => Nat.beq f g && xOKL a a'.toList && xOKL b b'.toList
    | _ => false)
  | .mkslice z bytes l c => (match o.op with
    | .makeSlice t l' c' => match tab.get t with
        | some i => (match i.u with
          | .slice e => (match tab.get e with
            | some j => AV.sameL z j.zero && Nat.beq bytes j.bytes && Nat.blt 0 j.size && xOK l l' && xOK c c'
            | none => false)
          | _ => false)
        | none => false
    | _ => false)
  | .sliceS x lo hi => (match o.op with
    | .slice t x' lo' hi' none => match tab.get t with | some i => (match i.u with | .string => true | _ => false) && xOK x x' && xOKO lo lo' && xOKO hi hi' | none => false
    | _ => false)
  | .slice size x lo hi mx => (match o.op with
    | .slice t x' lo' hi' mx' => match tab.get t with
        | some i => (match i.u with | .slice e => (match tab.get e with | some j => Nat.beq size j.size | none => false) | _ => false) && xOK x x' && xOKO lo lo' && xOKO hi hi' && xOKO mx mx'
        | none => false
    | _ => false)
  | .fld off n agg x => (match o.op with
    | .field t x' k => match tab.get t with
        | some i => (match i.u with
          | .struct fs => (match fs.toList[k]? with
            | some f => (match tab.get f.type with | some j => Nat.beq f.offset off && Nat.beq j.size n && (aggD j.u == agg) && xOK x x' | none => false)
            | none => false)
          | _ => false)
        | none => false
    | _ => false)
  | .faddr off x => (match o.op with
    | .fieldAddr t x' k => match tab.get t with
        | some i => (match i.u with
          | .struct fs => (match fs.toList[k]? with
            | some f => (match tab.get f.type with | some j => Nat.beq f.offset off && Nat.blt 0 j.size && xOK x x' | none => false)
            | none => false)
          | _ => false)
        | none => false
    | _ => false)
  | .iaddr size x y => (match o.op with
    | .indexAddr t x' y' => match tab.get t with
        | some i => (match i.u with | .slice e => (match tab.get e with | some j => Nat.beq size j.size | none => false) | _ => false) && xOK x x' && xOK y y'
        | none => false
    | _ => false)
  | .iaddrA len size x y => (match o.op with
    | .indexAddr t x' y' => match tab.get t with
        | some i => (match i.u with | .array n e => Nat.beq n len && (match tab.get e with | some j => Nat.beq size j.size | none => false) | _ => false) && xOK x x' && xOK y y'
        | none => false
    | _ => false)
  | .idxS x y => (match o.op with
    | .index t x' y' => match tab.get t with | some i => (match i.u with | .string => true | _ => false) && xOK x x' && xOK y y' | none => false
    | _ => false)
  | .idxA len size agg x y => (match o.op with
    | .index t x' y' => match tab.get t with
        | some i => (match i.u with | .array n e => Nat.beq n len && (match tab.get e with | some j => Nat.beq size j.size && (aggD j.u == agg) | none => false) | _ => false) && xOK x x' && xOK y y'
        | none => false
    | _ => false)
  | .look z ok ks m k => (match o.op with
    | .lookup t m' k' ok' => match tab.get t with
        | some i => (match i.u with
          | .map kt e => (match tab.get kt, tab.get e with
            | some ik, some ie => (match ik.u with | .int _ => !ks | .string => ks | _ => false) && AV.same z ie.zv && (ok == ok') && xOK m m' && xOK k k'
            | _, _ => false)
          | _ => false)
        | none => false
    | _ => false)
  | .mkmap => (match o.op with
    | .makeMap t none => true
    | _ => false)
  | .mset ks m k v => (match o.op with
    | .mapUpdate t m' k' v' => match tab.get t with
        | some i => (match i.u with
          | .map kt e => (match tab.get kt with | some ik => (match ik.u with | .int _ => !ks | .string => ks | _ => false) && xOK m m' && xOK k k' && xOK v v' | none => false)
          | _ => false)
        | none => false
    | .insert t m' k' v' => match tab.get t with
        | some i => (match i.u with
          | .map kt e => (match tab.get kt with | some ik => (match ik.u with | .int _ => !ks | .string => ks | _ => false) && xOK m m' && xOK k k' && xOK v v' | none => false)
          | _ => false)
        | none => false
    | _ => false)
  | .ext x i => (match o.op with
    | .extract y j => Nat.beq i j && xOK x y
    | _ => false)
  | .nilc x => (match o.op with
    | .nilCheck y => xOK x y
    | _ => false)
  | .call g xs => (match o.op with
    | .call c => match c.callee with | .value g' => xOK g g' && xOKL xs c.args.toList | _ => false
    | _ => false)
  | .len k x => (match o.op with
    | .call c => match c.callee, c.args.toList, c.argTypes.toList with
        | .builtin .len, [y], [t] => (match tab.get t with
          | some i => xOK x y && (match k, i.u with | .str, .string => true | .slice, .slice _ => true | .map, .map _ _ => true | .arr n, .array m _ => Nat.beq n m | _, _ => false)
          | none => false)
        | .builtin .cap, [y], [t] => (match tab.get t with
          | some i => xOK x y && (match k, i.u with | .cap, .slice _ => true | _, _ => false)
          | none => false)
        | _, _, _ => false
    | _ => false)
  | .append e' z bytes s x => (match o.op with
    | .call c => match c.callee, c.args.toList, c.argTypes.toList with
        | .builtin .append, [s', x'], [t, u] => (match tab.get t, tab.get u with
          | some i, some iu => (match iu.u with | .slice _ => true | .string => true | _ => false) && (match i.u with
            | .slice e => (match tab.get e with
              | some j => AV.sameL z j.zero && Nat.beq bytes j.bytes && Nat.blt 0 j.size && xOK s s' && xOK x x' && Nat.beq e' e
              | none => false)
            | _ => false)
          | _, _ => false)
        | _, _, _ => false
    | _ => false)
  | .appendZ e' z bytes s x => (match o.op with
    | .call c => match c.callee, c.args.toList, c.argTypes.toList with
        | .builtin .append, [s', x'], [t, u] => (match tab.get t, tab.get u with
          | some i, some iu => (match iu.u with | .int _ => true | _ => false) && (match i.u with
            | .slice e => (match tab.get e with
              | some j => AV.sameL z j.zero && Nat.beq bytes j.bytes && Nat.blt 0 j.size && xOK s s' && xOK x x' && Nat.beq e' e
              | none => false)
            | _ => false)
          | _, _ => false)
        | _, _, _ => false
    | _ => false)
  | .copy size d s => (match o.op with
    | .call c => match c.callee, c.args.toList, c.argTypes.toList with
        | .builtin .copy, [d', s'], t :: _ => (match tab.get t with
          | some i => (match i.u with | .slice e => (match tab.get e with | some j => Nat.beq size j.size && Nat.blt 0 j.size | none => false) | _ => false) && xOK d d' && xOK s s'
          | none => false)
        | _, _, _ => false
    | _ => false)
  | .clear z x => (match o.op with
    | .call c => match c.callee, c.args.toList, c.argTypes.toList with
        | .builtin .clear, [x'], [t] => (match tab.get t with
          | some i => (match i.u with | .slice e => (match tab.get e with | some j => AV.sameL z j.zero && Nat.blt 0 j.size | none => false) | _ => false) && xOK x x'
          | none => false)
        | _, _, _ => false
    | _ => false)
  | .minmax mx xs => (match o.op with
    | .call c => match c.callee with
        | .builtin .max => mx && xOKL xs c.args.toList
        | .builtin .min => !mx && xOKL xs c.args.toList
        | _ => false
    | _ => false)
  | .del ks m k => (match o.op with
    | .call c => match c.callee, c.args.toList, c.argTypes.toList with
        | .builtin .delete, [m', k'], t :: _ => (match tab.get t with
          | some i => (match i.u with
            | .map kt e => (match tab.get kt with | some ik => (match ik.u with | .int _ => !ks | .string => ks | _ => false) && xOK m m' && xOK k k' | none => false)
            | _ => false)
          | none => false)
        | _, _, _ => false
    | _ => false)

/-- A guard: the temporary of the operation that it hangs on. -/
def guardOK (ops : Array Oper) : Option (Nat × Bool) → Option (Nat × Bool) → Bool
  | none, none => true
  | some (t, b), some (j, b') => (match ops[j]? with | some o => (match o.dst with | some d => Nat.beq d t | none => false) | none => false) && (b == b')
  | _, _ => false
def dstOK : Option Nat → Option Nat → Bool
  | none, none => true
  | some a, some b => Nat.beq a b
  | _, _ => false
def opsOK (tab : Tab) (all : Array Oper) : List AOper → List Oper → Bool
  | [], [] => true
  | a :: as, o :: os => dstOK a.dst o.dst && guardOK all a.g o.guard && opOK tab o a.op && opsOK tab all as os
  | _, _ => false

/-! #### Regions that draw their order -/
def usesX : AX → List Nat
  | .t i => [i]
  | .c _ => []
def usesXs : List AX → List Nat
  | [] => []
  | x :: xs => usesX x ++ usesXs xs
def usesO : Option AX → List Nat
  | some x => usesX x
  | none => []
def usesP : List (Nat × Nat × AX) → List Nat
  | [] => []
  | (_, _, x) :: ps => usesX x ++ usesP ps
def usesOp : AOp → List Nat
  | .mv x | .box x | .load1 x | .loadN _ x | .un _ x | .conv _ x | .iface _ x | .fld _ _ _ x | .faddr _ x | .ext x _ | .nilc x | .len _ x | .clear _ x | .sdata x => usesX x
  | .pick a b c | .mset _ a b c => usesX a ++ usesX b ++ usesX c
  | .alloc _ _ | .mkmap | .fail => []
  | .build _ ps | .bslice _ _ ps => usesP ps
  | .store _ a b | .bin _ a b | .eqv _ _ a b | .mkslice _ _ a b | .iaddr _ a b | .iaddrA _ _ a b | .idxS a b | .idxA _ _ _ a b | .look _ _ _ a b | .append _ _ _ a b | .appendZ _ _ _ a b | .peq _ a b | .ustr _ a b | .copy _ a b | .del _ a b => usesX a ++ usesX b
  | .mkfun _ a b => usesXs a ++ usesXs b
  | .sliceS x a b => usesX x ++ usesO a ++ usesO b
  | .slice _ x a b c => usesX x ++ usesO a ++ usesO b ++ usesO c
  | .call g xs => usesX g ++ usesXs xs
  | .minmax _ xs => usesXs xs
def uses (o : AOper) : List Nat := usesOp o.op ++ (match o.g with | some (t, _) => [t] | none => [])
def clsE : AOp → Bool := fun o => match cls o with | .E => true | _ => false
def clsP : AOp → Bool := fun o => match cls o with | .P => true | _ => false
/-- The mask of what stands before an operation by its edges. -/
def maskOf (masks : List Nat) : List Edge → Nat
  | [] => 0
  | e :: es => cond (Region.binds .any e) (2 ^ e.on ||| masks.getD e.on 0 ||| maskOf masks es) (maskOf masks es)
def masksFrom (masks : List Nat) : List Oper → List Nat
  | [] => masks
  | o :: os => masksFrom (masks ++ [maskOf masks o.after.toList]) os
def edgesLt (i : Nat) : List Edge → Bool
  | [] => true
  | e :: es => (cond (Region.binds .any e) (Nat.blt e.on i) true) && edgesLt i es
def edgesAll : Nat → List Oper → Bool
  | _, [] => true
  | i, o :: os => edgesLt i o.after.toList && edgesAll (i + 1) os
/-- The plan's masks are the masks, its places run once through all, in an order that the edges allow; what acts stands in a chain; what reads or makes memory stands before what acts only if an edge says so. -/
def planOK1 (masks : List Nat) (ops : List AOper) : List (Nat × Nat) → Nat → List Nat → List Nat → Bool
  -- done: the mask of those done; es: the acting ones done, newest first; ra: the reading and making ones done
  | [], _, _, _ => true
  | (i, m) :: rest, done, es, ra =>
    (match masks[i]? with | some m' => Nat.beq m m' | none => false) && !Nat.testBit done i && Nat.beq (m &&& done) m &&
    (match ops[i]? with
     | none => false
     | some o =>
       match cls o.op with
       | .P => planOK1 masks ops rest (done ||| 2 ^ i) es ra
       | .R | .A => planOK1 masks ops rest (done ||| 2 ^ i) es (i :: ra)
       | .E => es.all (fun j => Nat.testBit m j) && ra.all (fun j => Nat.testBit m j) && planOK1 masks ops rest (done ||| 2 ^ i) (i :: es) ra)
/-- No temporary is written twice; one that is read is written, if at all, by what stands before, or by what stands behind. -/
def tmpsOK1 (masks : List Nat) (i m : Nat) (us : List Nat) : List AOper → Nat → Bool
  | [], _ => true
  | o :: os, k => (match o.dst with
      | none => true
      | some d => !(us.any (Nat.beq d)) || (Nat.testBit m k) || (match masks[k]? with | some mk => Nat.testBit mk i | none => false)) && tmpsOK1 masks i m us os (k + 1)
def tmpsOK (masks : List Nat) (all : List AOper) : List AOper → Nat → Bool
  | [], _ => true
  | o :: os, i => tmpsOK1 masks i (masks.getD i 0) (uses o) all 0 && tmpsOK masks all os (i + 1)
def dstsOK : List AOper → List Nat → Bool
  | [], _ => true
  | o :: os, seen => (match o.dst with | none => dstsOK os seen | some d => !(seen.any (Nat.beq d)) && dstsOK os (d :: seen))
def planOK (ops : List Oper) (as : List AOper) (plan : List (Nat × Nat)) : Bool :=
  let masks := masksFrom [] ops
  edgesAll 0 ops && Nat.beq plan.length ops.length && (List.range ops.length).all (fun i => plan.any (fun q => Nat.beq i q.1)) && planOK1 masks as plan 0 [] [] && tmpsOK masks as as 0 && dstsOK as []

def natsSame : List Nat → List Nat → Bool
  | [], [] => true
  | a :: as, b :: bs => Nat.beq a b && natsSame as bs
  | _, _ => false
theorem natsSame_eq : ∀ {a b : List Nat}, natsSame a b = true → a = b
  | [], [], _ => rfl
  | a :: as, b :: bs, h => by simp [natsSame, Nat.beq_eq] at h; rw [h.1, natsSame_eq h.2]
  | [], _ :: _, h => by simp [natsSame] at h
  | _ :: _, [], h => by simp [natsSame] at h
/-- No range over a function in it. -/
def noRange : ACode → Bool
  | .seq a b => noRange a && noRange b
  | .cond _ a b => noRange a && noRange b
  | .block _ b => noRange b
  | .loop b => noRange b
  | .rangeF _ _ _ _ => false
  | _ => true
def cOK (tab : Tab) : ACode → Code → Bool
  | .fail, _ => true
  | .skip, .skip => true
  | .region as, .region _ ops false => opsOK tab ops as ops.toList
  | .regionD as plan, .region _ ops true => opsOK tab ops as ops.toList && planOK ops.toList as plan
  | .seq a b, .seq a' b' => cOK tab a a' && cOK tab b b'
  | .cond x a b, .cond y a' b' => xOK x y && cOK tab a a' && cOK tab b b'
  | .block i a, .block j a' => Nat.beq i j && cOK tab a a'
  | .loop a, .loop a' => cOK tab a a'
  | .rangeF g ps a b, .rangeFunc g' ps' a' b' => xOK g g' && natsSame ps ps'.toList && cOK tab a a' && cOK tab b b' && noRange a && noRange b
  | .exit i, .exit j => Nat.beq i j
  | .ret, .ret => true
  | _, _ => false

def resOK (tab : Tab) : List ARes → List ResultVar → Bool
  | [], [] => true
  | .t i :: rs, .tmp j :: qs => Nat.beq i j && resOK tab rs qs
  | .c1 i :: rs, .cell j t :: qs => Nat.beq i j && (match tab.get t with | some k => !aggD k.u | none => false) && resOK tab rs qs
  | .cN i n :: rs, .cell j t :: qs => Nat.beq i j && (match tab.get t with | some k => aggD k.u && Nat.beq k.size n | none => false) && resOK tab rs qs
  | _, _ => false
def fnOK (tab : Tab) (a : AFn) (fn : Func) : Bool :=
  Nat.beq a.ntmps fn.ntmps && resOK tab a.res fn.results.toList && (match fn.body with | some c => cOK tab a.body c | none => false) && !(fn.name == "runtime.NumGoroutine")
end Go.Proofs.YtjbpcddplaakfaaGreatDoor.Det

/-! Operations that look at no memory: what the interpreter computes, the machine computes, in whatever world. -/
namespace Go.Proofs.YtjbpcddplaakfaaGreatDoor.Det
open Go
set_option linter.unusedVariables false
set_option linter.unusedSimpArgs false

theorem bytesLt_eq : ∀ a b : List UInt8, bytesLt a b = Op.bytesLess a b
  | [], [] => rfl
  | _ :: _, [] => rfl
  | [], _ :: _ => rfl
  | a :: x, b :: y => by
    have h1 : Nat.blt a.toNat b.toNat = decide (a < b) := by
      rw [Bool.eq_iff_iff]; simp [Nat.blt_eq, UInt8.lt_iff_toNat_lt]
    have h2 : Nat.beq a.toNat b.toNat = (a == b) := by
      rw [Bool.eq_iff_iff]; simp [Nat.beq_eq, UInt8.toNat_inj]
    simp only [bytesLt, Op.bytesLess, bytesLt_eq x y, h1, h2]
theorem byteArray_toList (l : List UInt8) : (ByteArray.mk l.toArray).toList = l := ByteArray.toList_mk l
theorem byteArray_size (l : List UInt8) : (ByteArray.mk l.toArray).size = l.length := by simp [ByteArray.size]
theorem byteArray_append (a b : List UInt8) : ByteArray.mk a.toArray ++ ByteArray.mk b.toArray = ByteArray.mk (a ++ b).toArray := by
  apply ByteArray.ext; simp
theorem byteArray_extract (l : List UInt8) (i j : Nat) : (ByteArray.mk l.toArray).extract i j = ByteArray.mk ((l.drop i).take (j - i)).toArray := by
  apply ByteArray.ext; simp [List.extract_eq_take_drop]
theorem bytesSame_beq (a b : List UInt8) : bytesSame a b = (a == b) := by
  rw [Bool.eq_iff_iff, bytesSame_iff]; simp
theorem IntSame_beq (a b : Int) : Int.same a b = (a == b) := by
  rw [Bool.eq_iff_iff]; simp
  exact ⟨Int.same_eq, fun h => by subst h; cases a <;> simp [Int.same, Nat.beq_eq]⟩
theorem IntKindSame_iff {a b : IntKind} : IntKind.same a b = true ↔ a = b := ⟨IntKind.same_eq, fun h => by subst h; cases a <;> rfl⟩

theorem cond_some {α : Type} {b : Bool} {x : Option α} {y : α} (h : cond b x none = some y) : b = true ∧ x = some y := by cases b <;> simp_all

/-! ### What the shapes of abstract values say of the machine's -/
section
variable {ρ : Rho} {v : Value}
theorem Conc.int_ {k : IntKind} {n : Int} (h : Conc ρ (.int k n) v) : v = .int k n := h
theorem Conc.bool_ {b : Bool} (h : Conc ρ (.bool b) v) : v = .bool b := h
theorem Conc.str_ {s : List UInt8} (h : Conc ρ (.str s) v) : v = .string ⟨s.toArray⟩ := h
theorem natOf_some {x : AV} {i : Nat} (h : natOf x = some i) : ∃ k, x = .int k (Int.ofNat i) := by
  cases x with
  | int k n => cases n <;> simp [natOf] at h; subst h; exact ⟨k, rfl⟩
  | _ => simp [natOf] at h
theorem Conc.nat_ {x : AV} {i : Nat} (hx : natOf x = some i) (h : Conc ρ x v) : ∃ k, v = .int k (i : Int) := by
  obtain ⟨k, rfl⟩ := natOf_some hx
  exact ⟨k, h⟩
end

/-! ### Arithmetic -/
section
variable {P : Program} (w : World)
theorem binInt_sound {op : BinOp} {k : IntKind} {a b : Int} {v : AV} (h : binInt op k a b = some v) (t : TypeId) :
    ∃ x, (binOp op t (.int k a) (.int k b)).run P w = .ok x w ∧ ∀ ρ, Conc ρ v x := by
  cases op <;> simp only [binInt] at h
  case add => cases h; exact ⟨_, by simp [binOp, Op.intArith], fun _ => rfl⟩
  case sub => cases h; exact ⟨_, by simp [binOp, Op.intArith], fun _ => rfl⟩
  case mul => cases h; exact ⟨_, by simp [binOp, Op.intArith], fun _ => rfl⟩
  case quo =>
    cases hb : Int.same b 0 with
    | true => rw [hb] at h; simp at h
    | false =>
      rw [hb] at h; simp at h; subst h
      rw [IntSame_beq] at hb
      have hb' : b ≠ 0 := by simpa using hb
      exact ⟨_, by simp [binOp, Op.intDiv, hb'], fun _ => rfl⟩
  case rem =>
    cases hb : Int.same b 0 with
    | true => rw [hb] at h; simp at h
    | false =>
      rw [hb] at h; simp at h; subst h
      rw [IntSame_beq] at hb
      have hb' : b ≠ 0 := by simpa using hb
      exact ⟨_, by simp [binOp, Op.intDiv, hb'], fun _ => rfl⟩
  case eql => cases h; exact ⟨.bool (a == b), by simp [binOp, Op.intCmp], fun _ => by show _ = _; rw [IntSame_beq]⟩
  case neq => cases h; exact ⟨.bool (a != b), by simp [binOp, Op.intCmp], fun _ => by show _ = _; rw [IntSame_beq]; rfl⟩
  case lss => cases h; exact ⟨.bool (decide (a < b)), by simp [binOp, Op.intCmp], fun _ => rfl⟩
  case leq => cases h; exact ⟨.bool (decide (a ≤ b)), by simp [binOp, Op.intCmp], fun _ => rfl⟩
  case gtr => cases h; exact ⟨.bool (decide (b < a)), by simp [binOp, Op.intCmp], fun _ => rfl⟩
  case geq => cases h; exact ⟨.bool (decide (b ≤ a)), by simp [binOp, Op.intCmp], fun _ => rfl⟩
  case and => cases h; exact ⟨_, by simp [binOp, Op.intBits], fun _ => rfl⟩
  case or => cases h; exact ⟨_, by simp [binOp, Op.intBits], fun _ => rfl⟩
  case xor => cases h; exact ⟨_, by simp [binOp, Op.intBits], fun _ => rfl⟩
  case andNot =>
    cases h
    refine ⟨.int k (k.wrap ((BitVec.ofInt k.bits a &&& ~~~BitVec.ofInt k.bits b).toNat)), by simp only [binOp, Op.intBits]; simp, fun _ => ?_⟩
    show _ = _
    rw [BitVec.toNat_and, BitVec.toNat_not]
    rfl
  all_goals cases h
theorem shiftInt_sound {op : BinOp} {k k' : IntKind} {a b : Int} {v : AV} (h : shiftInt op k a b = some v) (t : TypeId) :
    ∃ x, (binOp op t (.int k a) (.int k' b)).run P w = .ok x w ∧ ∀ ρ, Conc ρ v x := by
  cases b with
  | negSucc b => cases h
  | ofNat y =>
    have hn : ¬ ((Int.ofNat y) < 0) := by simp
    have hm : cond (Nat.ble y k.bits) y k.bits = min (Int.ofNat y).toNat k.bits := by
      cases hb : Nat.ble y k.bits with
      | true => have := Nat.le_of_ble_eq_true hb; simp only [cond_true, Int.ofNat_eq_natCast, Int.toNat_natCast]; omega
      | false =>
        have : ¬ y ≤ k.bits := fun h => by rw [Nat.ble_eq_true_of_le h] at hb; cases hb
        simp only [cond_false, Int.ofNat_eq_natCast, Int.toNat_natCast]; omega
    cases op <;> simp only [shiftInt] at h
    case shl =>
      cases h
      refine ⟨.int k (k.wrap (a * 2 ^ min (Int.ofNat y).toNat k.bits)), by simp only [binOp, Op.shift, if_neg hn, Sem.run_pure], fun _ => ?_⟩
      show _ = _
      rw [← hm]
      congr 2
    case shr =>
      cases h
      refine ⟨.int k (a.fdiv (2 ^ min (Int.ofNat y).toNat k.bits)), by simp only [binOp, Op.shift, if_neg hn, Sem.run_pure], fun _ => ?_⟩
      show _ = _
      rw [← hm]
      congr 2
    all_goals cases h

theorem binStr_sound {op : BinOp} {a b : List UInt8} {v : AV} (h : binStr op a b = some v) (t : TypeId) :
    ∃ x, (binOp op t (.string ⟨a.toArray⟩) (.string ⟨b.toArray⟩)).run P w = .ok x w ∧ ∀ ρ, Conc ρ v x := by
  cases op <;> simp only [binStr] at h
  case add =>
    obtain ⟨h1, h2⟩ := cond_some h
    cases h2
    have h1' : a.length + b.length ≤ 9223372036854775807 := by simpa [Nat.ble_eq] using h1
    refine ⟨.string (⟨a.toArray⟩ ++ ⟨b.toArray⟩), ?_, fun _ => ?_⟩
    · have hm : IntKind.i64.max = 9223372036854775807 := rfl
      simp only [binOp, Op.stringOp]
      rw [if_neg (by rw [byteArray_size, byteArray_size, hm]; omega)]
      rfl
    · show _ = _; rw [byteArray_append]
  case eql => cases h; exact ⟨.bool (a == b), by simp [binOp, Op.stringOp], fun _ => by show _ = _; rw [bytesSame_beq]⟩
  case neq => cases h; exact ⟨.bool (!(a == b)), by simp [binOp, Op.stringOp], fun _ => by show _ = _; rw [bytesSame_beq]⟩
  case lss => cases h; exact ⟨.bool (Op.bytesLess a b), by simp [binOp, Op.stringOp], fun _ => by show _ = _; rw [bytesLt_eq]⟩
  case leq => cases h; exact ⟨.bool (Op.bytesLess a b || a == b), by simp [binOp, Op.stringOp], fun _ => by show _ = _; rw [bytesLt_eq, bytesSame_beq]⟩
  case gtr => cases h; exact ⟨.bool (!(Op.bytesLess a b || a == b)), by simp [binOp, Op.stringOp], fun _ => by show _ = _; rw [bytesLt_eq, bytesSame_beq]⟩
  case geq => cases h; exact ⟨.bool (!Op.bytesLess a b), by simp [binOp, Op.stringOp], fun _ => by show _ = _; rw [bytesLt_eq]⟩
  all_goals cases h
theorem eqGuard_ok (op : BinOp) (t : TypeId) (x y : Operand) (a b : Value) (h1 : ∀ xs, a = .agg xs → P.eqGuardType P.depth t = false) (h2 : a = .nilIface → b = .nilIface → (isConst x || isConst y) = true) :
    (eqGuard op t x y a b).run P w = .ok () w := by
  have agg : ∀ (o : BinOp) (xs ys : Array Value), a = .agg xs → b = .agg ys → (o = .eql ∨ o = .neq) → (eqGuard o t x y a b).run P w = .ok () w := by
    intro o xs ys ha hb ho
    subst ha hb
    rcases ho with rfl | rfl <;> simp [eqGuard, h1 xs rfl]
  have nil : ∀ (o : BinOp), a = .nilIface → b = .nilIface → (o = .eql ∨ o = .neq) → (eqGuard o t x y a b).run P w = .ok () w := by
    intro o ha hb ho
    have hc := h2 ha hb
    clear h2
    subst ha hb
    rcases ho with rfl | rfl <;> cases x <;> cases y <;> first | rfl | (simp [isConst] at hc)
  clear h1 h2
  cases op <;> first | rfl | skip
  all_goals
    cases a <;> cases b <;> first | rfl | exact nil _ rfl rfl (.inl rfl) | exact nil _ rfl rfl (.inr rfl) | exact agg _ _ _ rfl rfl (.inl rfl) | exact agg _ _ _ rfl rfl (.inr rfl)
/-! ### Equality, leaf by leaf -/
theorem leafK_some {ρ : Rho} {k : LKd} {x y : AV} {r : Bool} (h : leafEq k x y = some r) {x' y' : Value} (hx : Conc ρ x x') (hy : Conc ρ y y') {t : TypeId} {u : TypeDesc} (ht : P.underlying t = some u)
    (hl : leafK k u = true) (d : Nat) : (Op.equalIn (d + 1) t x' y').run P w = .ok r w := by
  cases k <;> cases u <;> simp only [leafK, Bool.false_eq_true] at hl
  · cases x <;> cases y <;> simp only [leafEq] at h <;> try (cases h; done)
    obtain ⟨h1, h2⟩ := cond_some h
    cases h2
    have := IntKind.same_eq h1
    subst this
    have hx' := Conc.int_ hx; have hy' := Conc.int_ hy
    subst hx' hy'
    rw [run_equalIn_int w d t _ _ _ _ ht, IntSame_beq]
  · cases x <;> cases y <;> simp only [leafEq] at h <;> try (cases h; done)
    cases h
    have hx' := Conc.bool_ hx; have hy' := Conc.bool_ hy
    subst hx' hy'
    rw [run_equalIn_bool' w d t _ _ ht]
  · cases x <;> cases y <;> simp only [leafEq] at h <;> try (cases h; done)
    cases h
    have hx' := Conc.str_ hx; have hy' := Conc.str_ hy
    subst hx' hy'
    rw [run_equalIn_string w d t _ _ ht, byteArray_toList, byteArray_toList, bytesSame_beq]
theorem leafK_agg {k : LKd} {u : TypeDesc} (h : leafK k u = true) : aggD u = false := by cases k <;> cases u <;> simp_all [leafK, aggD]
theorem part_leaf {ρ : Rho} {t : TypeId} {i : TI} (h : TIOk P t i) (ha : aggD i.u = false) {cs : List AV} {vs : Array Value} (hc : ConcL ρ cs vs.toList) {o : Nat} {x : AV} (hx : cs[o]? = some x) :
    ∃ y, (part t vs o).run P w = .ok y w ∧ Conc ρ x y := by
  obtain ⟨y, hy, hcy⟩ := hc.get o x hx
  refine ⟨y, ?_, hcy⟩
  have hy' : vs[o]? = some y := by simpa using hy
  simp only [part, Sem.run_bind, h.run_isAgg w, Result.andThen_ok, ha, Bool.false_eq_true, if_false, hy', Sem.run_pure]
theorem leavesEq_cons {k : LKd} {ks : List LKd} {as bs : List AV} {r : Bool} (h : leavesEq (k :: ks) as bs = some r) :
    ∃ a as' b bs' r1 r2, as = a :: as' ∧ bs = b :: bs' ∧ leafEq k a b = some r1 ∧ leavesEq ks as' bs' = some r2 ∧ r = (r1 && r2) := by
  cases as with
  | nil => simp [leavesEq] at h
  | cons a as' =>
    cases bs with
    | nil => simp [leavesEq] at h
    | cons b bs' =>
      simp only [leavesEq] at h
      cases h1 : leafEq k a b with
      | none => rw [h1] at h; cases h
      | some r1 =>
        rw [h1] at h
        cases r1 with
        | true => exact ⟨a, as', b, bs', true, r, rfl, rfl, h1, h, by simp⟩
        | false =>
          simp only at h
          cases h2 : leavesEq ks as' bs' with
          | none => rw [h2] at h; cases h
          | some r2 => rw [h2] at h; cases h; exact ⟨a, as', b, bs', false, r2, rfl, rfl, h1, h2, by simp⟩
theorem drop_cons {α : Type} {l : List α} {o : Nat} {a : α} {as : List α} (h : l.drop o = a :: as) : l[o]? = some a ∧ l.drop (o + 1) = as := by
  constructor
  · have := congrArg (·[0]?) h; simpa using this
  · have := congrArg (·.drop 1) h; simpa [List.drop_drop] using this
theorem eqFields_sound {ρ : Rho} {tab : Tab} (htab : TabOK P tab) {as bs : List AV} {xs ys : Array Value} (ha : ConcL ρ as xs.toList) (hb : ConcL ρ bs ys.toList) (d : Nat) :
    ∀ (ks : List LKd) (fs : List Field) (o : Nat) (r : Bool), leafField tab ks fs o = true → leavesEq ks (as.drop o) (bs.drop o) = some r →
      (Op.eqFields (d + 1) xs ys fs).run P w = .ok r w := by
  intro ks
  induction ks with
  | nil =>
    intro fs o r hf hr
    cases fs with
    | nil =>
      have : r = true := by
        generalize as.drop o = a at hr; generalize bs.drop o = b at hr
        cases a <;> cases b <;> simp [leavesEq] at hr; exact hr
      subst this; rfl
    | cons f fs => simp [leafField] at hf
  | cons k ks ih =>
    intro fs o r hf hr
    cases fs with
    | nil => simp [leafField] at hf
    | cons f fs =>
      simp only [leafField, Bool.and_eq_true] at hf
      obtain ⟨⟨⟨hoff, hname⟩, hty⟩, hrest⟩ := hf
      have hoff' : f.offset = o := by simpa [Nat.beq_eq] using hoff
      have hname' : f.name ≠ "_" := by simpa using hname
      cases ht : tab.get f.type with
      | none => rw [ht] at hty; cases hty
      | some i =>
        rw [ht] at hty
        have hti := htab _ _ ht
        obtain ⟨a, as', b, bs', r1, r2, hea, heb, hl, hrs, rfl⟩ := leavesEq_cons hr
        obtain ⟨ga, da⟩ := drop_cons hea
        obtain ⟨gb, db⟩ := drop_cons heb
        have hagg := leafK_agg hty
        obtain ⟨x, hx, cx⟩ := part_leaf (P := P) w hti hagg ha ga
        obtain ⟨y, hy, cy⟩ := part_leaf (P := P) w hti hagg hb gb
        have he := leafK_some (P := P) w hl cx cy hti.1 hty d
        simp only [Op.eqFields, hname', ne_eq, not_false_eq_true, if_true, Sem.run_bind, hoff', hx, hy, Result.andThen_ok, he]
        cases r1 with
        | false => simp
        | true =>
          simp only [Bool.not_true, Bool.false_eq_true, if_false, Bool.true_and]
          exact ih fs (o + 1) r2 hrest (by rw [da, db]; exact hrs)
theorem eqElems_sound {ρ : Rho} {e : TypeId} {i : TI} (hti : TIOk P e i) {as bs : List AV} {xs ys : Array Value} (ha : ConcL ρ as xs.toList) (hb : ConcL ρ bs ys.toList) (d : Nat) :
    ∀ (ks : List LKd) (o : Nat) (r : Bool), leafElems i.u ks = true → leavesEq ks (as.drop o) (bs.drop o) = some r →
      (forIn (List.range' o ks.length) ((none : Option Bool), ()) (fun j (_ : Option Bool × Unit) => (do
          let a ← part e xs (j * 1)
          let b ← part e ys (j * 1)
          let r ← Op.equalIn (d + 1) e a b
          if (!r) = true then pure (ForInStep.done (some false, ())) else pure (ForInStep.yield (none, ())) : Sem (ForInStep (Option Bool × Unit))))).run P w
        = .ok (if r then none else some false, ()) w := by
  intro ks
  induction ks with
  | nil =>
    intro o r _ hr
    have : r = true := by
      generalize as.drop o = a at hr; generalize bs.drop o = b at hr
      cases a <;> cases b <;> simp [leavesEq] at hr; exact hr
    subst this; simp
  | cons k ks ih =>
    intro o r hk hr
    simp only [leafElems, Bool.and_eq_true] at hk
    obtain ⟨a, as', b, bs', r1, r2, hea, heb, hl, hrs, rfl⟩ := leavesEq_cons hr
    obtain ⟨ga, da⟩ := drop_cons hea
    obtain ⟨gb, db⟩ := drop_cons heb
    have hagg := leafK_agg hk.1
    obtain ⟨x, hx, cx⟩ := part_leaf (P := P) w hti hagg ha ga
    obtain ⟨y, hy, cy⟩ := part_leaf (P := P) w hti hagg hb gb
    have he := leafK_some (P := P) w hl cx cy hti.1 hk.1 d
    have hih := ih (o + 1) r2 hk.2 (by rw [da, db]; exact hrs)
    simp only [List.length_cons, List.range'_succ, List.forIn_cons, Sem.run_bind, Nat.mul_one, hx, hy, Result.andThen_ok, he]
    cases r1 with
    | false => simp
    | true => simpa using hih
theorem equal_array {ρ : Rho} {t e : TypeId} {len : Nat} (ht : P.underlying t = some (.array len e)) {i : TI} (hti : TIOk P e i) (hs : i.size = 1) {as bs : List AV} {xs ys : Array Value} (ha : ConcL ρ as xs.toList) (hb : ConcL ρ bs ys.toList)
    (ks : List LKd) (hlen : len = ks.length) (r : Bool) (hk : leafElems i.u ks = true) (hr : leavesEq ks as bs = some r) (d : Nat) : (Op.equalIn (d + 2) t (.agg xs) (.agg ys)).run P w = .ok r w := by
  have h := eqElems_sound (P := P) w hti ha hb d ks 0 r hk (by simpa using hr)
  generalize hD : d + 1 = D at h
  have hD' : d + 2 = D + 1 := by omega
  rw [hD']
  simp only [Op.equalIn, Sem.run_bind, run_underlying ht, Result.andThen_ok, hti.run_sizeOf w, hs]
  rw [Std.Legacy.Range.forIn_eq_forIn_range']
  have hsz : [:len].size = ks.length := by simp [Std.Legacy.Range.size, hlen]
  rw [hsz]
  simp only [Sem.run_bind] at h ⊢
  rw [h]
  cases r <;> simp
theorem eqIn_slice {t e : TypeId} (hu : P.underlying t = some (.slice e)) (D : Nat) (a b : Option Addr) (l c l' c' : Nat) (h : a = none ∨ b = none) :
    (Op.equalIn (D + 1) t (.slice a l c) (.slice b l' c')).run P w = .ok (a.isNone && b.isNone) w := by
  rcases h with rfl | rfl
  · simp only [Op.equalIn, Sem.run_bind, run_underlying hu, Result.andThen_ok, Sem.run_pure]; simp
  · cases a <;> simp only [Op.equalIn, Sem.run_bind, run_underlying hu, Result.andThen_ok, Sem.run_pure] <;> simp
theorem eqIn_ptr {t e : TypeId} (hu : P.underlying t = some (.pointer e)) (D : Nat) (a b : Option Addr) (h : a = none ∨ b = none) :
    (Op.equalIn (D + 1) t (.pointer a) (.pointer b)).run P w = .ok (a.isNone && b.isNone) w := by
  rcases h with rfl | rfl
  · simp only [Op.equalIn, Sem.run_bind, run_underlying hu, Result.andThen_ok, Sem.run_pure]; simp
  · cases a <;> simp only [Op.equalIn, Sem.run_bind, run_underlying hu, Result.andThen_ok, Sem.run_pure] <;> simp
theorem eqIn_func {t : TypeId} {ps rs : Array TypeId} {v : Bool} (hu : P.underlying t = some (.func ps rs v)) (D : Nat) (fn : Fn) (x y : Array Value) :
    (Op.equalIn (D + 1) t .nilFunc .nilFunc).run P w = .ok true w ∧ (Op.equalIn (D + 1) t .nilFunc (.func fn x y)).run P w = .ok false w ∧ (Op.equalIn (D + 1) t (.func fn x y) .nilFunc).run P w = .ok false w := by
  refine ⟨?_, ?_, ?_⟩ <;> simp only [Op.equalIn, Sem.run_bind, run_underlying hu, Result.andThen_ok, Sem.run_pure]
theorem eqIn_iface {t : TypeId} {ms : Array (String × TypeId)} (hu : P.underlying t = some (.interface ms)) (D : Nat) (u : TypeId) (x : Value) :
    (Op.equalIn (D + 1) t .nilIface (.iface u x)).run P w = .ok false w ∧ (Op.equalIn (D + 1) t (.iface u x) .nilIface).run P w = .ok false w := by
  refine ⟨?_, ?_⟩ <;> simp only [Op.equalIn, Sem.run_bind, run_underlying hu, Result.andThen_ok, Sem.run_pure]
theorem equal_eq (t : TypeId) (x y : Value) : Op.equal t x y = Op.equalIn (9999 + 1) t x y := rfl
theorem eqOp_sound {ρ : Rho} {tab : Tab} (htab : TabOK P tab) {e : EK} {t : TypeId} {i : TI} (ht : tab.get t = some i) (hk : eqOK tab e i 0 = true) {x y : AV} {r : Bool} (h : eqOp e x y = some r)
    {x' y' : Value} (hx : Conc ρ x x') (hy : Conc ρ y y') (op : BinOp) (p q : Operand) (hcn : constOK e p q = true) :
    (eqGuard op t p q x' y').run P w = .ok () w ∧ (Op.equal t x' y').run P w = .ok r w := by
  have hti := htab _ _ ht
  cases e with
  | bool =>
    cases x <;> cases y <;> simp only [eqOp] at h <;> try (cases h; done)
    cases h
    have hx' := Conc.bool_ hx; have hy' := Conc.bool_ hy
    subst hx' hy'
    refine ⟨eqGuard_ok w op t p q _ _ (fun _ h => by cases h) (fun h => by cases h), ?_⟩
    cases hu : i.u <;> simp only [eqOK, hu, Bool.false_eq_true] at hk
    exact run_equalIn_bool' w 9999 t _ _ (hu ▸ hti.1)
  | sliceNil =>
    cases hu : i.u <;> simp only [eqOK, hu, Bool.false_eq_true] at hk
    rename_i el
    have hut := hu ▸ hti.1
    cases x with
    | slice a l c e =>
      cases y with
      | slice b l' c' e' =>
        have hslx : ∃ a' c'', x' = .slice a' l c'' ∧ a'.isSome = a.isSome := by
          rcases a with _ | ⟨ai, ao⟩
          · obtain ⟨h1, h2, _⟩ := hx; exact ⟨none, 0, by rw [h1, h2], rfl⟩
          · obtain ⟨m, _, a', c'', h1, _⟩ := hx; exact ⟨some a', c'', h1, rfl⟩
        have hsly : ∃ a' c'', y' = .slice a' l' c'' ∧ a'.isSome = b.isSome := by
          rcases b with _ | ⟨ai, ao⟩
          · obtain ⟨h1, h2, _⟩ := hy; exact ⟨none, 0, by rw [h1, h2], rfl⟩
          · obtain ⟨m, _, a', c'', h1, _⟩ := hy; exact ⟨some a', c'', h1, rfl⟩
        obtain ⟨xa, xc, rfl, hxa⟩ := hslx
        obtain ⟨ya, yc, rfl, hya⟩ := hsly
        refine ⟨eqGuard_ok w op t p q _ _ (fun _ h => by cases h) (fun h => by cases h), ?_⟩
        rcases a with _ | ⟨ai, ao⟩ <;> rcases b with _ | ⟨bi, bo⟩ <;> simp only [eqOp] at h <;> try (cases h; done)
        all_goals cases h
        all_goals rw [equal_eq, eqIn_slice (P := P) w hut 9999 xa ya _ _ _ _ (by cases xa <;> cases ya <;> simp_all)]
        all_goals cases xa <;> cases ya <;> simp_all
      | _ => rcases a with _ | a <;> simp [eqOp] at h
    | _ => simp [eqOp] at h
  | funcNil =>
    cases hu : i.u <;> simp only [eqOK, hu, Bool.false_eq_true] at hk
    have hut := hu ▸ hti.1
    cases x <;> cases y <;> simp only [eqOp] at h <;> try (cases h; done)
    · cases h
      obtain ⟨x1, x2, rfl, _⟩ := hx
      have hy' : y' = .nilFunc := hy
      subst hy'
      exact ⟨eqGuard_ok w op t p q _ _ (fun _ h => by cases h) (fun h => by cases h), (eqIn_func (P := P) w hut 9999 _ _ _).2.2⟩
    · cases h
      obtain ⟨x1, x2, rfl, _⟩ := hy
      have hx' : x' = .nilFunc := hx
      subst hx'
      exact ⟨eqGuard_ok w op t p q _ _ (fun _ h => by cases h) (fun h => by cases h), (eqIn_func (P := P) w hut 9999 _ _ _).2.1⟩
    · cases h
      have hx' : x' = .nilFunc := hx
      have hy' : y' = .nilFunc := hy
      subst hx' hy'
      exact ⟨eqGuard_ok w op t p q _ _ (fun _ h => by cases h) (fun h => by cases h), (eqIn_func (P := P) w hut 9999 (.func 0) #[] #[]).1⟩
  | ifaceNil =>
    cases hu : i.u <;> simp only [eqOK, hu, Bool.false_eq_true] at hk
    have hut := hu ▸ hti.1
    cases x <;> cases y <;> simp only [eqOp] at h <;> try (cases h; done)
    · cases h
      obtain ⟨x1, rfl, _⟩ := hx
      have hy' : y' = .nilIface := hy
      subst hy'
      exact ⟨eqGuard_ok w op t p q _ _ (fun _ h => by cases h) (fun h => by cases h), (eqIn_iface (P := P) w hut 9999 _ _).2⟩
    · cases h
      obtain ⟨x1, rfl, _⟩ := hy
      have hx' : x' = .nilIface := hx
      subst hx'
      exact ⟨eqGuard_ok w op t p q _ _ (fun _ h => by cases h) (fun _ h => by cases h), (eqIn_iface (P := P) w hut 9999 _ _).1⟩
  | ifaceC =>
    cases hu : i.u <;> simp only [eqOK, hu, Bool.false_eq_true] at hk
    have hut := hu ▸ hti.1
    cases x <;> cases y <;> simp only [eqOp] at h <;> try (cases h; done)
    · cases h
      obtain ⟨x1, rfl, _⟩ := hx
      have hy' : y' = .nilIface := hy
      subst hy'
      exact ⟨eqGuard_ok w op t p q _ _ (fun _ h => by cases h) (fun h => by cases h), (eqIn_iface (P := P) w hut 9999 _ _).2⟩
    · cases h
      obtain ⟨x1, rfl, _⟩ := hy
      have hx' : x' = .nilIface := hx
      subst hx'
      exact ⟨eqGuard_ok w op t p q _ _ (fun _ h => by cases h) (fun _ h => by cases h), (eqIn_iface (P := P) w hut 9999 _ _).1⟩
    · cases h
      have hx' : x' = .nilIface := hx
      have hy' : y' = .nilIface := hy
      subst hx' hy'
      refine ⟨eqGuard_ok w op t p q _ _ (fun _ h => by cases h) (fun _ _ => hcn), ?_⟩
      have hq : ∀ D, (Op.equalIn (D + 1) t .nilIface .nilIface).run P w = .ok true w := fun D => by
        simp only [Op.equalIn, Sem.run_bind, run_underlying hut, Result.andThen_ok, Sem.run_pure]
      exact hq 9999
  | ptr =>
    cases hu : i.u <;> simp only [eqOK, hu, Bool.false_eq_true] at hk
    have hut := hu ▸ hti.1
    cases x with
    | ptr a =>
      cases y with
      | ptr b =>
        have hpx : ∃ a', x' = .pointer a' ∧ a'.isSome = a.isSome := by
          rcases a with _ | ⟨ai, ao⟩
          · exact ⟨none, hx, rfl⟩
          · obtain ⟨m, _, a', h1, _⟩ := hx; exact ⟨some a', h1, rfl⟩
        have hpy : ∃ a', y' = .pointer a' ∧ a'.isSome = b.isSome := by
          rcases b with _ | ⟨ai, ao⟩
          · exact ⟨none, hy, rfl⟩
          · obtain ⟨m, _, a', h1, _⟩ := hy; exact ⟨some a', h1, rfl⟩
        obtain ⟨xa, rfl, hxa⟩ := hpx
        obtain ⟨ya, rfl, hya⟩ := hpy
        refine ⟨eqGuard_ok w op t p q _ _ (fun _ h => by cases h) (fun h => by cases h), ?_⟩
        rcases a with _ | ⟨ai, ao⟩ <;> rcases b with _ | ⟨bi, bo⟩ <;> simp only [eqOp] at h <;> try (cases h; done)
        all_goals cases h
        all_goals rw [equal_eq, eqIn_ptr (P := P) w hut 9999 xa ya (by cases xa <;> cases ya <;> simp_all)]
        all_goals cases xa <;> cases ya <;> simp_all
      | _ => rcases a with _ | a <;> simp [eqOp] at h
    | _ => simp [eqOp] at h
  | leaves ks =>
    simp only [eqOK, Bool.and_eq_true] at hk
    obtain ⟨hpl, hlv⟩ := hk
    obtain ⟨hg, hst⟩ := hti.2.1 hpl
    cases x with
    | agg as =>
      cases y with
      | agg bs =>
        simp only [eqOp] at h
        obtain ⟨xs, rfl, hxs⟩ := hx
        obtain ⟨ys, rfl, hys⟩ := hy
        refine ⟨eqGuard_ok w op t p q _ _ (fun _ _ => hg) (fun h => by cases h), ?_⟩
        cases hu : i.u <;> simp only [leavesOK, hu, Bool.false_eq_true] at hlv
        · rename_i len e
          simp only [Bool.and_eq_true] at hlv
          obtain ⟨hlen, hel⟩ := hlv
          cases he : tab.get e with
          | none => rw [he] at hel; cases hel
          | some j =>
            rw [he] at hel
            simp only [Bool.and_eq_true] at hel
            exact equal_array (P := P) w (hu ▸ hti.1) (htab _ _ he) (by simpa [Nat.beq_eq] using hel.2) hxs hys ks (by simpa [Nat.beq_eq] using hlen) r hel.1 h 9998
        · rename_i fs
          have hut : P.underlying t = some (.struct (P.fieldsOf t)) := by
            have := hu ▸ hti.1
            rw [this]; simp [Program.fieldsOf, this]
          have hfs : P.fieldsOf t = fs := by
            have := hu ▸ hti.1
            simp [Program.fieldsOf, this]
          show (Op.equalIn (9999 + 1) t (.agg xs) (.agg ys)).run P w = .ok r w
          rw [run_equalIn_agg w 9999 t xs ys hut hst, hfs]
          exact eqFields_sound (P := P) w htab hxs hys 9998 ks fs.toList 0 r hlv (by simpa using h)
      | _ => simp [eqOp] at h
    | _ => simp [eqOp] at h
end
end Go.Proofs.YtjbpcddplaakfaaGreatDoor.Det

/-! Operations that look at no memory, all of them: 'pure_sound'. -/
namespace Go.Proofs.YtjbpcddplaakfaaGreatDoor.Det
open Go
set_option linter.unusedVariables false
set_option linter.unusedSimpArgs false

/-! ### Cells that are filled -/
theorem foldl_fill {ρ : Rho} : ∀ (ys : List Value) (xs : List AV) (cs : List AV) (vs : Array Value) (off k : Nat), ConcL ρ cs vs.toList → ConcL ρ xs ys →
    ConcL ρ (fillAt cs (off + k) xs) ((ys.zipIdx k).foldl (fun (cs : Array Value) (p : Value × Nat) => cs.setIfInBounds (off + p.2) p.1) vs).toList
  | [], [], cs, vs, off, k, hc, _ => hc
  | y :: ys, x :: xs, cs, vs, off, k, hc, hx => by
    simp only [List.zipIdx_cons, List.foldl_cons, fillAt]
    exact foldl_fill ys xs (cs.set (off + k) x) (vs.setIfInBounds (off + k) y) off (k + 1) (by simpa using hc.set (off + k) hx.1) hx.2
  | [], _ :: _, _, _, _, _, _, hx => hx.elim
  | _ :: _, [], _, _, _, _, _, hx => hx.elim
theorem fill_sound {ρ : Rho} {f : AF} {a : Act} (hf : FRel ρ f a.tmps) (place : Nat → Option (Nat × Nat)) : ∀ (ps : List (Nat × Nat × AX)) (qs : List (Nat × Operand)) (cs cs' : List AV) (vs : Array Value),
    partsOK place ps qs = true → fill f cs ps = some cs' → ConcL ρ cs vs.toList →
    ∃ vs', Instr.fill place vs (qs.map fun p => (p.1, a.eval p.2)) = some vs' ∧ ConcL ρ cs' vs'.toList
  | [], [], cs, cs', vs, _, h, hc => by simp [fill] at h; subst h; exact ⟨vs, rfl, hc⟩
  | (off, size, x) :: ps, (k, y) :: qs, cs, cs', vs, hok, h, hc => by
    simp only [partsOK, Bool.and_eq_true] at hok
    obtain ⟨⟨hpl, hxy⟩, hrest⟩ := hok
    cases hk : place k with
    | none => rw [hk] at hpl; cases hpl
    | some os =>
      obtain ⟨o, s⟩ := os
      rw [hk] at hpl
      simp only [Bool.and_eq_true, Nat.beq_eq] at hpl
      obtain ⟨rfl, rfl⟩ : o = off ∧ s = size := ⟨by simpa using hpl.1, by simpa using hpl.2⟩
      simp only [fill] at h
      obtain ⟨h1, h2⟩ := cond_some h
      simp only [Bool.and_eq_true, Nat.beq_eq, Nat.ble_eq] at h1
      have hcv := Conc.cells ((xOK_rel hxy).ev hf)
      have hl1 := hcv.length
      have hl2 := hc.length
      have hsz : (a.eval y).cells.size = s := by rw [← Array.length_toList, hl1]; exact h1.1
      have hvs : vs.size = cs.length := by rw [← Array.length_toList, hl2]
      have hnot : ¬ ((decide ((a.eval y).cells.size ≠ s) || decide (o + (a.eval y).cells.size > vs.size)) = true) := by
        simp [hsz, hvs]; exact h1.2
      have hfold := foldl_fill (a.eval y).cells.toList (cellsOf (f.ev x)) cs vs o 0 hc hcv
      have heq : ((a.eval y).cells.toList.zipIdx 0).foldl (fun (cs : Array Value) (p : Value × Nat) => cs.setIfInBounds (o + p.2) p.1) vs
          = (a.eval y).cells.zipIdx.foldl (fun cs p => cs.setIfInBounds (o + p.2) p.1) vs := by
        rw [← Array.foldl_toList, Array.toList_zipIdx]
      rw [heq] at hfold
      obtain ⟨vs', hv, hcv'⟩ := fill_sound hf place ps qs _ cs' _ hrest h2 hfold
      refine ⟨vs', ?_, hcv'⟩
      simp only [List.map_cons, Instr.fill, hk]
      rw [if_neg hnot]
      exact hv
  | [], _ :: _, _, _, _, hok, _, _ => by simp [partsOK] at hok
  | _ :: _, [], _, _, _, hok, _, _ => by simp [partsOK] at hok

section
variable {P : Program} (w : World) {tab : Tab} (htab : TabOK P tab)
include htab
theorem places_run : ∀ (fs : List Field), fieldsIn tab fs = true → ∃ ps : List (Nat × Nat), (fs.mapM fun (f : Field) => (do pure (f.offset, ← sizeOf f.type) : Sem (Nat × Nat))).run P w = .ok ps w ∧
    ∀ k : Nat, ps[k]? = (match fs[k]? with | some f => (match tab.get f.type with | some i => some (f.offset, i.size) | none => none) | none => none)
  | [], _ => ⟨[], by simp, by simp⟩
  | f :: fs, h => by
    simp only [fieldsIn] at h
    cases ht : tab.get f.type with
    | none => rw [ht] at h; cases h
    | some i =>
      rw [ht] at h
      obtain ⟨ps, hp, hk⟩ := places_run fs h
      refine ⟨(f.offset, i.size) :: ps, ?_, fun k => ?_⟩
      · simp only [List.mapM_cons, Sem.run_bind, (htab _ _ ht).run_sizeOf w, Result.andThen_ok, Sem.run_pure, hp]
      · cases k with
        | zero => simp [ht]
        | succ k => simpa using hk k
theorem build_sound {ρ : Rho} {f : AF} {a : Act} (hf : FRel ρ f a.tmps) {t : TypeId} {i : TI} (ht : tab.get t = some i) {z : List AV} (hz : z = i.zero) {ps : List (Nat × Nat × AX)} {qs : Array (Nat × Operand)}
    (hin : (match i.u with | .struct fs => fieldsIn tab fs.toList | .array _ e => (tab.get e).isSome | _ => false) = true) (hok : partsOK (placeOf tab i.u) ps qs.toList = true) {cs : List AV} (h : fill f z ps = some cs) :
    ∃ x, (Instr.build t (qs.map fun (i, x) => (i, a.eval x))).run P w = .ok x w ∧ Conc ρ (.agg cs) x := by
  have hti := htab _ _ ht
  obtain ⟨inf, zv, hinf, _, _, hz4, hz5, hz6⟩ := hti.run_typeInfo w
  have hzc : ConcL ρ z zv.cells.toList := by subst hz; exact hz6 ρ
  have hparts : (qs.map fun (i, x) => (i, a.eval x)).toList = qs.toList.map fun p => (p.1, a.eval p.2) := by simp
  cases hu : i.u <;> rw [hu] at hin <;> simp only [Bool.false_eq_true] at hin
  · rename_i len e
    cases he : tab.get e with
    | none => rw [he] at hin; simp at hin
    | some j =>
      have hplace : placeOf tab i.u = fun k => some (k * j.size, j.size) := by funext k; simp [placeOf, hu, he]
      rw [hplace] at hok
      obtain ⟨vs', hv, hc⟩ := fill_sound hf _ ps qs.toList z cs zv.cells hok h hzc
      refine ⟨.agg vs', ?_, ⟨vs', rfl, hc⟩⟩
      simp only [Instr.build, zeroValue, Sem.run_bind, hinf, Result.andThen_ok, hz4, Sem.run_pure, hti.run_underlying w, hu, (htab _ _ he).run_sizeOf w, hparts, hv]
  · rename_i fs
    obtain ⟨pl, hpl, hk⟩ := places_run (P := P) w htab fs.toList hin
    have hplace : placeOf tab i.u = fun k : Nat => pl[k]? := by funext k; rw [hk k, hu]; rfl
    rw [hplace] at hok
    obtain ⟨vs', hv, hc⟩ := fill_sound hf _ ps qs.toList z cs zv.cells hok h hzc
    refine ⟨.agg vs', ?_, ⟨vs', rfl, hc⟩⟩
    have hm : (fs.mapM fun (f : Field) => (do pure (f.offset, ← sizeOf f.type) : Sem (Nat × Nat))).run P w = .ok pl.toArray w := by
      rw [Array.mapM_eq_mapM_toList]
      simp only [Sem.run_map, hpl, Result.andThen_ok]
    have hfun : (fun k : Nat => pl.toArray[k]?) = fun k : Nat => pl[k]? := by funext k; simp
    simp only [Instr.build, zeroValue, Sem.run_bind, hinf, Result.andThen_ok, hz4, Sem.run_pure, hti.run_underlying w, hu, hparts]
    rw [hm]
    simp only [Result.andThen_ok, hfun, hv, Sem.run_pure]
theorem getPart_sound {ρ : Rho} {t : TypeId} {i : TI} (ht : tab.get t = some i) {n off : Nat} {agg : Bool} (hn : n = i.size) (ha : aggD i.u = agg) {cs : List AV} {vs : Array Value} (hc : ConcL ρ cs vs.toList) {v : AV}
    (h : getPart agg n cs off = some v) : ∃ x, (part t vs off).run P w = .ok x w ∧ Conc ρ v x := by
  have hti := htab _ _ ht
  cases agg with
  | true =>
    simp only [getPart] at h
    obtain ⟨h1, h2⟩ := cond_some h
    cases h2
    refine ⟨.agg (vs.extract off (off + n)), ?_, ⟨_, rfl, ?_⟩⟩
    · simp only [part, Sem.run_bind, hti.run_isAgg w, Result.andThen_ok, ha, if_true, hti.run_sizeOf w, Sem.run_pure, hn]
    · have : (vs.extract off (off + n)).toList = (vs.toList.drop off).take n := by simp [List.extract_eq_take_drop]
      rw [this]
      exact (hc.drop off).take n
  | false =>
    simp only [getPart] at h
    exact part_leaf (P := P) w hti ha hc h
end

theorem mm_sound {ρ : Rho} {P : Program} (w : World) (mx : Bool) : ∀ (ys : List AV) (x : AV) (ys' : List Value) (x' : Value) (v : AV), mmAll mx x ys = some v → Conc ρ x x' → ConcL ρ ys ys' →
    ∃ y, (ys'.foldlM (if mx then Builtin.max2 else Builtin.min2) x').run P w = .ok y w ∧ Conc ρ v y
  | [], x, [], x', v, h, hx, _ => by simp [mmAll] at h; subst h; exact ⟨x', by simp, hx⟩
  | y :: ys, x, y' :: ys', x', v, h, hx, hy => by
    simp only [mmAll] at h
    cases hm : mm mx x y with
    | none => rw [hm] at h; cases h
    | some z =>
      rw [hm] at h
      have hz : ∃ z', ((if mx then Builtin.max2 else Builtin.min2) x' y').run P w = .ok z' w ∧ Conc ρ z z' := by
        cases x <;> cases y <;> simp only [mm] at hm <;> try (cases hm; done)
        cases hm
        have hx' := Conc.int_ hx; have hy' := Conc.int_ hy.1
        subst hx' hy'
        cases mx
        · simp only [if_false, Bool.false_eq_true]
          exact ⟨_, rfl, by show Value.int _ _ = Value.int _ _; simp [ltI, cond_eq_ite]⟩
        · simp only [if_true]
          exact ⟨_, rfl, by show Value.int _ _ = Value.int _ _; simp [ltI, cond_eq_ite]⟩
      obtain ⟨z', hz1, hz2⟩ := hz
      obtain ⟨r, hr, hc⟩ := mm_sound (P := P) w mx ys z ys' z' v h hz2 hy.2
      exact ⟨r, by simp only [List.foldlM_cons, Sem.run_bind, hz1, Result.andThen_ok, hr], hc⟩
  | [], _, _ :: _, _, _, _, _, hy => hy.elim
  | _ :: _, _, [], _, _, _, _, hy => hy.elim

/-! ### Bounds of slices -/
theorem bound_sound {ρ : Rho} {P : Program} (w : World) {f : AF} {a : Act} (hf : FRel ρ f a.tmps) {x : Option AX} {y : Option Operand} (hxy : xOKO x y = true) {d most m : Nat} (h : bound x f d most = some m) :
    match y with
    | none => m = d
    | some y => ∀ most' code, most ≤ most' → (Instr.sliceBound (a.eval y) most' code).run P w = .ok m w := by
  have hr := xOKO_rel hxy
  cases x with
  | none =>
    cases y with
    | none => simp [bound] at h; exact h.symm
    | some y => exact hr.elim
  | some x =>
    cases y with
    | none => exact hr.elim
    | some y =>
      simp only [bound] at h
      have hc := XRel.ev (show XRel x y from hr) hf
      intro most' code hm
      cases hx : f.ev x with
      | int k n =>
        rw [hx] at h hc
        cases n with
        | ofNat i =>
          simp only at h
          obtain ⟨h1, h2⟩ := cond_some h
          cases h2
          have hi : m ≤ most := by simpa [Nat.ble_eq] using h1
          have hv := Conc.int_ hc
          have hcond : (0 : Int) ≤ Int.ofNat m ∧ Int.ofNat m ≤ (most' : Int) := ⟨Int.natCast_nonneg m, by show (m : Int) ≤ most'; omega⟩
          rw [hv]
          simp only [Instr.sliceBound, asIntOf, Sem.run_bind, Sem.run_pure, Result.andThen_ok]
          rw [if_pos hcond]
          rfl
        | negSucc i => simp at h
      | _ => rw [hx] at h; simp at h
theorem addr_add (b o s n : Nat) : (⟨b, o + s, none⟩ : Addr).add n = ⟨b, o + n + s, none⟩ := by
  unfold Addr.add
  split
  · subst_vars; simp
  · simp; omega

section
variable {P : Program} {tab : Tab} (htab : TabOK P tab) {ρ : Rho} {f : AF} {a : Act} (hf : FRel ρ f a.tmps) (w : World)
include htab hf
theorem slice_sound {o : Oper} {size : Nat} {x : AX} {lo hi mx : Option AX} {v : AV} (hok : opOK tab o (.slice size x lo hi mx) = true) (hp : pureOp (.slice size x lo hi mx) f = some v) :
    ∃ y, (execOp a.eval o).run P w = .ok (.value y) w ∧ Conc ρ v y := by
  cases hop : o.op <;> simp only [opOK, hop, Bool.false_eq_true] at hok
  rename_i t x' lo' hi' mx'
  cases ht : tab.get t with
  | none => rw [ht] at hok; cases hok
  | some i =>
    rw [ht] at hok
    simp only [Bool.and_eq_true] at hok
    obtain ⟨⟨⟨⟨hu, hx⟩, hlo⟩, hhi⟩, hmx⟩ := hok
    have hti := htab _ _ ht
    cases hui : i.u <;> rw [hui] at hu <;> simp only [Bool.false_eq_true] at hu
    rename_i e
    cases he : tab.get e with
    | none => rw [he] at hu; cases hu
    | some j =>
      rw [he] at hu
      have hsz : size = j.size := by simpa [Nat.beq_eq] using hu
      have hte := htab _ _ he
      have hcx := (xOK_rel hx).ev hf
      simp only [pureOp] at hp
      cases hfx : f.ev x with
      | slice base len cap ex =>
        rw [hfx] at hp hcx
        simp only at hp
        cases hbm : bound mx f cap cap with
        | none => rw [hbm] at hp; cases hp
        | some m =>
          rw [hbm] at hp
          simp only at hp
          -- the machine's own capacity
          have hshape : ∃ A c', a.eval x' = .slice A len c' ∧ len ≤ c' ∧ cap ≤ c' ∧ (ex = 0 → c' = cap) ∧ (base = none → A = none ∧ c' = 0 ∧ len = 0 ∧ cap = 0) ∧
              (∀ ai ao, base = some (ai, ao) → ∃ a', A = some a' ∧ ∃ mm, ρ ai = some mm ∧ ∀ b s, mm = some (b, s) → 0 < c' → a' = ⟨b, ao + s.s, none⟩ ∧ (0 < ex → ao + s.s + c' * ex ≤ s.R)) := by
            rcases base with _ | ⟨ai, ao⟩
            · obtain ⟨h1, h2, h3⟩ := hcx
              exact ⟨none, 0, by rw [h1, h2], by omega, by omega, fun _ => h3.symm, fun _ => ⟨rfl, rfl, h2, h3⟩, fun _ _ h => by cases h⟩
            · obtain ⟨mm, hm, a', c', h1, h2, h3, h4, h5⟩ := hcx
              exact ⟨some a', c', h1, h2, h3, h4, (fun h => by cases h), fun ai' ao' h => by cases h; exact ⟨a', rfl, mm, hm, h5⟩⟩
          obtain ⟨A, c', hA, hl, hc1, hc2, hnil, hsome⟩ := hshape
          -- the greatest bound
          have hM : ∃ M, (match mx'.map a.eval with
                | some v => Instr.sliceBound v c' .slice3Acap
                | none => pure c' : Sem Nat).run P w = .ok M w ∧ m ≤ M ∧ (mx = none → M = c' ∧ m = cap) ∧ (mx.isSome = true → M = m ∧ mx'.isSome = true) := by
            have hb := bound_sound (P := P) w hf hmx hbm
            cases mx' with
            | none =>
              have hmx0 : mx = none := by cases mx with | none => rfl | some _ => simp [xOKO] at hmx
              subst hmx0
              simp only at hb
              exact ⟨c', rfl, by omega, fun _ => ⟨rfl, hb⟩, fun h => by cases h⟩
            | some y =>
              have hmx1 : mx.isSome = true := by cases mx with | none => simp [xOKO] at hmx | some _ => rfl
              exact ⟨m, hb c' _ hc1, Nat.le_refl _, fun h => (by rw [h] at hmx1; cases hmx1), fun _ => ⟨rfl, rfl⟩⟩
          obtain ⟨M, hMrun, hmM, hMn, hMs⟩ := hM
          cases hbh : hiBound mx hi f len cap m with
          | none => rw [hbh] at hp; cases hp
          | some hh =>
            rw [hbh] at hp
            simp only at hp
            have hH : (match hi'.map a.eval, mx'.map a.eval with
                | some v, some _ => Instr.sliceBound v M .slice3B
                | some v, none => Instr.sliceBound v M .sliceAcap
                | none, none => pure len
                | none, some _ => stuck "Slice: max without high" : Sem Nat).run P w = .ok hh w ∧ hh ≤ M ∧ (hh ≤ len ∨ hh ≤ m) := by
              cases mx with
              | none =>
                have hmx0 : mx' = none := by cases mx' with | none => rfl | some _ => simp [xOKO] at hmx
                subst hmx0
                simp only [hiBound] at hbh
                obtain ⟨hM1, hm1⟩ := hMn rfl
                have hb := bound_sound (P := P) w hf hhi hbh
                cases hi' with
                | none =>
                  simp only at hb
                  subst hb
                  exact ⟨rfl, by omega, .inl (Nat.le_refl _)⟩
                | some y =>
                  refine ⟨hb M _ (by omega), ?_⟩
                  have : hh ≤ cap := by
                    cases hi with
                    | none => simp [xOKO] at hhi
                    | some z =>
                      simp only [bound] at hbh
                      split at hbh
                      · obtain ⟨h1, h2⟩ := cond_some hbh
                        cases h2; simpa [Nat.ble_eq] using h1
                      · cases hbh
                  exact ⟨by omega, .inr (by omega)⟩
              | some z =>
                obtain ⟨hM1, hmx1⟩ := hMs rfl
                cases mx' with
                | none => cases hmx1
                | some zz =>
                  cases hi with
                  | none => simp [hiBound] at hbh
                  | some hx2 =>
                    simp only [hiBound] at hbh
                    have hb := bound_sound (P := P) w hf hhi hbh
                    cases hi' with
                    | none => simp [xOKO] at hhi
                    | some y =>
                      refine ⟨hb M _ (by omega), ?_⟩
                      have : hh ≤ m := by
                        simp only [bound] at hbh
                        split at hbh
                        · obtain ⟨h1, h2⟩ := cond_some hbh
                          cases h2; simpa [Nat.ble_eq] using h1
                        · cases hbh
                      exact ⟨by omega, .inr this⟩
            obtain ⟨hHrun, hhM, hhl⟩ := hH
            cases hbl : bound lo f 0 hh with
            | none => rw [hbl] at hp; cases hp
            | some l =>
              rw [hbl] at hp
              simp only at hp
              have hL : (match lo'.map a.eval with
                  | some v => Instr.sliceBound v hh (if (mx'.map a.eval).isSome then .slice3C else .sliceB)
                  | none => pure 0 : Sem Nat).run P w = .ok l w ∧ l ≤ hh := by
                have hb := bound_sound (P := P) w hf hlo hbl
                cases lo' with
                | none => simp only at hb; subst hb; exact ⟨rfl, by omega⟩
                | some y =>
                  refine ⟨hb hh _ (Nat.le_refl _), ?_⟩
                  cases lo with
                  | none => simp [xOKO] at hlo
                  | some z =>
                    simp only [bound] at hbl
                    split at hbl
                    · obtain ⟨h1, h2⟩ := cond_some hbl
                      cases h2; simpa [Nat.ble_eq] using h1
                    · cases hbl
              obtain ⟨hLrun, hlh⟩ := hL
              have hrun : (execOp a.eval o).run P w = .ok (.value (.slice (if M = l then A else A.map (·.add (l * size))) (hh - l) (M - l))) w := by
                clear hbh hbm hbl hMn hMs hsome hnil
                cases mx' <;> cases hi' <;> cases lo' <;> simp only [Option.map_some, Option.map_none, Option.isSome_some, Option.isSome_none, Bool.false_eq_true, if_false, if_true, Sem.run_pure, run_stuck, Result.ok.injEq, and_true, reduceCtorEq] at hMrun hHrun hLrun <;> (try subst hMrun) <;> (try subst hHrun) <;> (try subst hLrun) <;>
                  simp only [execOp, hop, Instr.sliceAt, Sem.run_bind, hti.run_underlying w, hui, Result.andThen_ok, hA, Instr.slice, Instr.sliceBounds, if_true, Bool.true_eq_false, Sem.run_pure, hte.run_sizeOf w, hsz, Option.map_some, Option.map_none, Option.isSome_some, Option.isSome_none, Bool.false_eq_true, if_false, *]
              refine ⟨_, hrun, ?_⟩
              rcases base with _ | ⟨ai, ao⟩
              · obtain ⟨hA0, hc0, hl0, hcap0⟩ := hnil rfl
                simp only at hp
                cases hp
                have hM0 : M = 0 := by
                  cases mx with
                  | none => exact (hMn rfl).1.trans hc0
                  | some z =>
                    have := (hMs rfl).1
                    have hm0 : m ≤ cap := by
                      simp only [bound] at hbm
                      split at hbm
                      · obtain ⟨h1, h2⟩ := cond_some hbm
                        cases h2; simpa [Nat.ble_eq] using h1
                      · cases hbm
                    omega
                have hh0 : hh = 0 := by omega
                have hl00 : l = 0 := by omega
                have hm00 : m = 0 := by omega
                subst hA0
                show _ ∧ _ ∧ _
                refine ⟨?_, by omega, by omega⟩
                simp [hM0, hl00, hh0]
              · obtain ⟨a', rfl, mm, hm, hadr⟩ := hsome ai ao rfl
                simp only at hp
                obtain ⟨hexz, hp⟩ := cond_some hp
                cases hp
                have hexz' : ex = 0 ∨ ex = size := by simpa [Nat.beq_eq] using hexz
                refine ⟨mm, hm, (if M = l then a' else a'.add (l * size)), M - l, ?_, by omega, by omega, ?_, ?_⟩
                · split <;> simp_all
                · intro hex
                  cases mx with
                  | none =>
                    simp only [exOf] at hex
                    obtain ⟨h1, h2⟩ := hMn rfl
                    have := hc2 hex
                    omega
                  | some z =>
                    have := (hMs rfl).1
                    omega
                · intro b s hbs hpos
                  have hne : ¬ M = l := by omega
                  have hc'pos : 0 < c' := by
                    cases mx with
                    | none => have := (hMn rfl).1; omega
                    | some z =>
                      have h1 := (hMs rfl).1
                      have hm0 : m ≤ cap := by
                        simp only [bound] at hbm
                        split at hbm
                        · obtain ⟨h1, h2⟩ := cond_some hbm
                          cases h2; simpa [Nat.ble_eq] using h1
                        · cases hbm
                      omega
                  refine ⟨by rw [if_neg hne, (hadr b s hbs hc'pos).1, addr_add], fun he0 => ?_⟩
                  cases mx with
                  | some z => simp [exOf] at he0
                  | none =>
                    simp only [exOf] at he0 ⊢
                    have hMc := (hMn rfl).1
                    have h1 := (hadr b s hbs hc'pos).2 he0
                    rcases hexz' with h0 | h0
                    · omega
                    · subst h0
                      have : l * ex + (M - l) * ex = M * ex := by rw [← Nat.add_mul]; congr 1; omega
                      rw [hMc] at this ⊢
                      simp only [hMc] at *
                      omega
      | _ => rw [hfx] at hp; simp at hp
end
end Go.Proofs.YtjbpcddplaakfaaGreatDoor.Det

/-! Every operation that looks at no memory: what the interpreter computes, the machine computes. -/
namespace Go.Proofs.YtjbpcddplaakfaaGreatDoor.Det
open Go
set_option linter.unusedVariables false
set_option linter.unusedSimpArgs false
set_option linter.unusedSectionVars false

section
variable {P : Program} {tab : Tab} (htab : TabOK P tab) {ρ : Rho} {f : AF} {a : Act} (hf : FRel ρ f a.tmps) (w : World) {o : Oper}
include htab hf
theorem tab_some {t : TypeId} {β : TI → Bool} (h : (match tab.get t with | some i => β i | none => false) = true) : ∃ i, tab.get t = some i ∧ TIOk P t i ∧ β i = true := by
  cases ht : tab.get t with
  | none => rw [ht] at h; cases h
  | some i => rw [ht] at h; exact ⟨i, rfl, htab _ _ ht, h⟩
theorem pure_mv {x : AX} {v : AV} (hok : opOK tab o (.mv x) = true) (hp : pureOp (.mv x) f = some v) : ∃ y, (execOp a.eval o).run P w = .ok (.value y) w ∧ Conc ρ v y := by
  simp only [pureOp] at hp
  cases hp
  simp only [opOK] at hok
  split at hok
  · rename_i y hop; exact ⟨a.eval y, by simp only [execOp, hop, Sem.run_pure], (xOK_rel hok).ev hf⟩
  · rename_i y hop; exact ⟨a.eval y, by simp only [execOp, hop, Sem.run_pure], (xOK_rel hok).ev hf⟩
  · cases hok
theorem pure_pick {c x y : AX} {v : AV} (hok : opOK tab o (.pick c x y) = true) (hp : pureOp (.pick c x y) f = some v) : ∃ y, (execOp a.eval o).run P w = .ok (.value y) w ∧ Conc ρ v y := by
  simp only [opOK] at hok
  split at hok
  · rename_i c' x' y' hop
    simp only [Bool.and_eq_true] at hok
    have hc := (xOK_rel hok.1.1).ev hf
    have hx := (xOK_rel hok.1.2).ev hf
    have hy := (xOK_rel hok.2).ev hf
    simp only [pureOp] at hp
    cases hfc : f.ev c with
    | bool b =>
      rw [hfc] at hp hc
      have hcv := Conc.bool_ hc
      cases b <;> cases hp
      · exact ⟨_, by simp only [execOp, hop, hcv, asBool, Sem.run_bind, Sem.run_pure, Result.andThen_ok]; rfl, hy⟩
      · exact ⟨_, by simp only [execOp, hop, hcv, asBool, Sem.run_bind, Sem.run_pure, Result.andThen_ok]; rfl, hx⟩
    | _ => rw [hfc] at hp; cases hp
  · cases hok
theorem pure_build {z : List AV} {ps : List (Nat × Nat × AX)} {v : AV} (hok : opOK tab o (.build z ps) = true) (hp : pureOp (.build z ps) f = some v) : ∃ y, (execOp a.eval o).run P w = .ok (.value y) w ∧ Conc ρ v y := by
  simp only [opOK] at hok
  split at hok
  · rename_i t qs hop
    cases ht : tab.get t with
    | none => rw [ht] at hok; cases hok
    | some i =>
      rw [ht] at hok
      simp only [Bool.and_eq_true] at hok
      simp only [pureOp] at hp
      cases hfl : fill f z ps with
      | none => rw [hfl] at hp; cases hp
      | some cs =>
        rw [hfl] at hp; cases hp
        obtain ⟨x, hx, hc⟩ := build_sound (P := P) w htab hf ht (AV.sameL_eq _ _ hok.1.1) hok.1.2 hok.2 hfl
        exact ⟨x, by simp only [execOp, hop, Sem.run_bind, hx, Result.andThen_ok, Sem.run_pure], hc⟩
  · cases hok
theorem pure_bin {op : BinOp} {x y : AX} {v : AV} (hok : opOK tab o (.bin op x y) = true) (hp : pureOp (.bin op x y) f = some v) : ∃ y, (execOp a.eval o).run P w = .ok (.value y) w ∧ Conc ρ v y := by
  simp only [opOK] at hok
  split at hok
  · rename_i op' t x' y' yt hop
    simp only [Bool.and_eq_true] at hok
    have hopeq := BinOp.same_eq hok.1.1
    subst hopeq
    have hx := (xOK_rel hok.1.2).ev hf
    have hy := (xOK_rel hok.2).ev hf
    simp only [pureOp] at hp
    split at hp
    · rename_i k m k' n hfx hfy
      rw [hfx] at hx; rw [hfy] at hy
      have hx' := Conc.int_ hx; have hy' := Conc.int_ hy
      cases hsh : isShift op with
      | true =>
        rw [hsh, cond_true] at hp
        obtain ⟨r, hr, hc⟩ := shiftInt_sound (P := P) (k' := k') w hp t
        exact ⟨r, by simp only [execOp, hop, hx', hy', Sem.run_bind, eqGuard_ok (P := P) w op t x' y' (.int k m) (.int k' n) (fun _ h => by cases h) (fun h => by cases h), hr, Result.andThen_ok, Sem.run_pure], hc ρ⟩
      | false =>
      rw [hsh, cond_false] at hp
      obtain ⟨h1, h2⟩ := cond_some hp
      have := IntKind.same_eq h1
      subst this
      obtain ⟨r, hr, hc⟩ := binInt_sound (P := P) w h2 t
      exact ⟨r, by simp only [execOp, hop, hx', hy', Sem.run_bind, eqGuard_ok (P := P) w op t x' y' (.int k m) (.int k n) (fun _ h => by cases h) (fun h => by cases h), hr, Result.andThen_ok, Sem.run_pure], hc ρ⟩
    · rename_i s s' hfx hfy
      rw [hfx] at hx; rw [hfy] at hy
      have hx' := Conc.str_ hx; have hy' := Conc.str_ hy
      obtain ⟨r, hr, hc⟩ := binStr_sound (P := P) w hp t
      exact ⟨r, by simp only [execOp, hop, hx', hy', Sem.run_bind, eqGuard_ok (P := P) w op t x' y' (.string ⟨s.toArray⟩) (.string ⟨s'.toArray⟩) (fun _ h => by cases h) (fun h => by cases h), hr, Result.andThen_ok, Sem.run_pure], hc ρ⟩
    · cases hp
  · cases hok
theorem eqOp_nonscalar {e : EK} {x y : AV} {r : Bool} (h : eqOp e x y = some r) {x' y' : Value} (hx : Conc ρ x x') (hy : Conc ρ y y') (t : TypeId) :
    binOp .eql t x' y' = (do pure (.bool (← Op.equal t x' y'))) ∧ binOp .neq t x' y' = (do pure (.bool (!(← Op.equal t x' y')))) := by
  cases e with
  | bool => cases x <;> cases y <;> simp only [eqOp] at h <;> try (cases h; done)
            have hx' := Conc.bool_ hx; have hy' := Conc.bool_ hy
            subst hx' hy'; exact ⟨rfl, rfl⟩
  | sliceNil =>
    cases x with
    | slice p _ _ _ => cases p with
      | none => obtain ⟨rfl, _⟩ := hx; exact ⟨rfl, rfl⟩
      | some p => obtain ⟨m, _, q, c, rfl, _⟩ := hx; exact ⟨rfl, rfl⟩
    | _ => simp [eqOp] at h
  | funcNil =>
    cases x <;> cases y <;> simp only [eqOp] at h <;> try (cases h; done)
    · obtain ⟨x1, x2, rfl, _⟩ := hx; exact ⟨rfl, rfl⟩
    · have hx' : x' = .nilFunc := hx; subst hx'; exact ⟨rfl, rfl⟩
    · have hx' : x' = .nilFunc := hx; subst hx'; exact ⟨rfl, rfl⟩
  | ifaceNil =>
    cases x <;> cases y <;> simp only [eqOp] at h <;> try (cases h; done)
    · obtain ⟨x1, rfl, _⟩ := hx; exact ⟨rfl, rfl⟩
    · have hx' : x' = .nilIface := hx; subst hx'; exact ⟨rfl, rfl⟩
  | ifaceC =>
    cases x <;> cases y <;> simp only [eqOp] at h <;> try (cases h; done)
    · obtain ⟨x1, rfl, _⟩ := hx; exact ⟨rfl, rfl⟩
    · have hx' : x' = .nilIface := hx; subst hx'; exact ⟨rfl, rfl⟩
    · have hx' : x' = .nilIface := hx; subst hx'; exact ⟨rfl, rfl⟩
  | ptr =>
    cases x with
    | ptr p =>
      cases y with
      | ptr q =>
        have hpx : ∃ a', x' = .pointer a' := by
          rcases p with _ | ⟨ai, ao⟩
          · exact ⟨none, hx⟩
          · obtain ⟨m, _, a', h1, _⟩ := hx; exact ⟨some a', h1⟩
        have hpy : ∃ a', y' = .pointer a' := by
          rcases q with _ | ⟨ai, ao⟩
          · exact ⟨none, hy⟩
          · obtain ⟨m, _, a', h1, _⟩ := hy; exact ⟨some a', h1⟩
        obtain ⟨xa, rfl⟩ := hpx
        obtain ⟨ya, rfl⟩ := hpy
        exact ⟨rfl, rfl⟩
      | _ => rcases p with _ | p <;> simp [eqOp] at h
    | _ => simp [eqOp] at h
  | leaves ks =>
    cases x with
    | agg xs => obtain ⟨x1, rfl, _⟩ := hx; exact ⟨rfl, rfl⟩
    | _ => simp [eqOp] at h
theorem pure_eqv {neg : Bool} {e : EK} {x y : AX} {v : AV} (hok : opOK tab o (.eqv neg e x y) = true) (hp : pureOp (.eqv neg e x y) f = some v) : ∃ y, (execOp a.eval o).run P w = .ok (.value y) w ∧ Conc ρ v y := by
  simp only [opOK] at hok
  split at hok
  · rename_i op t x' y' yt hop
    cases ht : tab.get t with
    | none => rw [ht] at hok; cases hok
    | some i =>
      rw [ht] at hok
      simp only [Bool.and_eq_true] at hok
      obtain ⟨hok, hcn⟩ := hok
      have hx := (xOK_rel hok.1.2).ev hf
      have hy := (xOK_rel hok.2).ev hf
      simp only [pureOp] at hp
      cases he : eqOp e (f.ev x) (f.ev y) with
      | none => rw [he] at hp; cases hp
      | some r =>
        rw [he] at hp; cases hp
        obtain ⟨h1, h2⟩ := eqOp_sound (P := P) w htab ht hok.1.1.2 he hx hy op x' y' hcn
        obtain ⟨h3, h4⟩ := eqOp_nonscalar htab hf he hx hy t
        have hop' := hok.1.1.1
        cases op <;> simp only [Bool.false_eq_true] at hop'
        · have : neg = false := by simpa using hop'
          subst this
          exact ⟨.bool r, by simp only [execOp, hop, Sem.run_bind, h1, h3, h2, Result.andThen_ok, Sem.run_pure], rfl⟩
        · have : neg = true := by simpa using hop'
          subst this
          exact ⟨.bool (!r), by simp only [execOp, hop, Sem.run_bind, h1, h4, h2, Result.andThen_ok, Sem.run_pure], rfl⟩
  · cases hok
theorem pure_un {op : UnOp} {x : AX} {v : AV} (hok : opOK tab o (.un op x) = true) (hp : pureOp (.un op x) f = some v) : ∃ y, (execOp a.eval o).run P w = .ok (.value y) w ∧ Conc ρ v y := by
  simp only [opOK] at hok
  split at hok
  · rename_i op' t x' hop
    simp only [Bool.and_eq_true] at hok
    have hopeq := UnOp.same_eq hok.1
    subst hopeq
    have hx := (xOK_rel hok.2).ev hf
    cases op <;> simp only [pureOp] at hp
    · cases hfx : f.ev x with
      | int k n =>
        rw [hfx] at hp hx; cases hp
        have hx' := Conc.int_ hx
        exact ⟨.int k (k.wrap (0 - n)), by simp only [execOp, hop, hx', Op.unary, Op.intArith, Sem.run_bind, Result.andThen_ok, Sem.run_pure], rfl⟩
      | _ => rw [hfx] at hp; cases hp
    · cases hp
    · cases hfx : f.ev x with
      | bool b =>
        rw [hfx] at hp hx; cases hp
        have hx' := Conc.bool_ hx
        exact ⟨.bool (!b), by simp only [execOp, hop, hx', Op.unary, Sem.run_bind, Result.andThen_ok, Sem.run_pure], rfl⟩
      | _ => rw [hfx] at hp; cases hp
    · cases hp
  · cases hok
theorem pure_conv {k : CK} {x : AX} {v : AV} (hok : opOK tab o (.conv k x) = true) (hp : pureOp (.conv k x) f = some v) : ∃ y, (execOp a.eval o).run P w = .ok (.value y) w ∧ Conc ρ v y := by
  simp only [opOK] at hok
  split at hok
  · rename_i s d x' hop
    cases hs : tab.get s with
    | none => rw [hs] at hok; cases hok
    | some i =>
      cases hd : tab.get d with
      | none => rw [hs, hd] at hok; cases hok
      | some j =>
        rw [hs, hd] at hok
        simp only [Bool.and_eq_true] at hok
        have hx := (xOK_rel hok.1).ev hf
        have his := htab _ _ hs; have hid := htab _ _ hd
        cases k with
        | int k =>
          simp only [pureOp] at hp
          cases hfx : f.ev x with
          | int k0 n =>
            rw [hfx] at hp hx; cases hp
            have hx' := Conc.int_ hx
            have hk := hok.2
            cases hu : i.u <;> rw [hu] at hk <;> (try (simp only [Bool.false_eq_true] at hk; done)) <;>
            cases hj : j.u <;> rw [hj] at hk <;> (try (simp only [Bool.false_eq_true] at hk; done))
            have := IntKind.same_eq hk
            subst this
            exact ⟨.int k (k.wrap n), by simp only [execOp, hop, hx', convert, Sem.run_bind, his.run_underlying w, hid.run_underlying w, hu, hj, Conv.intToInt, Result.andThen_ok, Sem.run_pure], rfl⟩
          | _ => rw [hfx] at hp; cases hp
        | str =>
          simp only [pureOp] at hp
          cases hfx : f.ev x with
          | str l =>
            rw [hfx] at hp hx; cases hp
            have hx' := Conc.str_ hx
            have hk := hok.2
            cases hu : i.u <;> rw [hu] at hk <;> (try (simp only [Bool.false_eq_true] at hk; done)) <;>
            cases hj : j.u <;> rw [hj] at hk <;> (try (simp only [Bool.false_eq_true] at hk; done))
            exact ⟨.string ⟨l.toArray⟩, by simp only [execOp, hop, hx', convert, Sem.run_bind, his.run_underlying w, hid.run_underlying w, hu, hj, Result.andThen_ok, Sem.run_pure], rfl⟩
          | _ => rw [hfx] at hp; cases hp
        | bytes => simp [pureOp] at hp
        | toBytes => simp [pureOp] at hp
        | toU => simp [pureOp] at hp
        | ofU u sz => simp [pureOp] at hp
  · cases hok
theorem pure_iface {t : Nat} {x : AX} {v : AV} (hok : opOK tab o (.iface t x) = true) (hp : pureOp (.iface t x) f = some v) : ∃ y, (execOp a.eval o).run P w = .ok (.value y) w ∧ Conc ρ v y := by
  simp only [opOK] at hok
  split at hok
  · rename_i t' x' hop
    simp only [Bool.and_eq_true] at hok
    have ht : t = t' := by simpa [Nat.beq_eq] using hok.1.1
    subst ht
    have hx := (xOK_rel hok.1.2).ev hf
    obtain ⟨i, _, hi, hu⟩ := tab_some htab hf hok.2
    simp only [pureOp] at hp; cases hp
    refine ⟨.iface t (a.eval x'), ?_, ⟨_, rfl, hx⟩⟩
    cases hiu : i.u <;> rw [hiu] at hu <;> simp only [Bool.false_eq_true] at hu <;>
      simp only [execOp, hop, Instr.makeInterface, Sem.run_bind, hi.run_underlying w, hiu, Result.andThen_ok, Sem.run_pure]
  · cases hok
theorem pure_mkfun {g : Nat} {xs ys : List AX} {v : AV} (hok : opOK tab o (.mkfun g xs ys) = true) (hp : pureOp (.mkfun g xs ys) f = some v) : ∃ y, (execOp a.eval o).run P w = .ok (.value y) w ∧ Conc ρ v y := by
  simp only [opOK] at hok
  split at hok
  · rename_i g' xs' ys' hop
    simp only [Bool.and_eq_true] at hok
    have hg : g = g' := by simpa [Nat.beq_eq] using hok.1.1
    subst hg
    simp only [pureOp] at hp; cases hp
    refine ⟨.func (.func g) (xs'.map a.eval) (ys'.map a.eval), by simp only [execOp, hop, Instr.makeFunc, Sem.run_bind, Result.andThen_ok, Sem.run_pure], ⟨_, _, rfl, ?_, ?_⟩⟩
    · simpa using XRelL.evs hf (xOKL_rel hok.1.2)
    · simpa using XRelL.evs hf (xOKL_rel hok.2)
  · cases hok
theorem pure_sliceS {x : AX} {lo hi : Option AX} {v : AV} (hok : opOK tab o (.sliceS x lo hi) = true) (hp : pureOp (.sliceS x lo hi) f = some v) : ∃ y, (execOp a.eval o).run P w = .ok (.value y) w ∧ Conc ρ v y := by
  simp only [opOK] at hok
  split at hok
  · rename_i t x' lo' hi' hop
    cases ht : tab.get t with
    | none => rw [ht] at hok; cases hok
    | some i =>
      rw [ht] at hok
      simp only [Bool.and_eq_true] at hok
      obtain ⟨⟨⟨hu, hxo⟩, hlo⟩, hhi⟩ := hok
      have hx := (xOK_rel hxo).ev hf
      have hti := htab _ _ ht
      cases hui : i.u <;> rw [hui] at hu <;> simp only [Bool.false_eq_true] at hu
      simp only [pureOp] at hp
      cases hfx : f.ev x with
      | str s =>
        rw [hfx] at hp hx
        simp only at hp
        have hx' := Conc.str_ hx
        cases hbh : bound hi f s.length s.length with
        | none => rw [hbh] at hp; cases hp
        | some h =>
          rw [hbh] at hp; simp only at hp
          cases hbl : bound lo f 0 h with
          | none => rw [hbl] at hp; cases hp
          | some l =>
            rw [hbl] at hp; cases hp
            have h1 := bound_sound (P := P) w hf hhi hbh
            have h2 := bound_sound (P := P) w hf hlo hbl
            refine ⟨.string ((ByteArray.mk s.toArray).extract l h), ?_, by show _ = _; rw [byteArray_extract]⟩
            cases hi' <;> cases lo' <;> simp only at h1 h2
            · subst h1 h2
              simp only [execOp, hop, Instr.sliceAt, Sem.run_bind, hti.run_underlying w, hui, hx', Result.andThen_ok, Instr.slice, Instr.sliceBounds, Option.map_none, Option.isSome_none, Bool.false_eq_true, if_false, Sem.run_pure, byteArray_size]
            · subst h1
              simp only [execOp, hop, Instr.sliceAt, Sem.run_bind, hti.run_underlying w, hui, hx', Result.andThen_ok, Instr.slice, Instr.sliceBounds, Option.map_none, Option.map_some, Option.isSome_none, Bool.false_eq_true, if_false, Sem.run_pure, byteArray_size, h2 _ _ (Nat.le_refl _)]
            · subst h2
              simp only [execOp, hop, Instr.sliceAt, Sem.run_bind, hti.run_underlying w, hui, hx', Result.andThen_ok, Instr.slice, Instr.sliceBounds, Option.map_none, Option.map_some, Option.isSome_none, Bool.false_eq_true, if_false, Sem.run_pure, byteArray_size, h1 _ _ (Nat.le_refl _)]
            · simp only [execOp, hop, Instr.sliceAt, Sem.run_bind, hti.run_underlying w, hui, hx', Result.andThen_ok, Instr.slice, Instr.sliceBounds, Option.map_none, Option.map_some, Option.isSome_none, Bool.false_eq_true, if_false, Sem.run_pure, byteArray_size, h1 _ _ (Nat.le_refl _), h2 _ _ (Nat.le_refl _)]
      | _ => rw [hfx] at hp; cases hp
  · cases hok
theorem pure_fld {off n : Nat} {agg : Bool} {x : AX} {v : AV} (hok : opOK tab o (.fld off n agg x) = true) (hp : pureOp (.fld off n agg x) f = some v) : ∃ y, (execOp a.eval o).run P w = .ok (.value y) w ∧ Conc ρ v y := by
  simp only [opOK] at hok
  split at hok
  · rename_i t x' k hop
    obtain ⟨i, _, hi, hu⟩ := tab_some htab hf hok
    cases hiu : i.u <;> rw [hiu] at hu <;> simp only [Bool.false_eq_true] at hu
    rename_i fs
    cases hk : fs.toList[k]? with
    | none => rw [hk] at hu; cases hu
    | some fd =>
      rw [hk] at hu
      simp only at hu
      cases htf : tab.get fd.type with
      | none => rw [htf] at hu; cases hu
      | some j =>
        rw [htf] at hu
        simp only [Bool.and_eq_true, Nat.beq_eq] at hu
        obtain ⟨⟨⟨h1, h2⟩, h3⟩, hxo⟩ := hu
        have hx := (xOK_rel hxo).ev hf
        simp only [pureOp] at hp
        cases hfx : f.ev x with
        | agg cs =>
          rw [hfx] at hp hx
          simp only at hp
          obtain ⟨vs, hvs, hcs⟩ := hx
          have h1' : fd.offset = off := by simpa using h1
          subst h1'
          obtain ⟨y, hy, hc⟩ := getPart_sound (P := P) w htab htf (by simpa using h2.symm) (by simpa using h3) hcs hp
          have hk' : fs[k]? = some fd := by simpa using hk
          exact ⟨y, by simp only [execOp, hop, Instr.field, Sem.run_bind, hi.run_underlying w, hiu, Result.andThen_ok, hk', hvs, asAgg, Sem.run_pure, hy], hc⟩
        | _ => rw [hfx] at hp; cases hp
  · cases hok
theorem pure_faddr {off : Nat} {x : AX} {v : AV} (hok : opOK tab o (.faddr off x) = true) (hp : pureOp (.faddr off x) f = some v) : ∃ y, (execOp a.eval o).run P w = .ok (.value y) w ∧ Conc ρ v y := by
  simp only [opOK] at hok
  split at hok
  · rename_i t x' k hop
    obtain ⟨i, _, hi, hu⟩ := tab_some htab hf hok
    cases hiu : i.u <;> rw [hiu] at hu <;> simp only [Bool.false_eq_true] at hu
    rename_i fs
    cases hk : fs.toList[k]? with
    | none => rw [hk] at hu; cases hu
    | some fd =>
      rw [hk] at hu
      simp only at hu
      cases htf : tab.get fd.type with
      | none => rw [htf] at hu; cases hu
      | some j =>
        rw [htf] at hu
        simp only [Bool.and_eq_true, Nat.beq_eq] at hu
        obtain ⟨⟨h1, h2⟩, hxo⟩ := hu
        have hx := (xOK_rel hxo).ev hf
        have htj := htab _ _ htf
        have hne : ¬ j.size = 0 := by have : 0 < j.size := by simpa [Nat.blt_eq] using h2
                                      omega
        simp only [pureOp] at hp
        cases hfx : f.ev x with
        | ptr p =>
          rw [hfx] at hp hx
          rcases p with _ | ⟨pi, po⟩
          · cases hp
          · cases hp
            obtain ⟨m, hm, ad, hv, ha⟩ := hx
            have h1' : fd.offset = off := by simpa using h1
            have hk' : fs[k]? = some fd := by simpa using hk
            refine ⟨.pointer (some (ad.add off)), ?_, ⟨m, hm, _, rfl, fun b s hb => by rw [ha b s hb, addr_add]⟩⟩
            simp only [execOp, hop, Instr.fieldAt, Sem.run_bind, hi.run_underlying w, hiu, Result.andThen_ok, hk', hv, Instr.sureAddr, Sem.run_pure, fieldPlace, htj.run_sizeOf w, hne, if_false, h1']
        | _ => rw [hfx] at hp; cases hp
  · cases hok
theorem index_int {x : AX} {y : Operand} (h : xOK x y = true) {i : Nat} (hn : natOf (f.ev x) = some i) : ∃ k, a.eval y = .int k (i : Int) :=
  Conc.nat_ hn ((xOK_rel h).ev hf)
theorem pure_iaddr {size : Nat} {x y : AX} {v : AV} (hok : opOK tab o (.iaddr size x y) = true) (hp : pureOp (.iaddr size x y) f = some v) : ∃ y, (execOp a.eval o).run P w = .ok (.value y) w ∧ Conc ρ v y := by
  simp only [opOK] at hok
  split at hok
  · rename_i t x' y' hop
    obtain ⟨i, _, hi, hu⟩ := tab_some htab hf hok
    simp only [Bool.and_eq_true] at hu
    obtain ⟨⟨hu, hxo⟩, hyo⟩ := hu
    cases hiu : i.u <;> rw [hiu] at hu <;> simp only [Bool.false_eq_true] at hu
    rename_i e
    cases he : tab.get e with
    | none => rw [he] at hu; cases hu
    | some j =>
      rw [he] at hu
      have hsz : size = j.size := by simpa [Nat.beq_eq] using hu
      have hx := (xOK_rel hxo).ev hf
      have htj := htab _ _ he
      simp only [pureOp] at hp
      split at hp
      · rename_i p len cap ex idx hfx hn
        obtain ⟨h1, h2⟩ := cond_some hp
        cases h2
        obtain ⟨k, hyv⟩ := index_int htab hf hyo hn
        rw [hfx] at hx
        obtain ⟨pi, po⟩ := p
        obtain ⟨m, hm, ad, c', hv, hl, _, _, ha⟩ := hx
        have hlt : idx < len := by simpa [Nat.blt_eq] using h1
        have hcond : (0 : Int) ≤ (idx : Int) ∧ (idx : Int) < (len : Int) := by omega
        refine ⟨.pointer (some (ad.add (idx * size))), ?_, ⟨m, hm, _, rfl, fun b s hb => by rw [(ha b s hb (by omega)).1, addr_add]⟩⟩
        simp only [execOp, hop, Instr.indexAt, Sem.run_bind, hyv, asIntOf, Sem.run_pure, Result.andThen_ok, hi.run_underlying w, hiu, hv]
        rw [if_pos hcond]
        simp only [Sem.run_bind, htj.run_sizeOf w, Result.andThen_ok, Sem.run_pure, Int.toNat_natCast, hsz]
      · cases hp
  · cases hok
theorem pure_iaddrA {len size : Nat} {x y : AX} {v : AV} (hok : opOK tab o (.iaddrA len size x y) = true) (hp : pureOp (.iaddrA len size x y) f = some v) : ∃ y, (execOp a.eval o).run P w = .ok (.value y) w ∧ Conc ρ v y := by
  simp only [opOK] at hok
  split at hok
  · rename_i t x' y' hop
    obtain ⟨i, _, hi, hu⟩ := tab_some htab hf hok
    simp only [Bool.and_eq_true] at hu
    obtain ⟨⟨hu, hxo⟩, hyo⟩ := hu
    cases hiu : i.u <;> rw [hiu] at hu <;> simp only [Bool.false_eq_true] at hu
    rename_i n e
    simp only [Bool.and_eq_true] at hu
    obtain ⟨hn0, hu⟩ := hu
    have hn : n = len := by simpa [Nat.beq_eq] using hn0
    subst hn
    cases he : tab.get e with
    | none => rw [he] at hu; cases hu
    | some j =>
      rw [he] at hu
      have hsz : size = j.size := by simpa [Nat.beq_eq] using hu
      have hx := (xOK_rel hxo).ev hf
      have htj := htab _ _ he
      simp only [pureOp] at hp
      split at hp
      · rename_i p idx hfx hn
        obtain ⟨h1, h2⟩ := cond_some hp
        cases h2
        obtain ⟨k, hyv⟩ := index_int htab hf hyo hn
        rw [hfx] at hx
        obtain ⟨pi, po⟩ := p
        obtain ⟨m, hm, ad, hv, ha⟩ := hx
        have hlt : idx < n := by simpa [Nat.blt_eq] using h1
        have hcond : (0 : Int) ≤ (idx : Int) ∧ (idx : Int) < (n : Int) := by omega
        refine ⟨.pointer (some (ad.add (idx * size))), ?_, ⟨m, hm, _, rfl, fun b s hb => by rw [ha b s hb, addr_add]⟩⟩
        simp only [execOp, hop, Instr.indexAt, Instr.sureAddr, Sem.run_bind, hyv, asIntOf, Sem.run_pure, Result.andThen_ok, hi.run_underlying w, hiu, hv]
        rw [if_pos hcond]
        simp only [Sem.run_bind, htj.run_sizeOf w, Result.andThen_ok, Sem.run_pure, Int.toNat_natCast, hsz]
      · cases hp
  · cases hok
theorem pure_idxS {x y : AX} {v : AV} (hok : opOK tab o (.idxS x y) = true) (hp : pureOp (.idxS x y) f = some v) : ∃ y, (execOp a.eval o).run P w = .ok (.value y) w ∧ Conc ρ v y := by
  simp only [opOK] at hok
  split at hok
  · rename_i t x' y' hop
    obtain ⟨i, _, hi, hu⟩ := tab_some htab hf hok
    simp only [Bool.and_eq_true] at hu
    obtain ⟨⟨hu, hxo⟩, hyo⟩ := hu
    cases hiu : i.u <;> rw [hiu] at hu <;> simp only [Bool.false_eq_true] at hu
    have hx := (xOK_rel hxo).ev hf
    simp only [pureOp] at hp
    split at hp
    · rename_i s idx hfx hn
      obtain ⟨k, hyv⟩ := index_int htab hf hyo hn
      rw [hfx] at hx
      have hv := Conc.str_ hx
      cases hs : s[idx]? with
      | none => rw [hs] at hp; cases hp
      | some b =>
        rw [hs] at hp; cases hp
        have hcond : (0 : Int) ≤ (idx : Int) := by omega
        have hb : (ByteArray.mk s.toArray)[idx]? = some b := by
          have hl : idx < s.length := (List.getElem?_eq_some_iff.1 hs).1
          rw [getElem?_pos _ _ (by simpa [byteArray_size] using hl)]
          simp only [ByteArray.getElem_eq_getElem_data]
          have := (List.getElem?_eq_some_iff.1 hs).2
          simp [this]
        refine ⟨.int .u8 b.toNat, ?_, rfl⟩
        simp only [execOp, hop, Instr.index, Sem.run_bind, hyv, asIntOf, Sem.run_pure, Result.andThen_ok, hi.run_underlying w, hiu, hv, hcond, if_true, Int.toNat_natCast, hb]
    · cases hp
  · cases hok
theorem pure_idxA {len size : Nat} {agg : Bool} {x y : AX} {v : AV} (hok : opOK tab o (.idxA len size agg x y) = true) (hp : pureOp (.idxA len size agg x y) f = some v) : ∃ y, (execOp a.eval o).run P w = .ok (.value y) w ∧ Conc ρ v y := by
  simp only [opOK] at hok
  split at hok
  · rename_i t x' y' hop
    obtain ⟨i, _, hi, hu⟩ := tab_some htab hf hok
    simp only [Bool.and_eq_true] at hu
    obtain ⟨⟨hu, hxo⟩, hyo⟩ := hu
    cases hiu : i.u <;> rw [hiu] at hu <;> simp only [Bool.false_eq_true] at hu
    rename_i n e
    simp only [Bool.and_eq_true] at hu
    obtain ⟨hn0, hu⟩ := hu
    have hn : n = len := by simpa [Nat.beq_eq] using hn0
    subst hn
    cases he : tab.get e with
    | none => rw [he] at hu; cases hu
    | some j =>
      rw [he] at hu
      simp only [Bool.and_eq_true, Nat.beq_eq] at hu
      have hsz : size = j.size := by simpa using hu.1
      have hx := (xOK_rel hxo).ev hf
      have htj := htab _ _ he
      simp only [pureOp] at hp
      split at hp
      · rename_i cs idx hfx hn
        obtain ⟨h1, h2⟩ := cond_some hp
        obtain ⟨k, hyv⟩ := index_int htab hf hyo hn
        rw [hfx] at hx
        obtain ⟨vs, hv, hcs⟩ := hx
        have hlt : idx < n := by simpa [Nat.blt_eq] using h1
        have hcond : (0 : Int) ≤ (idx : Int) ∧ (idx : Int) < (n : Int) := by omega
        obtain ⟨y, hy, hc⟩ := getPart_sound (P := P) w htab he hsz (by simpa using hu.2) hcs h2
        refine ⟨y, ?_, hc⟩
        rw [hsz] at hy
        simp only [execOp, hop, Instr.index, Sem.run_bind, hyv, asIntOf, Sem.run_pure, Result.andThen_ok, hi.run_underlying w, hiu, hv]
        rw [if_pos hcond]
        simp only [Sem.run_bind, htj.run_sizeOf w, Result.andThen_ok, Sem.run_pure, Int.toNat_natCast, hy]
      · cases hp
  · cases hok
theorem pure_ext {x : AX} {i : Nat} {v : AV} (hok : opOK tab o (.ext x i) = true) (hp : pureOp (.ext x i) f = some v) : ∃ y, (execOp a.eval o).run P w = .ok (.value y) w ∧ Conc ρ v y := by
  simp only [opOK] at hok
  split at hok
  · rename_i y j hop
    simp only [Bool.and_eq_true] at hok
    have hij : i = j := by simpa [Nat.beq_eq] using hok.1
    subst hij
    have hx := (xOK_rel hok.2).ev hf
    simp only [pureOp] at hp
    cases hfx : f.ev x with
    | tuple cs =>
      rw [hfx] at hp hx
      obtain ⟨vs, hv, hcs⟩ := hx
      obtain ⟨z, hz, hc⟩ := hcs.get i v hp
      have hz' : vs[i]? = some z := by simpa using hz
      exact ⟨z, by simp only [execOp, hop, Instr.extract, hv, hz', Sem.run_bind, Sem.run_pure, Result.andThen_ok], hc⟩
    | _ => rw [hfx] at hp; cases hp
  · cases hok
theorem pure_nilc {x : AX} {v : AV} (hok : opOK tab o (.nilc x) = true) (hp : pureOp (.nilc x) f = some v) : ∃ y, (execOp a.eval o).run P w = .ok (.value y) w ∧ Conc ρ v y := by
  simp only [opOK] at hok
  split at hok
  · rename_i y hop
    have hx := (xOK_rel hok).ev hf
    simp only [pureOp] at hp
    cases hfx : f.ev x with
    | ptr p =>
      rw [hfx] at hp hx
      rcases p with _ | ⟨pi, po⟩
      · cases hp
      · cases hp
        have hx0 := hx
        obtain ⟨m, hm, ad, hv, _⟩ := hx
        exact ⟨a.eval y, by simp only [execOp, hop, hv, Sem.run_pure], hx0⟩
    | func g b c =>
      rw [hfx] at hp hx; cases hp
      have hx0 := hx
      obtain ⟨b', c', hv, _⟩ := hx
      exact ⟨a.eval y, by simp only [execOp, hop, hv, Sem.run_pure], hx0⟩
    | yield l =>
      rw [hfx] at hp hx; cases hp
      have hx0 := hx
      obtain ⟨m, hm, l', hv, _⟩ := hx
      exact ⟨a.eval y, by simp only [execOp, hop, hv, Sem.run_pure], hx0⟩
    | _ => rw [hfx] at hp; cases hp
  · cases hok
theorem pure_len {k : LK} {x : AX} {v : AV} (hok : opOK tab o (.len k x) = true) (hp : pureOp (.len k x) f = some v) : ∃ y, (execOp a.eval o).run P w = .ok (.value y) w ∧ Conc ρ v y := by
  simp only [opOK] at hok
  split at hok
  · rename_i c hop
    split at hok
    · rename_i y t hcal hargs hats
      obtain ⟨i, _, hi, hu⟩ := tab_some htab hf hok
      simp only [Bool.and_eq_true] at hu
      have hx := (xOK_rel hu.1).ev hf
      have harg : c.args = #[y] := by rw [← Array.toList_inj]; exact hargs
      have hat : c.argTypes = #[t] := by rw [← Array.toList_inj]; exact hats
      have hrun : ∀ r, (∀ vv, a.eval y = vv → (Builtin.len_ #[t] o.type #[vv]).run P w = .ok r w) → (execOp a.eval o).run P w = .ok (.value r) w := by
        intro r hr
        have := hr _ rfl
        simp only [execOp, hop, resolve, hcal, Sem.run_bind, Sem.run_pure, Result.andThen_ok, invoke, builtin, harg, hat]
        simp [this]
      have hk := hu.2
      cases k with
      | str =>
        cases hiu : i.u <;> rw [hiu] at hk <;> simp only [Bool.false_eq_true] at hk
        simp only [pureOp] at hp
        cases hfx : f.ev x with
        | str s =>
          rw [hfx] at hp hx; cases hp
          have hv := Conc.str_ hx
          exact ⟨goInt (ByteArray.mk s.toArray).size, hrun _ fun vv hvv => by subst hvv; simp [Builtin.len_, hi.run_underlying w, hiu, hv], by show _ = _; rw [byteArray_size]; rfl⟩
        | _ => rw [hfx] at hp; cases hp
      | slice =>
        cases hiu : i.u <;> rw [hiu] at hk <;> simp only [Bool.false_eq_true] at hk
        simp only [pureOp] at hp
        cases hfx : f.ev x with
        | slice p len cap ex =>
          rw [hfx] at hp hx; cases hp
          have hsl : ∃ A c', a.eval y = .slice A len c' := by
            rcases p with _ | ⟨pi, po⟩
            · obtain ⟨h1, h2, _⟩ := hx; exact ⟨none, 0, by rw [h1, h2]⟩
            · obtain ⟨m, _, ad, c', h1, _⟩ := hx; exact ⟨some ad, c', h1⟩
          obtain ⟨A, c', hv⟩ := hsl
          exact ⟨goInt len, hrun _ fun vv hvv => by subst hvv; simp [Builtin.len_, hi.run_underlying w, hiu, hv], rfl⟩
        | _ => rw [hfx] at hp; cases hp
      | map => simp [pureOp] at hp
      | cap => cases hiu : i.u <;> rw [hiu] at hk <;> simp only [Bool.false_eq_true] at hk
      | arr n =>
        cases hiu : i.u <;> rw [hiu] at hk <;> simp only [Bool.false_eq_true] at hk
        have hn := hk
        simp only [pureOp] at hp; cases hp
        have hnm := (show n = _ by simpa [Nat.beq_eq] using hn)
        exact ⟨goInt n, hrun _ fun vv hvv => by simp [Builtin.len_, hi.run_underlying w, hiu, hnm], rfl⟩
    · rename_i y t hcal hargs hats
      obtain ⟨i, _, hi, hu⟩ := tab_some htab hf hok
      simp only [Bool.and_eq_true] at hu
      have hx := (xOK_rel hu.1).ev hf
      have harg : c.args = #[y] := by rw [← Array.toList_inj]; exact hargs
      have hat : c.argTypes = #[t] := by rw [← Array.toList_inj]; exact hats
      have hrun : ∀ r, (∀ vv, a.eval y = vv → (Builtin.cap_ #[t] o.type #[vv]).run P w = .ok r w) → (execOp a.eval o).run P w = .ok (.value r) w := by
        intro r hr
        have := hr _ rfl
        simp only [execOp, hop, resolve, hcal, Sem.run_bind, Sem.run_pure, Result.andThen_ok, invoke, builtin, harg, hat]
        simp [this]
      have hk := hu.2
      cases k with
      | cap =>
        cases hiu : i.u <;> rw [hiu] at hk <;> simp only [Bool.false_eq_true] at hk
        simp only [pureOp] at hp
        cases hfx : f.ev x with
        | slice p len cap ex =>
          rw [hfx] at hp hx
          rcases p with _ | ⟨pi, po⟩
          · cases hp
            obtain ⟨h1, h2, _⟩ := hx
            exact ⟨goInt 0, hrun _ fun vv hvv => by subst hvv; simp [Builtin.cap_, hi.run_underlying w, hiu, h1], rfl⟩
          · cases ex with
            | zero =>
              cases hp
              obtain ⟨m, _, ad, c', h1, _, _, h2, _⟩ := hx
              have := h2 rfl
              subst this
              exact ⟨goInt c', hrun _ fun vv hvv => by subst hvv; simp [Builtin.cap_, hi.run_underlying w, hiu, h1], rfl⟩
            | succ ex => cases hp
        | _ => rw [hfx] at hp; cases hp
      | _ => cases hiu : i.u <;> rw [hiu] at hk <;> simp only [Bool.false_eq_true] at hk
    · cases hok
  · cases hok
theorem pure_sdata {x : AX} {v : AV} (hok : opOK tab o (.sdata x) = true) (hp : pureOp (.sdata x) f = some v) : ∃ y, (execOp a.eval o).run P w = .ok (.value y) w ∧ Conc ρ v y := by
  simp only [opOK] at hok
  split at hok
  · rename_i c hop
    split at hok
    · rename_i y hcal hargs
      have hx := (xOK_rel hok).ev hf
      have harg : c.args = #[y] := by rw [← Array.toList_inj]; exact hargs
      have hrun : ∀ r, (∀ vv, a.eval y = vv → (Builtin.unsafeSliceData_ c.argTypes o.type #[vv]).run P w = .ok r w) → (execOp a.eval o).run P w = .ok (.value r) w := by
        intro r hr
        have := hr _ rfl
        simp only [execOp, hop, resolve, hcal, Sem.run_bind, Sem.run_pure, Result.andThen_ok, invoke, builtin, harg]
        simp [this]
      simp only [pureOp] at hp
      cases hfx : f.ev x with
      | slice p len cap ex =>
        rw [hfx] at hp hx
        rcases p with _ | ⟨pi, po⟩
        · cases hp
          obtain ⟨h1, h2, _⟩ := hx
          exact ⟨.pointer none, hrun _ fun vv hvv => by subst hvv; rw [h1]; rfl, rfl⟩
        · obtain ⟨hb, hp⟩ := cond_some hp
          cases hp
          have hcap : 0 < cap := by simpa [Nat.blt_eq] using hb
          obtain ⟨m, hm, ad, c', h1, _, hcc, _, had⟩ := hx
          refine ⟨.pointer (some ad), hrun _ fun vv hvv => ?_, m, hm, ad, rfl, fun b s e => (had b s e (by omega)).1⟩
          subst hvv
          have hne : c' ≠ 0 := by omega
          rw [h1]
          show ((if c' ≠ 0 then pure (Value.pointer (some ad)) else _ : Sem Value)).run P w = _
          rw [if_pos hne]
          rfl
      | _ => rw [hfx] at hp; cases hp
    · cases hok
  · cases hok
theorem pure_minmax {mx : Bool} {xs : List AX} {v : AV} (hok : opOK tab o (.minmax mx xs) = true) (hp : pureOp (.minmax mx xs) f = some v) : ∃ y, (execOp a.eval o).run P w = .ok (.value y) w ∧ Conc ρ v y := by
  simp only [opOK] at hok
  split at hok
  · rename_i c hop
    simp only [pureOp] at hp
    cases xs with
    | nil => cases hp
    | cons x xs =>
      simp only at hp
      split at hok
      · rename_i hcal
        simp only [Bool.and_eq_true] at hok
        obtain ⟨rfl, hxs⟩ := hok
        have hl := XRelL.evs hf (xOKL_rel hxs)
        cases hargs : c.args.toList with
        | nil => rw [hargs] at hl; exact hl.elim
        | cons y ys =>
          rw [hargs] at hl
          obtain ⟨r, hr, hc⟩ := mm_sound (P := P) w true _ _ _ _ _ hp hl.1 hl.2
          refine ⟨r, ?_, hc⟩
          have harg : (c.args.map a.eval).toList = a.eval y :: ys.map a.eval := by simp [hargs]
          simp only [if_true] at hr
          simp only [execOp, hop, resolve, hcal, Sem.run_bind, Sem.run_pure, Result.andThen_ok, invoke, builtin, Builtin.max_, harg, hr]
      · rename_i hcal
        simp only [Bool.and_eq_true, Bool.not_eq_true'] at hok
        obtain ⟨rfl, hxs⟩ := hok
        have hl := XRelL.evs hf (xOKL_rel hxs)
        cases hargs : c.args.toList with
        | nil => rw [hargs] at hl; exact hl.elim
        | cons y ys =>
          rw [hargs] at hl
          obtain ⟨r, hr, hc⟩ := mm_sound (P := P) w false _ _ _ _ _ hp hl.1 hl.2
          refine ⟨r, ?_, hc⟩
          have harg : (c.args.map a.eval).toList = a.eval y :: ys.map a.eval := by simp [hargs]
          simp only [Bool.false_eq_true, if_false] at hr
          simp only [execOp, hop, resolve, hcal, Sem.run_bind, Sem.run_pure, Result.andThen_ok, invoke, builtin, Builtin.min_, harg, hr]
      · cases hok
  · cases hok
theorem pure_sound {op : AOp} {v : AV} (hok : opOK tab o op = true) (hp : pureOp op f = some v) : ∃ y, (execOp a.eval o).run P w = .ok (.value y) w ∧ Conc ρ v y := by
  cases op with
  | mv x => exact pure_mv htab hf w hok hp
  | pick c x y => exact pure_pick htab hf w hok hp
  | build z ps => exact pure_build htab hf w hok hp
  | bin op x y => exact pure_bin htab hf w hok hp
  | eqv neg e x y => exact pure_eqv htab hf w hok hp
  | un op x => exact pure_un htab hf w hok hp
  | conv k x => exact pure_conv htab hf w hok hp
  | iface t x => exact pure_iface htab hf w hok hp
  | mkfun g x y => exact pure_mkfun htab hf w hok hp
  | sliceS x lo hi => exact pure_sliceS htab hf w hok hp
  | slice s x lo hi mx => exact slice_sound htab hf w hok hp
  | fld off n agg x => exact pure_fld htab hf w hok hp
  | faddr off x => exact pure_faddr htab hf w hok hp
  | iaddr s x i => exact pure_iaddr htab hf w hok hp
  | iaddrA l s x i => exact pure_iaddrA htab hf w hok hp
  | idxS x i => exact pure_idxS htab hf w hok hp
  | idxA l s g x i => exact pure_idxA htab hf w hok hp
  | ext x i => exact pure_ext htab hf w hok hp
  | nilc x => exact pure_nilc htab hf w hok hp
  | len k x => exact pure_len htab hf w hok hp
  | minmax m xs => exact pure_minmax htab hf w hok hp
  | sdata x => exact pure_sdata htab hf w hok hp
  | _ => simp [pureOp] at hp
end
end Go.Proofs.YtjbpcddplaakfaaGreatDoor.Det

/-! The heap: how the abstract one stands to the machine's, under a renaming of blocks; what a step changes and what it leaves. -/
namespace Go.Proofs.YtjbpcddplaakfaaGreatDoor.Det
open Go
set_option linter.unusedVariables false
set_option linter.unusedSimpArgs false
set_option linter.unusedSectionVars false

/-! ### Blocks -/
def EntRel (ρ : Rho) : List (AV × AV) → List MapEntry → Prop
  | [], [] => True
  | (k, v) :: es, e :: es' => Conc ρ k e.key ∧ Conc ρ v e.val ∧ EntRel ρ es es'
  | _, _ => False
theorem EntRel.mono {ρ ρ' : Rho} (hx : Ext ρ ρ') : ∀ {es : List (AV × AV)} {es' : List MapEntry}, EntRel ρ es es' → EntRel ρ' es es'
  | [], [], _ => trivial
  | (k, v) :: es, e :: es', h => ⟨h.1.mono hx, h.2.1.mono hx, EntRel.mono hx h.2.2⟩
  | [], _ :: _, h => h.elim
  | _ :: _, [], h => h.elim
def PendRel (tab : Tab) : Option ACode → Option Code → Prop
  | none, none => True
  | some a, some b => cOK tab a b = true
  | _, _ => False
def Unfrozen (fr : Nat × Nat) (R : Nat) : Prop := ∀ off, off < R → ¬ (fr.1 ≤ off ∧ off < fr.2)
structure LoopRel (tab : Tab) (ρ : Rho) (l : ALoop) (l' : Loop) : Prop where
  st : l'.state = l.st
  pend : PendRel tab l.pend l'.pending
  f : FRel ρ l.f l'.tmps
  ps : l'.params.toList = l.ps
  assign : cOK tab l.assign l'.assign = true
  body : cOK tab l.body l'.body = true
  nrA : noRange l.assign = true
  nrB : noRange l.body = true
structure CellsRel (ρ : Rho) (c : List AV) (ro : Bool) (arr : Array Value) (fr : Nat × Nat) (s : Sh) : Prop where
  size : arr.size = s.R
  fit : s.s + c.length ≤ s.R
  get : ∀ i x, c[i]? = some x → ∃ v, arr[i + s.s]? = some v ∧ Conc ρ x v
  free : ro = false → Unfrozen fr s.R
theorem CellsRel.mono {ρ ρ' : Rho} (hx : Ext ρ ρ') {c : List AV} {ro : Bool} {arr : Array Value} {fr : Nat × Nat} {s : Sh} (h : CellsRel ρ c ro arr fr s) : CellsRel ρ' c ro arr fr s :=
  ⟨h.size, h.fit, fun i x hi => let ⟨v, h1, h2⟩ := h.get i x hi; ⟨v, h1, Conc.mono hx _ _ h2⟩, h.free⟩
def ElOk (el : Option (Nat × Bool)) (e : Nat) (s : Sh) : Prop := ∀ t z, el = some (t, z) → e = t ∧ (z = true → s.s = 0)
theorem ElOk.none_ {e : Nat} {s : Sh} : ElOk none e s := fun _ _ h => by cases h
def AB.Rel (tab : Tab) (ρ : Rho) (ob : AB) (obj : Obj) (s : Sh) : Prop :=
  match ob with
  | .cells c ro el => ∃ arr e fr, obj = .cells arr e fr ∧ CellsRel ρ c ro arr fr s ∧ ElOk el e s
  | .map es => ∃ es' clock, obj = .map es' clock ∧ EntRel ρ es es'.toList
  | .loop l => ∃ l', obj = .loop l' ∧ LoopRel tab ρ l l'
theorem AB.Rel.mono {tab : Tab} {ρ ρ' : Rho} (hx : Ext ρ ρ') {ob : AB} {obj : Obj} {s : Sh} (h : ob.Rel tab ρ obj s) : ob.Rel tab ρ' obj s := by
  cases ob with
  | cells c ro el => obtain ⟨arr, e, fr, h1, h2, h3⟩ := h; exact ⟨arr, e, fr, h1, h2.mono hx, h3⟩
  | map es => obtain ⟨es', cl, h1, h2⟩ := h; exact ⟨es', cl, h1, h2.mono hx⟩
  | loop l => obtain ⟨l', h1, h2⟩ := h; exact ⟨l', h1, ⟨h2.st, h2.pend, h2.f.mono hx, h2.ps, h2.assign, h2.body, h2.nrA, h2.nrB⟩⟩

/-! ### The abstract heap -/
theorem AH.get_set (H : AH) (i j : Nat) (b : Option AB) : (H.set i b).get j = if i = j then b else H.get j := by
  simp only [AH.get, AH.set, PT.get_set]
  by_cases h : i = j
  · subst h; simp
  · have : ¬ j = i := fun e => h e.symm
    simp [h, this]
theorem AH.get_new (H : AH) (b : AB) (j : Nat) : (H.new b).get j = if H.next = j then some b else H.get j := AH.get_set H H.next j (some b)
@[simp] theorem AH.next_set (H : AH) (i : Nat) (b : Option AB) : (H.set i b).next = H.next := rfl
@[simp] theorem AH.next_new (H : AH) (b : AB) : (H.new b).next = H.next + 1 := rfl

/-! ### The renaming -/
def Rho.put (ρ : Rho) (i : Nat) (m : Option (Nat × Sh)) : Rho := fun j => if j = i then some m else ρ j
theorem Rho.put_same (ρ : Rho) (i : Nat) (m : Option (Nat × Sh)) : ρ.put i m i = some m := by simp [Rho.put]
theorem Rho.put_ne (ρ : Rho) {i j : Nat} (m : Option (Nat × Sh)) (h : j ≠ i) : ρ.put i m j = ρ j := by simp [Rho.put, h]
theorem Ext.put_fresh {ρ : Rho} {i : Nat} (h : ρ i = none) (m : Option (Nat × Sh)) : Ext ρ (ρ.put i m) := fun j n hj => by
  by_cases e : j = i
  · subst e; rw [h] at hj; cases hj
  · left; rw [Rho.put_ne _ _ e]; exact hj
theorem Ext.kill (ρ : Rho) (i : Nat) : Ext ρ (ρ.put i none) := fun j n hj => by
  by_cases e : j = i
  · subst e; right; exact Rho.put_same _ _ _
  · left; rw [Rho.put_ne _ _ e]; exact hj

/-! ### Worlds -/
def wput (w : World) (b : Nat) (o : Obj) : World := { w with heap := w.heap.setIfInBounds b o }
def wpush (w : World) (o : Obj) : World := { w with heap := w.heap.push o }
theorem wput_get (w : World) (b b' : Nat) (o : Obj) (h : b < w.heap.size) : (wput w b o).heap[b']? = if b = b' then some o else w.heap[b']? := by
  simp only [wput, Array.getElem?_setIfInBounds]
  by_cases e : b = b'
  · subst e; simp [h]
  · simp [e]
theorem wput_size (w : World) (b : Nat) (o : Obj) : (wput w b o).heap.size = w.heap.size := by simp [wput]
theorem wput_wput (w : World) (b : Nat) (o o' : Obj) : wput (wput w b o) b o' = wput w b o' := by
  simp only [wput]; congr 1
  apply Array.ext_getElem?
  intro i
  simp only [Array.getElem?_setIfInBounds, Array.size_setIfInBounds]
  split <;> simp_all
theorem wput_self (w : World) (b : Nat) (o : Obj) (h : w.heap[b]? = some o) : wput w b o = w := by
  simp only [wput]
  have : w.heap.setIfInBounds b o = w.heap := by
    apply Array.ext_getElem?
    intro i
    simp only [Array.getElem?_setIfInBounds]
    split
    · rename_i e; subst e; have := (Array.getElem?_eq_some_iff.1 h).1; simp [this, h.symm]
    · rfl
  rw [this]
theorem wpush_get_lt (w : World) (o : Obj) {b : Nat} (h : b < w.heap.size) : (wpush w o).heap[b]? = w.heap[b]? := by
  show (w.heap.push o)[b]? = _
  rw [Array.getElem?_push, if_neg (Nat.ne_of_lt h)]
theorem wpush_get_eq (w : World) (o : Obj) : (wpush w o).heap[w.heap.size]? = some o := by
  show (w.heap.push o)[w.heap.size]? = _
  rw [Array.getElem?_push, if_pos rfl]
theorem lt_of_get {w : World} {b : Nat} {o : Obj} (h : w.heap[b]? = some o) : b < w.heap.size := (Array.getElem?_eq_some_iff.1 h).1

/-! ### The relation, the frame -/
structure Sim0 (tab : Tab) (ρ : Rho) (H : AH) (w : World) : Prop where
  obj : ∀ i ob, H.get i = some ob → ∃ b s o, ρ i = some (some (b, s)) ∧ w.heap[b]? = some o ∧ ob.Rel tab ρ o s
  inj : ∀ i j ob ob' b s s', H.get i = some ob → H.get j = some ob' → ρ i = some (some (b, s)) → ρ j = some (some (b, s')) → i = j
  dom : ∀ i ob, H.get i = some ob → i < H.next
def Own (ρ : Rho) (H : AH) (b : Nat) : Prop := ∃ i ob s, H.get i = some ob ∧ ρ i = some (some (b, s))
/-- The library's table of powers of ten lies where it is laid, and no block of the run is there. -/
def layG : Nat := 1
def layC : List Int := [1, 10, 100, 1000, 10000, 100000, 1000000, 10000000, 100000000, 1000000000, 10000000000, 100000000000, 1000000000000, 10000000000000, 100000000000000, 1000000000000000, 10000000000000000, 100000000000000000, 1000000000000000000, 10000000000000000000]
def LayV : Option Obj → Prop
  | some (.cells cs _ _) => cs = (layC.map fun z => Value.int .u64 z).toArray
  | _ => False
def LayOK (ρ : Rho) (H : AH) (w : World) : Prop := LayV w.heap[layG]? ∧ ¬ Own ρ H layG
structure Sim (tab : Tab) (ρ : Rho) (H : AH) (w : World) : Prop extends Sim0 tab ρ H w where
  lay : LayOK ρ H w
def Fresh (ρ : Rho) (H H' : AH) : Prop := ∀ i, H.next ≤ i → i < H'.next → ρ i = none
structure Frm (ρ : Rho) (H : AH) (w : World) (ρ' : Rho) (H' : AH) (w' : World) : Prop where
  size : w.heap.size ≤ w'.heap.size
  ext : Ext ρ ρ'
  next : H.next ≤ H'.next
  out : ∀ i, H'.next ≤ i → ρ' i = ρ i
  keep : ∀ b, b < w.heap.size → ¬ Own ρ H b → w'.heap[b]? = w.heap[b]?
  own : ∀ b, b < w.heap.size → Own ρ' H' b → Own ρ H b
  stay : ∀ i m, H.get i = none → ρ i = some m → ρ' i = some m
  live : ∀ i ob, H'.get i = some ob → (∃ ob', H.get i = some ob') ∨ ρ i = none
  low : ∀ i, i < H.next → ρ i = none → ρ' i = none
  os : w'.os = w.os
  output : w'.output = w.output
  tape : w'.tape = w.tape
  fix : ∀ i c b s, H.get i = some (.cells c true none) → ρ i = some (some (b, s)) → w'.heap[b]? = w.heap[b]? ∧ H'.get i = some (.cells c true none) ∧ ρ' i = some (some (b, s))
theorem Frm.refl (ρ : Rho) (H : AH) (w : World) : Frm ρ H w ρ H w := ⟨Nat.le_refl _, .refl _, Nat.le_refl _, fun _ _ => rfl, fun _ _ _ => rfl, fun _ _ h => h, fun _ _ _ h => h, fun _ ob h => .inl ⟨ob, h⟩, fun _ _ h => h, rfl, rfl, rfl, fun _ _ _ _ h h' => ⟨rfl, h, h'⟩⟩
theorem Frm.trans {ρ ρ' ρ'' : Rho} {H H' H'' : AH} {w w' w'' : World} (h : Frm ρ H w ρ' H' w') (h' : Frm ρ' H' w' ρ'' H'' w'') : Frm ρ H w ρ'' H'' w'' where
  size := Nat.le_trans h.size h'.size
  ext := h.ext.trans h'.ext
  next := Nat.le_trans h.next h'.next
  out i hi := (h'.out i hi).trans (h.out i (Nat.le_trans h'.next hi))
  keep b hb ho := (h'.keep b (Nat.lt_of_lt_of_le hb h.size) fun h2 => ho (h.own b hb h2)).trans (h.keep b hb ho)
  own b hb h2 := h.own b hb (h'.own b (Nat.lt_of_lt_of_le hb h.size) h2)
  stay i m hi hr := by
    have h1 := h.stay i m hi hr
    refine h'.stay i m ?_ h1
    cases hg : H'.get i with
    | none => rfl
    | some ob =>
      rcases h.live i ob hg with ⟨ob', h2⟩ | h2
      · rw [hi] at h2; cases h2
      · rw [hr] at h2; cases h2
  live i ob hi := by
    rcases h'.live i ob hi with ⟨ob', h2⟩ | h2
    · exact h.live i ob' h2
    · right
      cases hr : ρ i with
      | none => rfl
      | some m =>
        rcases h.ext i m hr with h3 | h3 <;> rw [h2] at h3 <;> cases h3
  low i hi hr := h'.low i (Nat.lt_of_lt_of_le hi h.next) (h.low i hi hr)
  os := h'.os.trans h.os
  output := h'.output.trans h.output
  tape := h'.tape.trans h.tape
  fix i c b s hi hr := by
    obtain ⟨a1, a2, a3⟩ := h.fix i c b s hi hr
    obtain ⟨b1, b2, b3⟩ := h'.fix i c b s a2 a3
    exact ⟨b1.trans a1, b2, b3⟩
theorem Frm.drew (ρ : Rho) (H : AH) (w : World) (n : Nat) : Frm ρ H w ρ H { w with drawn := n } :=
  ⟨Nat.le_refl _, .refl _, Nat.le_refl _, fun _ _ => rfl, fun _ _ _ => rfl, fun _ _ h => h, fun _ _ _ h => h, fun _ ob h => .inl ⟨ob, h⟩, fun _ _ h => h, rfl, rfl, rfl, fun _ _ _ _ h h' => ⟨rfl, h, h'⟩⟩
theorem Sim.drew {tab : Tab} {ρ : Rho} {H : AH} {w : World} (h : Sim tab ρ H w) (n : Nat) : Sim tab ρ H { w with drawn := n } := ⟨⟨h.obj, h.inj, h.dom⟩, h.lay⟩
theorem LayV.lt {w : World} (h : LayV w.heap[layG]?) : layG < w.heap.size := by
  cases hb : w.heap[layG]? with
  | none => rw [hb] at h; exact h.elim
  | some o => exact lt_of_get hb
theorem LayOK.frm {ρ ρ' : Rho} {H H' : AH} {w w' : World} (h : LayOK ρ H w) (hf : Frm ρ H w ρ' H' w') : LayOK ρ' H' w' :=
  ⟨by rw [hf.keep _ h.1.lt h.2]; exact h.1, fun ho => h.2 (hf.own _ h.1.lt ho)⟩
theorem LayOK.sub {ρ ρ' : Rho} {H H' : AH} {w : World} (h : LayOK ρ H w) (ho : Own ρ' H' layG → Own ρ H layG) : LayOK ρ' H' w := ⟨h.1, fun k => h.2 (ho k)⟩
theorem Fresh.left {ρ : Rho} {H H' H'' : AH} (h : Fresh ρ H H'') (h2 : H'.next ≤ H''.next) : Fresh ρ H H' := fun i h1 h3 => h i h1 (Nat.lt_of_lt_of_le h3 h2)
theorem Fresh.right {ρ ρ' : Rho} {H H' H'' : AH} {w w' : World} (h : Fresh ρ H H'') (hf : Frm ρ H w ρ' H' w') : Fresh ρ' H' H'' := fun i h1 h3 =>
  (hf.out i h1).trans (h i (Nat.le_trans hf.next h1) h3)

section
variable {tab : Tab} {ρ : Rho} {H : AH} {w : World}
theorem Sim0.at_ (h : Sim0 tab ρ H w) {i : Nat} {ob : AB} {b : Nat} {s : Sh} (hi : H.get i = some ob) (hr : ρ i = some (some (b, s))) : ∃ o, w.heap[b]? = some o ∧ ob.Rel tab ρ o s := by
  obtain ⟨b', s', o, h1, h2, h3⟩ := h.obj i ob hi
  rw [hr] at h1; cases h1
  exact ⟨o, h2, h3⟩
/-- A block is written over. -/
theorem Sim0.upd (h : Sim0 tab ρ H w) {i : Nat} {ob ob' : AB} {b : Nat} {s : Sh} {o' : Obj} (hnf : ∀ c, ob ≠ .cells c true none) (hi : H.get i = some ob) (hr : ρ i = some (some (b, s))) (hrel : ob'.Rel tab ρ o' s) :
    Sim0 tab ρ (H.set i (some ob')) (wput w b o') ∧ Frm ρ H w ρ (H.set i (some ob')) (wput w b o') := by
  obtain ⟨o, ho, _⟩ := h.at_ hi hr
  have hlt := lt_of_get ho
  refine ⟨⟨fun j ob1 hj => ?_, fun j k oj ok b' s1 s2 hj hk => ?_, fun j oj hj => ?_⟩, ⟨by rw [wput_size]; exact Nat.le_refl _, .refl _, Nat.le_refl _, fun _ _ => rfl, fun b1 hb1 hno => ?_, fun b1 hb1 ⟨j, oj, sj, hj, hrj⟩ => ?_, fun _ _ _ h => h, fun j oj hj => ?_, fun _ _ h => h, rfl, rfl, rfl, fun j c b1 s1 hj hrj => ?_⟩⟩
  · rw [AH.get_set] at hj
    by_cases e : i = j
    · subst e; simp only [if_true, Option.some.injEq] at hj; subst hj
      exact ⟨b, s, o', hr, by rw [wput_get _ _ _ _ hlt]; simp, hrel⟩
    · simp only [e, if_false] at hj
      obtain ⟨b1, s1, o1, h1, h2, h3⟩ := h.obj j ob1 hj
      refine ⟨b1, s1, o1, h1, ?_, h3⟩
      rw [wput_get _ _ _ _ hlt]
      by_cases e2 : b = b1
      · subst e2; exact absurd (h.inj i j ob ob1 b s s1 hi hj hr h1) e
      · simp [e2, h2]
  · rw [AH.get_set] at hj hk
    intro h1 h2
    have live : ∀ x ox, (if i = x then some ob' else H.get x) = some ox → ∃ o, H.get x = some o := fun x ox hx => by
      by_cases e : i = x
      · subst e; exact ⟨ob, hi⟩
      · simp only [e, if_false] at hx; exact ⟨ox, hx⟩
    obtain ⟨oj', hj'⟩ := live j oj hj
    obtain ⟨ok', hk'⟩ := live k ok hk
    exact h.inj j k oj' ok' b' s1 s2 hj' hk' h1 h2
  · rw [AH.get_set] at hj
    by_cases e : i = j
    · subst e; exact h.dom i ob hi
    · simp only [e, if_false] at hj; exact h.dom j oj hj
  · rw [wput_get _ _ _ _ hlt]
    by_cases e : b = b1
    · subst e; exact absurd ⟨i, ob, s, hi, hr⟩ hno
    · simp [e]
  · rw [AH.get_set] at hj
    by_cases e : i = j
    · subst e; exact ⟨i, ob, sj, hi, hrj⟩
    · simp only [e, if_false] at hj; exact ⟨j, oj, sj, hj, hrj⟩
  · rw [AH.get_set] at hj
    by_cases e : i = j
    · subst e; exact .inl ⟨ob, hi⟩
    · simp only [e, if_false] at hj; exact .inl ⟨oj, hj⟩
  · have hij : ¬ i = j := fun e => by subst e; rw [hi] at hj; cases hj; exact hnf _ rfl
    have hbb : ¬ b = b1 := fun e => by subst e; exact hij (h.inj i j _ _ b s s1 hi hj hr hrj)
    exact ⟨by rw [wput_get _ _ _ _ hlt, if_neg hbb], by rw [AH.get_set, if_neg hij]; exact hj, hrj⟩
/-- A block is let go. -/
theorem Sim0.drop (h : Sim0 tab ρ H w) {i : Nat} {ob : AB} {b : Nat} {s : Sh} {o' : Obj} (hnf : ∀ c, ob ≠ .cells c true none) (hi : H.get i = some ob) (hr : ρ i = some (some (b, s))) :
    Sim0 tab ρ (H.set i none) (wput w b o') ∧ Frm ρ H w ρ (H.set i none) (wput w b o') := by
  obtain ⟨o, ho, _⟩ := h.at_ hi hr
  have hlt := lt_of_get ho
  have live : ∀ j ox, (H.set i none).get j = some ox → H.get j = some ox ∧ i ≠ j := fun j ox hx => by
    rw [AH.get_set] at hx
    by_cases e : i = j
    · subst e; simp at hx
    · simp only [e, if_false] at hx; exact ⟨hx, e⟩
  refine ⟨⟨fun j ob1 hj => ?_, fun j k oj ok b' s1 s2 hj hk => h.inj j k oj ok b' s1 s2 (live j oj hj).1 (live k ok hk).1, fun j oj hj => h.dom j oj (live j oj hj).1⟩,
    ⟨by rw [wput_size]; exact Nat.le_refl _, .refl _, Nat.le_refl _, fun _ _ => rfl, fun b1 hb1 hno => ?_, fun b1 hb1 ⟨j, oj, sj, hj, hrj⟩ => ⟨j, oj, sj, (live j oj hj).1, hrj⟩, fun _ _ _ h => h, fun j oj hj => .inl ⟨oj, (live j oj hj).1⟩, fun _ _ h => h, rfl, rfl, rfl, fun j c b1 s1 hj hrj => ?_⟩⟩
  · obtain ⟨hj', hne⟩ := live j ob1 hj
    obtain ⟨b1, s1, o1, h1, h2, h3⟩ := h.obj j ob1 hj'
    refine ⟨b1, s1, o1, h1, ?_, h3⟩
    rw [wput_get _ _ _ _ hlt]
    by_cases e2 : b = b1
    · subst e2; exact absurd (h.inj i j ob ob1 b s s1 hi hj' hr h1) hne
    · simp [e2, h2]
  · rw [wput_get _ _ _ _ hlt]
    by_cases e : b = b1
    · subst e; exact absurd ⟨i, ob, s, hi, hr⟩ hno
    · simp [e]
  · have hij : ¬ i = j := fun e => by subst e; rw [hi] at hj; cases hj; exact hnf _ rfl
    have hbb : ¬ b = b1 := fun e => by subst e; exact hij (h.inj i j _ _ b s s1 hi hj hr hrj)
    exact ⟨by rw [wput_get _ _ _ _ hlt, if_neg hbb], by rw [AH.get_set, if_neg hij]; exact hj, hrj⟩
/-- A block is made. -/
theorem Sim0.new (h : Sim0 tab ρ H w) {ob : AB} {s : Sh} {o : Obj} (hn : ρ H.next = none) (hrel : ob.Rel tab ρ o s) :
    Sim0 tab (ρ.put H.next (some (w.heap.size, s))) (H.new ob) (wpush w o) ∧ Frm ρ H w (ρ.put H.next (some (w.heap.size, s))) (H.new ob) (wpush w o) := by
  have hext : Ext ρ (ρ.put H.next (some (w.heap.size, s))) := Ext.put_fresh hn _
  have old : ∀ j oj, H.get j = some oj → ∃ b1 s1 o1, ρ j = some (some (b1, s1)) ∧ w.heap[b1]? = some o1 ∧ oj.Rel tab ρ o1 s1 ∧ b1 < w.heap.size ∧ j ≠ H.next := fun j oj hj => by
    obtain ⟨b1, s1, o1, h1, h2, h3⟩ := h.obj j oj hj
    exact ⟨b1, s1, o1, h1, h2, h3, lt_of_get h2, Nat.ne_of_lt (h.dom j oj hj)⟩
  refine ⟨⟨fun j oj hj => ?_, fun j k oj ok b' s1 s2 hj hk h1 h2 => ?_, fun j oj hj => ?_⟩,
    ⟨by show w.heap.size ≤ (w.heap.push o).size; simp, hext, by simp, fun j hj => Rho.put_ne _ _ (by simp at hj; omega), fun b1 hb1 hno => wpush_get_lt _ _ hb1, fun b1 hb1 ⟨j, oj, sj, hj, hrj⟩ => ?_, fun j m hj hrj => by rw [Rho.put_ne _ _ (fun e => by subst e; rw [hn] at hrj; cases hrj)]; exact hrj, fun j oj hj => ?_, fun j hj hrj => by rw [Rho.put_ne _ _ (by omega)]; exact hrj, rfl, rfl, rfl, fun j c b1 s1 hj hrj => by
      obtain ⟨b2, s2, o2, g1, g2, g3, g4, g5⟩ := old j _ hj
      rw [hrj] at g1; cases g1
      exact ⟨wpush_get_lt _ _ g4, by rw [AH.get_new, if_neg (fun e => g5 e.symm)]; exact hj, by rw [Rho.put_ne _ _ g5]; exact hrj⟩⟩⟩
  · rw [AH.get_new] at hj
    by_cases e : H.next = j
    · subst e; simp only [if_true, Option.some.injEq] at hj; subst hj
      exact ⟨w.heap.size, s, o, Rho.put_same _ _ _, wpush_get_eq _ _, hrel.mono hext⟩
    · simp only [e, if_false] at hj
      obtain ⟨b1, s1, o1, h1, h2, h3, h4, h5⟩ := old j oj hj
      exact ⟨b1, s1, o1, by rw [Rho.put_ne _ _ h5]; exact h1, by rw [wpush_get_lt _ _ h4]; exact h2, h3.mono hext⟩
  · rw [AH.get_new] at hj hk
    by_cases e : H.next = j
    · by_cases e2 : H.next = k
      · omega
      · subst e; simp only [e2, if_false] at hk
        obtain ⟨b1, s1', o1, g1, g2, g3, g4, g5⟩ := old k ok hk
        rw [Rho.put_same] at h1; rw [Rho.put_ne _ _ g5, g1] at h2
        cases h1; cases h2; omega
    · simp only [e, if_false] at hj
      obtain ⟨b1, s1', o1, g1, g2, g3, g4, g5⟩ := old j oj hj
      rw [Rho.put_ne _ _ g5] at h1
      by_cases e2 : H.next = k
      · subst e2
        rw [Rho.put_same] at h2; rw [g1] at h1
        cases h1; cases h2; omega
      · simp only [e2, if_false] at hk
        obtain ⟨b2, s2', o2, g1', g2', g3', g4', g5'⟩ := old k ok hk
        rw [Rho.put_ne _ _ g5'] at h2
        exact h.inj j k oj ok b' s1 s2 hj hk h1 h2
  · rw [AH.get_new] at hj
    simp only [AH.next_new]
    by_cases e : H.next = j
    · omega
    · simp only [e, if_false] at hj
      have := h.dom j oj hj; omega
  · rw [AH.get_new] at hj
    by_cases e : H.next = j
    · subst e; rw [Rho.put_same] at hrj; cases hrj; omega
    · simp only [e, if_false] at hj
      rw [Rho.put_ne _ _ (fun h => e h.symm)] at hrj
      exact ⟨j, oj, sj, hj, hrj⟩
  · rw [AH.get_new] at hj
    by_cases e : H.next = j
    · subst e; exact .inr hn
    · simp only [e, if_false] at hj; exact .inl ⟨oj, hj⟩
/-- A block is written over and goes on under a new name. -/
theorem Sim0.move (h : Sim0 tab ρ H w) {i : Nat} {ob ob' : AB} {b : Nat} {s s' : Sh} {o' : Obj} (hnf : ∀ c, ob ≠ .cells c true none) (hi : H.get i = some ob) (hr : ρ i = some (some (b, s))) (hn : ρ H.next = none)
    (hrel : ob'.Rel tab ((ρ.put i none).put H.next (some (b, s'))) o' s') :
    Sim0 tab ((ρ.put i none).put H.next (some (b, s'))) ((H.set i none).new ob') (wput w b o') ∧ Frm ρ H w ((ρ.put i none).put H.next (some (b, s'))) ((H.set i none).new ob') (wput w b o') := by
  obtain ⟨o, ho, _⟩ := h.at_ hi hr
  have hlt := lt_of_get ho
  have hidom := h.dom i ob hi
  have hn2 : (ρ.put i none) H.next = none := by rw [Rho.put_ne _ _ (by omega)]; exact hn
  have hext : Ext ρ ((ρ.put i none).put H.next (some (b, s'))) := (Ext.kill ρ i).trans (Ext.put_fresh hn2 _)
  have get : ∀ j oj, ((H.set i none).new ob').get j = some oj → (j = H.next ∧ oj = ob') ∨ (j ≠ H.next ∧ j ≠ i ∧ H.get j = some oj) := fun j oj hj => by
    rw [AH.get_new, AH.get_set, AH.next_set] at hj
    by_cases e : H.next = j
    · simp only [e, if_true, Option.some.injEq] at hj; exact .inl ⟨e.symm, hj.symm⟩
    · by_cases e2 : i = j
      · simp [e, e2] at hj
      · simp only [e, e2, if_false] at hj; exact .inr ⟨fun h => e h.symm, fun h => e2 h.symm, hj⟩
  have old : ∀ j, j ≠ H.next → j ≠ i → ((ρ.put i none).put H.next (some (b, s'))) j = ρ j := fun j h1 h2 => by rw [Rho.put_ne _ _ h1, Rho.put_ne _ _ h2]
  refine ⟨⟨fun j oj hj => ?_, fun j k oj ok b' s1 s2 hj hk h1 h2 => ?_, fun j oj hj => ?_⟩,
    ⟨by rw [wput_size]; exact Nat.le_refl _, hext, by simp, fun j hj => old j (by simp at hj; omega) (by simp at hj; omega), fun b1 hb1 hno => ?_, fun b1 hb1 ⟨j, oj, sj, hj, hrj⟩ => ?_, fun j m hj hrj => by rw [old j (fun e => by subst e; rw [hn] at hrj; cases hrj) (fun e => by subst e; rw [hi] at hj; cases hj)]; exact hrj, fun j oj hj => ?_, fun j hj hrj => by rw [old j (by omega) (fun e => by subst e; rw [hr] at hrj; cases hrj)]; exact hrj, rfl, rfl, rfl, fun j c b1 s1 hj hrj => ?_⟩⟩
  · rcases get j oj hj with ⟨rfl, rfl⟩ | ⟨h1, h2, h3⟩
    · exact ⟨b, s', o', Rho.put_same _ _ _, by rw [wput_get _ _ _ _ hlt]; simp, hrel⟩
    · obtain ⟨b1, s1, o1, g1, g2, g3⟩ := h.obj j oj h3
      refine ⟨b1, s1, o1, by rw [old j h1 h2]; exact g1, ?_, g3.mono hext⟩
      rw [wput_get _ _ _ _ hlt]
      by_cases e2 : b = b1
      · subst e2; exact absurd (h.inj j i oj ob b s1 s h3 hi g1 hr) h2
      · simp [e2, g2]
  · rcases get j oj hj with ⟨rfl, rfl⟩ | ⟨g1, g2, g3⟩
    · rcases get k ok hk with ⟨rfl, rfl⟩ | ⟨g1', g2', g3'⟩
      · rfl
      · rw [Rho.put_same] at h1; cases h1
        rw [old k g1' g2'] at h2
        exact absurd (h.inj k i ok ob b s2 s g3' hi h2 hr) g2'
    · rcases get k ok hk with ⟨rfl, rfl⟩ | ⟨g1', g2', g3'⟩
      · rw [Rho.put_same] at h2; cases h2
        rw [old j g1 g2] at h1
        exact absurd (h.inj j i oj ob b s1 s g3 hi h1 hr) g2
      · rw [old j g1 g2] at h1; rw [old k g1' g2'] at h2
        exact h.inj j k oj ok b' s1 s2 g3 g3' h1 h2
  · rcases get j oj hj with ⟨rfl, rfl⟩ | ⟨g1, g2, g3⟩
    · simp
    · have := h.dom j oj g3; simp; omega
  · rw [wput_get _ _ _ _ hlt]
    by_cases e : b = b1
    · subst e; exact absurd ⟨i, ob, s, hi, hr⟩ hno
    · simp [e]
  · rcases get j oj hj with ⟨rfl, rfl⟩ | ⟨g1, g2, g3⟩
    · rw [Rho.put_same] at hrj; cases hrj; exact ⟨i, ob, s, hi, hr⟩
    · rw [old j g1 g2] at hrj; exact ⟨j, oj, sj, g3, hrj⟩
  · rcases get j oj hj with ⟨rfl, rfl⟩ | ⟨g1, g2, g3⟩
    · exact .inr hn
    · exact .inl ⟨oj, g3⟩
  · have hij : ¬ i = j := fun e => by subst e; rw [hi] at hj; cases hj; exact hnf _ rfl
    have hbb : ¬ b = b1 := fun e => by subst e; exact hij (h.inj i j _ _ b s s1 hi hj hr hrj)
    have hjn : j ≠ H.next := Nat.ne_of_lt (h.dom j _ hj)
    exact ⟨by rw [wput_get _ _ _ _ hlt, if_neg hbb], by rw [AH.get_new, AH.next_set, if_neg (fun e => hjn e.symm), AH.get_set, if_neg hij]; exact hj, by rw [old j hjn (fun e => hij e.symm)]; exact hrj⟩
theorem Sim.upd (h : Sim tab ρ H w) {i : Nat} {ob ob' : AB} {b : Nat} {s : Sh} {o' : Obj} (hnf : ∀ c, ob ≠ .cells c true none) (hi : H.get i = some ob) (hr : ρ i = some (some (b, s))) (hrel : ob'.Rel tab ρ o' s) :
    Sim tab ρ (H.set i (some ob')) (wput w b o') ∧ Frm ρ H w ρ (H.set i (some ob')) (wput w b o') := by
  obtain ⟨h1, h2⟩ := h.toSim0.upd hnf hi hr hrel
  exact ⟨⟨h1, h.lay.frm h2⟩, h2⟩
theorem Sim.drop (h : Sim tab ρ H w) {i : Nat} {ob : AB} {b : Nat} {s : Sh} {o' : Obj} (hnf : ∀ c, ob ≠ .cells c true none) (hi : H.get i = some ob) (hr : ρ i = some (some (b, s))) :
    Sim tab ρ (H.set i none) (wput w b o') ∧ Frm ρ H w ρ (H.set i none) (wput w b o') := by
  obtain ⟨h1, h2⟩ := h.toSim0.drop (o' := o') hnf hi hr
  exact ⟨⟨h1, h.lay.frm h2⟩, h2⟩
theorem Sim.new (h : Sim tab ρ H w) {ob : AB} {s : Sh} {o : Obj} (hn : ρ H.next = none) (hrel : ob.Rel tab ρ o s) :
    Sim tab (ρ.put H.next (some (w.heap.size, s))) (H.new ob) (wpush w o) ∧ Frm ρ H w (ρ.put H.next (some (w.heap.size, s))) (H.new ob) (wpush w o) := by
  obtain ⟨h1, h2⟩ := h.toSim0.new hn hrel
  exact ⟨⟨h1, h.lay.frm h2⟩, h2⟩
theorem Sim.move (h : Sim tab ρ H w) {i : Nat} {ob ob' : AB} {b : Nat} {s s' : Sh} {o' : Obj} (hnf : ∀ c, ob ≠ .cells c true none) (hi : H.get i = some ob) (hr : ρ i = some (some (b, s))) (hn : ρ H.next = none)
    (hrel : ob'.Rel tab ((ρ.put i none).put H.next (some (b, s'))) o' s') :
    Sim tab ((ρ.put i none).put H.next (some (b, s'))) ((H.set i none).new ob') (wput w b o') ∧ Frm ρ H w ((ρ.put i none).put H.next (some (b, s'))) ((H.set i none).new ob') (wput w b o') := by
  obtain ⟨h1, h2⟩ := h.toSim0.move hnf hi hr hn hrel
  exact ⟨⟨h1, h.lay.frm h2⟩, h2⟩
end
end Go.Proofs.YtjbpcddplaakfaaGreatDoor.Det

/-! Operations that read memory. -/
namespace Go.Proofs.YtjbpcddplaakfaaGreatDoor.Det
open Go
set_option linter.unusedVariables false
set_option linter.unusedSimpArgs false
set_option linter.unusedSectionVars false

section
variable {P : Program}
theorem cell_at {w : World} {b : Nat} {arr : Array Value} {el : TypeId} {fr : Nat × Nat} (h : w.heap[b]? = some (.cells arr el fr)) (o : Nat) : w.cell? ⟨b, o, none⟩ = arr[o]? := by
  simp [World.cell?, h]
theorem frozen_at {w : World} {b : Nat} {arr : Array Value} {el : TypeId} {fr : Nat × Nat} (h : w.heap[b]? = some (.cells arr el fr)) (o : Nat) : w.frozen? ⟨b, o, none⟩ = (fr.1 ≤ o && o < fr.2) := by
  simp [World.frozen?, h]
theorem run_load {w : World} {a : Addr} {v : Value} (h : w.cell? a = some v) : (load a).run P w = .ok v w := by
  simp [load, Sem.run, h]
theorem run_getObj {w : World} {r : Nat} {o : Obj} (h : w.heap[r]? = some o) (hn : ∀ c e f, o ≠ .cells c e f) : (getObj r).run P w = .ok o w := by
  cases o <;> first | (simp only [getObj, Sem.run, h]; done) | exact absurd rfl (hn _ _ _)
theorem run_setObj {w : World} {r : Nat} {o o' : Obj} (h : w.heap[r]? = some o) (hn : ∀ c e f, o ≠ .cells c e f) : (setObj r o').run P w = .ok () (wput w r o') := by
  cases o <;> first | (simp only [setObj, Sem.run, h]; rfl) | exact absurd rfl (hn _ _ _)
theorem run_newObj {w : World} (o : Obj) : (newObj o).run P w = .ok w.heap.size (wpush w o) := rfl
theorem addr_add0 (b o n : Nat) : (⟨b, o, none⟩ : Addr).add n = ⟨b, o + n, none⟩ := by
  simp only [Addr.add]; split
  · subst_vars; rfl
  · rfl
theorem loadFrom_sound {ρ : Rho} {w : World} {a : Addr} : ∀ (cs : List AV) (i : Nat) (acc : Array Value), (∀ j x, cs[j]? = some x → ∃ v, w.cell? (a.add (i + j)) = some v ∧ Conc ρ x v) →
    ∃ vs : List Value, (loadCellsFrom a i cs.length acc).run P w = .ok (acc ++ vs.toArray) w ∧ ConcL ρ cs vs
  | [], i, acc, _ => ⟨[], by simp [loadCellsFrom], trivial⟩
  | x :: cs, i, acc, h => by
    obtain ⟨v, hv, hc⟩ := h 0 x rfl
    obtain ⟨vs, hr, hcs⟩ := loadFrom_sound cs (i + 1) (acc.push v) fun j y hy => by
      have := h (j + 1) y (by simpa using hy)
      rwa [show i + 1 + j = i + (j + 1) by omega]
    refine ⟨v :: vs, ?_, hc, hcs⟩
    simp only [List.length_cons, loadCellsFrom, Sem.run_bind, run_load (P := P) (by simpa using hv), Result.andThen_ok, hr]
    simp
theorem loadCells_sound {ρ : Rho} {w : World} {a : Addr} {cs : List AV} {n : Nat} (hn : cs.length = n) (h : ∀ j x, cs[j]? = some x → ∃ v, w.cell? (a.add j) = some v ∧ Conc ρ x v) :
    ∃ vs : Array Value, (loadCells a n).run P w = .ok vs w ∧ ConcL ρ cs vs.toList := by
  obtain ⟨vs, h1, h2⟩ := loadFrom_sound (P := P) (a := a) cs 0 #[] (fun j x hj => by simpa using h j x hj)
  subst hn
  exact ⟨vs.toArray, by rw [loadCells, h1]; simp, by simpa using h2⟩
end

section
variable {tab : Tab} {ρ : Rho} {H : AH} {w : World} (hs : Sim tab ρ H w)
include hs
theorem Sim.cellsE {i : Nat} {c : List AV} {ro : Bool} {el : Option (Nat × Bool)} {b : Nat} {s : Sh} (hi : H.get i = some (.cells c ro el)) (hr : ρ i = some (some (b, s))) :
    ∃ arr e fr, w.heap[b]? = some (.cells arr e fr) ∧ CellsRel ρ c ro arr fr s ∧ ElOk el e s := by
  obtain ⟨o, h1, arr, e, fr, h2, h3, h4⟩ := hs.at_ hi hr
  subst h2
  exact ⟨arr, e, fr, h1, h3, h4⟩
theorem Sim.cells_ {i : Nat} {c : List AV} {ro : Bool} {el : Option (Nat × Bool)} {b : Nat} {s : Sh} (hi : H.get i = some (.cells c ro el)) (hr : ρ i = some (some (b, s))) :
    ∃ arr e fr, w.heap[b]? = some (.cells arr e fr) ∧ CellsRel ρ c ro arr fr s := by
  obtain ⟨arr, e, fr, h1, h2, _⟩ := hs.cellsE hi hr
  exact ⟨arr, e, fr, h1, h2⟩
theorem Sim.live {i : Nat} {ob : AB} (hi : H.get i = some ob) : ∃ b s, ρ i = some (some (b, s)) := by
  obtain ⟨b, s, _, h, _⟩ := hs.obj i ob hi
  exact ⟨b, s, h⟩
theorem Sim.cell_ {i o : Nat} {c : List AV} {ro : Bool} {el : Option (Nat × Bool)} {b : Nat} {s : Sh} {x : AV} (hi : H.get i = some (.cells c ro el)) (hr : ρ i = some (some (b, s))) (hx : c[o]? = some x) :
    ∃ v, w.cell? ⟨b, o + s.s, none⟩ = some v ∧ Conc ρ x v := by
  obtain ⟨arr, el, fr, h1, h2⟩ := hs.cells_ hi hr
  obtain ⟨v, h3, h4⟩ := h2.get o x hx
  exact ⟨v, by rw [cell_at h1]; exact h3, h4⟩
/-- A run of cells, where it lies. -/
theorem Sim.run_ {i o n : Nat} {cs : List AV} {b : Nat} {s : Sh} (hc : cellsAt H (i, o) n = some cs) (hr : ρ i = some (some (b, s))) :
    cs.length = n ∧ ∀ j x, cs[j]? = some x → ∃ v, w.cell? ((⟨b, o + s.s, none⟩ : Addr).add j) = some v ∧ Conc ρ x v := by
  simp only [cellsAt] at hc
  cases hi : H.get i with
  | none => rw [hi] at hc; cases hc
  | some ob =>
    rw [hi] at hc
    cases ob with
    | cells c ro el =>
      obtain ⟨h1, h2⟩ := cond_some hc
      cases h2
      have hle : o + n ≤ c.length := by simpa [Nat.ble_eq] using h1
      refine ⟨by simp; omega, fun j x hj => ?_⟩
      rw [List.getElem?_take, List.getElem?_drop] at hj
      split at hj
      · obtain ⟨v, hv, hcv⟩ := hs.cell_ hi hr hj
        exact ⟨v, by rw [addr_add0, show o + s.s + j = o + j + s.s by omega]; exact hv, hcv⟩
      · cases hj
    | map => cases hc
    | loop => cases hc
theorem cellsAt_live {i o n : Nat} {cs : List AV} (hc : cellsAt H (i, o) n = some cs) : ∃ b s, ρ i = some (some (b, s)) := by
  simp only [cellsAt] at hc
  cases hi : H.get i with
  | none => rw [hi] at hc; cases hc
  | some ob => exact hs.live hi
end

/-! ### Keys -/
theorem bytes_beq (a b : List UInt8) : (ByteArray.mk a.toArray == ByteArray.mk b.toArray) = (a == b) := by
  show (a.toArray == b.toArray) = _
  simp
theorem findKey_sound {ρ : Rho} {k : AV} {k' : Value} (hk : Conc ρ k k') (u : TypeDesc) (ks : Bool) (hks : keyIs ks k = true) (hu : (match u with | .int _ => !ks | .string => ks | _ => false) = true) :
    ∀ (es : List (AV × AV)) (es' : List MapEntry) (i : Nat) (r : Option AV), EntRel ρ es es' → findKey k es = some r →
    ∃ r', Instr.findNow u k' es' i = some r' ∧ (match r, r' with | none, none => True | some x, some (_, y) => Conc ρ x y | _, _ => False)
  | [], [], i, r, _, h => by simp [findKey] at h; subst h; exact ⟨none, rfl, trivial⟩
  | (k1, v1) :: es, e :: es', i, r, hr, h => by
    obtain ⟨hk1, hv1, hrest⟩ := hr
    simp only [findKey] at h
    cases hq : keyEq k k1 with
    | none => rw [hq] at h; cases h
    | some q =>
      rw [hq] at h
      have hnow : Instr.sameNow u k' e.key = some q := by
        cases u <;> try (cases hu; done)
        · have : ks = false := by simpa using hu
          subst this
          cases k <;> simp only [keyIs, Bool.false_eq_true] at hks
          cases k1 <;> simp only [keyEq] at hq <;> try (cases hq; done)
          obtain ⟨e1, e2⟩ := cond_some hq
          cases e2
          have := IntKind.same_eq e1
          subst this
          have a1 := Conc.int_ hk; have a2 := Conc.int_ hk1
          rw [a1, a2]
          simp only [Instr.sameNow, if_true, IntSame_beq]
        · have : ks = true := by simpa using hu
          subst this
          cases k <;> simp only [keyIs, Bool.false_eq_true] at hks
          cases k1 <;> simp only [keyEq] at hq <;> try (cases hq; done)
          cases hq
          have a1 := Conc.str_ hk; have a2 := Conc.str_ hk1
          rw [a1, a2]
          simp only [Instr.sameNow, bytesSame_beq]
          rename_i s'
          rw [bytes_beq]
      cases q with
      | true =>
        simp at h; subst h
        exact ⟨some (i, e.val), by simp [Instr.findNow, hnow], hv1⟩
      | false =>
        obtain ⟨r', g1, g2⟩ := findKey_sound hk u ks hks hu es es' (i + 1) r hrest h
        exact ⟨r', by simp [Instr.findNow, hnow, g1], g2⟩
  | [], _ :: _, _, _, hr, _ => hr.elim
  | _ :: _, [], _, _, hr, _ => hr.elim
end Go.Proofs.YtjbpcddplaakfaaGreatDoor.Det

/-! Operations that read memory, and operations that make a block out of the frame alone. -/
namespace Go.Proofs.YtjbpcddplaakfaaGreatDoor.Det
open Go
set_option linter.unusedVariables false
set_option linter.unusedSimpArgs false
set_option linter.unusedSectionVars false

def keyTy (ks : Bool) (u : TypeDesc) : Bool := match u with | .int _ => !ks | .string => ks | _ => false
theorem run_checkKey' {P : Program} {w : World} {ρ : Rho} {kt : TypeId} {u : TypeDesc} {k : AV} {k' : Value} (hd : P.underlying kt = some u) (hk : Conc ρ k k') {ks : Bool} (hks : keyIs ks k = true) (hu : keyTy ks u = true) (e : Bool) :
    (Instr.checkKey e 10000 kt k').run P w = .ok () w := by
  show (Instr.checkKey e (9999 + 1) kt k').run P w = _
  unfold Instr.checkKey
  simp only [Sem.run_bind, run_underlying hd, Result.andThen]
  cases u <;> simp only [keyTy, Bool.false_eq_true] at hu
  · cases ks <;> simp at hu
    cases k <;> simp [keyIs] at hks
    have := Conc.int_ hk; subst this; rfl
  · cases ks <;> simp at hu
    cases k <;> simp [keyIs] at hks
    have := Conc.str_ hk; subst this; rfl
theorem bytesOf_sound {ρ : Rho} : ∀ {cs : List AV} {l : List UInt8} {vs : List Value}, bytesOf cs = some l → ConcL ρ cs vs → ∃ ns : List Int, vs = ns.map (Value.int .u8) ∧ l = ns.map fun n => UInt8.ofNat n.toNat
  | [], l, [], h, _ => by simp [bytesOf] at h; subst h; exact ⟨[], rfl, rfl⟩
  | c :: cs, l, v :: vs, h, hc => by
    cases c with
    | int k n =>
      cases k <;> try (simp [bytesOf] at h; done)
      cases n with
      | ofNat n =>
        simp only [bytesOf] at h
        cases hr : bytesOf cs with
        | none => rw [hr] at h; cases h
        | some l' =>
          rw [hr] at h; cases h
          obtain ⟨ns, h1, h2⟩ := bytesOf_sound hr hc.2
          have hv := Conc.int_ hc.1
          exact ⟨Int.ofNat n :: ns, by rw [hv, h1]; rfl, by rw [h2]; rfl⟩
      | negSucc n => simp [bytesOf] at h
    | _ => simp [bytesOf] at h
  | [], _, _ :: _, _, hc => hc.elim
  | _ :: _, _, [], _, hc => hc.elim
theorem pushes : ∀ (l : List Int) (s : List UInt8), l.foldl (fun (r : ByteArray) n => r.push (UInt8.ofNat n.toNat)) ⟨s.toArray⟩ = ⟨(s ++ l.map fun n => UInt8.ofNat n.toNat).toArray⟩
  | [], s => by simp
  | n :: l, s => by
    simp only [List.foldl_cons, List.map_cons]
    have : (ByteArray.mk s.toArray).push (UInt8.ofNat n.toNat) = ⟨(s ++ [UInt8.ofNat n.toNat]).toArray⟩ := by
      simp [ByteArray.push]
    rw [this, pushes l]
    simp

theorem run_shape {P : Program} {w : World} {b : Nat} {arr : Array Value} {e : TypeId} {fr : Nat × Nat} (h : w.heap[b]? = some (.cells arr e fr)) : (Go.shape b).run P w = .ok (some (e, arr.size)) w := by
  show Result.ok (w.shape? b) w = _
  simp [World.shape?, h]
theorem run_seenAt {P : Program} {w : World} {b o : Nat} {arr : Array Value} {e : TypeId} {fr : Nat × Nat} (h : w.heap[b]? = some (.cells arr e fr)) : (Conv.seenAt ⟨b, o, none⟩).run P w = .ok ⟨b, o, none⟩ w := by
  simp only [Conv.seenAt, viewAt, Sem.run_bind, run_shape h, Result.andThen_ok]
  rfl
theorem run_cellsIn {P : Program} {w : World} {b : Nat} {arr : Array Value} {e : TypeId} {fr : Nat × Nat} (h : w.heap[b]? = some (.cells arr e fr)) : (cellsIn b).run P w = .ok (some arr.size) w := by
  simp only [cellsIn, Sem.run_bind, run_shape h, Result.andThen_ok]
  rfl
theorem rowAt_self {P : Program} {t : TypeId} {n : Nat} (hc : P.cellsOf t ≠ 0) (hn : 1 ≤ n) : liesAt P P.depth t n 0 t 1 = true := by
  have hd : P.depth = (2 * (P.types.size + Made.depth) + 1) + 1 := rfl
  rw [hd]
  simp [liesAt, rowAt, hc, sameLayout, hn, hd]
theorem cellsOf_ok {P : Program} {t : TypeId} {i : TI} (h : TIOk P t i) : P.cellsOf t = i.size := by
  obtain ⟨_, _, inf, z, h1, h2, _⟩ := h
  simp [Program.cellsOf, h1, h2]
section
variable {P : Program} {tab : Tab} (htab : TabOK P tab) {ρ : Rho} {f : AF} {a : Act} (hf : FRel ρ f a.tmps) {H : AH} {w : World} (hs : Sim tab ρ H w) {o : Oper}
include htab hf hs
theorem read_load1 {x : AX} {v : AV} (hok : opOK tab o (.load1 x) = true) (hp : readOp (.load1 x) f H = some v) : ∃ y, (execOp a.eval o).run P w = .ok (.value y) w ∧ Conc ρ v y := by
  cases hop : o.op <;> simp only [opOK, hop, Bool.false_eq_true] at hok
  rename_i t y
  cases ht : tab.get t with
  | none => rw [ht] at hok; cases hok
  | some i =>
    rw [ht] at hok
    simp only [Bool.and_eq_true, Bool.not_eq_true'] at hok
    have hx := (xOK_rel hok.2).ev hf
    have hti := htab _ _ ht
    simp only [readOp] at hp
    cases hfx : f.ev x with
    | ptr p =>
      rw [hfx] at hp hx
      rcases p with _ | ⟨pi, po⟩
      · cases hp
      · simp only at hp
        cases hi : H.get pi with
        | none => rw [hi] at hp; cases hp
        | some ob =>
          rw [hi] at hp
          cases ob with
          | cells c ro =>
            obtain ⟨b, s, hr⟩ := hs.live hi
            obtain ⟨m, hm, ad, hv, ha⟩ := hx
            rw [hr] at hm; cases hm
            obtain ⟨y', h1, h2⟩ := hs.cell_ hi hr hp
            have had := ha b s rfl
            refine ⟨y', ?_, h2⟩
            simp only [execOp, hop, Instr.loadAt, Sem.run_bind, hv, Instr.sureAddr, Sem.run_pure, Result.andThen_ok, loadVar, hti.run_isAgg w, hok.1, Bool.false_eq_true, if_false]
            rw [run_load (P := P) (by rw [had]; exact h1)]
            rfl
          | map => cases hp
          | loop => cases hp
    | _ => rw [hfx] at hp; cases hp
theorem read_loadN {n : Nat} {x : AX} {v : AV} (hok : opOK tab o (.loadN n x) = true) (hp : readOp (.loadN n x) f H = some v) : ∃ y, (execOp a.eval o).run P w = .ok (.value y) w ∧ Conc ρ v y := by
  cases hop : o.op <;> simp only [opOK, hop, Bool.false_eq_true] at hok
  rename_i t y
  cases ht : tab.get t with
  | none => rw [ht] at hok; cases hok
  | some i =>
    rw [ht] at hok
    simp only [Bool.and_eq_true] at hok
    obtain ⟨⟨hagg, hn0⟩, hxo⟩ := hok
    have hn : n = i.size := by simpa [Nat.beq_eq] using hn0
    have hx := (xOK_rel hxo).ev hf
    have hti := htab _ _ ht
    simp only [readOp] at hp
    cases hfx : f.ev x with
    | ptr p =>
      rw [hfx] at hp hx
      rcases p with _ | ⟨pi, po⟩
      · cases hp
      · simp only at hp
        cases hc : cellsAt H (pi, po) n with
        | none => rw [hc] at hp; cases hp
        | some cs =>
          rw [hc] at hp; cases hp
          obtain ⟨b, s, hr⟩ := cellsAt_live hs hc
          obtain ⟨m, hm, ad, hv, ha⟩ := hx
          rw [hr] at hm; cases hm
          obtain ⟨hl, hcs⟩ := hs.run_ hc hr
          have had := ha b s rfl
          obtain ⟨vs, h1, h2⟩ := loadCells_sound (P := P) hl hcs
          refine ⟨.agg vs, ?_, vs, rfl, h2⟩
          simp only [execOp, hop, Instr.loadAt, Sem.run_bind, hv, Instr.sureAddr, Sem.run_pure, Result.andThen_ok, loadVar, hti.run_isAgg w, hagg, if_true, hti.run_sizeOf w]
          rw [had, ← hn, h1]
          rfl
    | _ => rw [hfx] at hp; cases hp
theorem read_look {z : AV} {ok ks : Bool} {m k : AX} {v : AV} (hok : opOK tab o (.look z ok ks m k) = true) (hp : readOp (.look z ok ks m k) f H = some v) : ∃ y, (execOp a.eval o).run P w = .ok (.value y) w ∧ Conc ρ v y := by
  cases hop : o.op <;> simp only [opOK, hop, Bool.false_eq_true] at hok
  rename_i t m' k' ok'
  cases ht : tab.get t with
  | none => rw [ht] at hok; cases hok
  | some i =>
    rw [ht] at hok
    simp only at hok
    have hti := htab _ _ ht
    cases hiu : i.u <;> rw [hiu] at hok <;> simp only [Bool.false_eq_true] at hok
    rename_i kt e
    cases hkt : tab.get kt with
    | none => rw [hkt] at hok; cases hok
    | some ik =>
      cases he : tab.get e with
      | none => rw [hkt, he] at hok; cases hok
      | some ie =>
        rw [hkt, he] at hok
        simp only [Bool.and_eq_true] at hok
        obtain ⟨⟨⟨⟨hu, hz⟩, hokk⟩, hm⟩, hk⟩ := hok
        have hokk' : ok = ok' := by simpa using hokk
        subst hokk'
        have hmv := (xOK_rel hm).ev hf
        have hkv := (xOK_rel hk).ev hf
        have hkd := (htab _ _ hkt).1
        obtain ⟨zv, hz1, _, _, hz4⟩ := (htab _ _ he).run_zeroValue w
        have hzc : Conc ρ z zv := by rw [AV.same_eq _ _ hz]; exact hz4 ρ
        simp only [readOp] at hp
        cases hfm : f.ev m with
        | map r =>
          rw [hfm] at hp hmv
          cases r with
          | none => cases hp
          | some r =>
            simp only at hp
            cases hi : H.get r with
            | none => rw [hi] at hp; cases hp
            | some ob =>
              rw [hi] at hp
              cases ob with
              | map es =>
                obtain ⟨h1, h2⟩ := cond_some hp
                obtain ⟨b, s, hr⟩ := hs.live hi
                obtain ⟨mm, hmm, rr, hv, hrr⟩ := hmv.map_live hr
                rw [hr] at hmm; cases hmm
                obtain ⟨obj, hobj, es', clock, hobj', hent⟩ := hs.at_ hi hr
                subst hobj'
                cases hfk : findKey (f.ev k) es with
                | none => rw [hfk] at h2; cases h2
                | some q =>
                  rw [hfk] at h2
                  obtain ⟨r', g1, g2⟩ := findKey_sound hkv ik.u ks h1 hu es es'.toList 0 q hent hfk
                  have hrun : ∀ (y : Value) (found : Bool), (match r' with | some (_, v) => (v, true) | none => (zv, false)) = (y, found) →
                      (execOp a.eval o).run P w = .ok (.value (if ok then .tuple #[y, .bool found] else y)) w := by
                    intro y found hyf
                    simp only [execOp, hop, Instr.lookup, Sem.run_bind, hti.run_underlying w, hiu, Result.andThen_ok, hv, hrr b s rfl, MapKept.run_getObj_map hobj, Sem.run_pure,
                      run_checkKey' (P := P) (w := w) hkd hkv h1 hu, MapKept.run_findKey (P := P) (w := w) hkd g1]
                    cases r' with
                    | none => cases hyf; simp only [Sem.run_bind, hz1, Result.andThen_ok, Sem.run_pure]
                    | some p => obtain ⟨pi, pv⟩ := p; cases hyf; simp only [Sem.run_bind, Sem.run_pure, Result.andThen_ok]
                  cases q with
                  | none =>
                    cases r' with
                    | some _ => exact g2.elim
                    | none =>
                      simp only at h2; cases h2
                      refine ⟨_, hrun _ _ rfl, ?_⟩
                      cases ok
                      · exact hzc
                      · exact ⟨_, rfl, hzc, rfl, trivial⟩
                  | some x =>
                    cases r' with
                    | none => exact g2.elim
                    | some p =>
                      obtain ⟨pi, pv⟩ := p
                      simp only at h2; cases h2
                      refine ⟨_, hrun _ _ rfl, ?_⟩
                      cases ok
                      · exact g2
                      · exact ⟨_, rfl, g2, rfl, trivial⟩
              | cells => cases hp
              | loop => cases hp
        | _ => rw [hfm] at hp; cases hp
theorem read_lenMap {x : AX} {v : AV} (hok : opOK tab o (.len .map x) = true) (hp : readOp (.len .map x) f H = some v) : ∃ y, (execOp a.eval o).run P w = .ok (.value y) w ∧ Conc ρ v y := by
  simp only [opOK] at hok
  split at hok
  · rename_i c hop
    split at hok
    · rename_i y t hcal hargs hats
      obtain ⟨i, _, hi, hu⟩ := tab_some htab hf hok
      simp only [Bool.and_eq_true] at hu
      have hx := (xOK_rel hu.1).ev hf
      have harg : c.args = #[y] := by rw [← Array.toList_inj]; exact hargs
      have hat : c.argTypes = #[t] := by rw [← Array.toList_inj]; exact hats
      have hk := hu.2
      cases hiu : i.u <;> rw [hiu] at hk <;> simp only [Bool.false_eq_true] at hk
      simp only [readOp] at hp
      cases hfx : f.ev x with
      | map r =>
        rw [hfx] at hp hx
        cases r with
        | none => cases hp
        | some r =>
          simp only at hp
          cases hgi : H.get r with
          | none => rw [hgi] at hp; cases hp
          | some ob =>
            rw [hgi] at hp
            cases ob with
            | map es =>
              cases hp
              obtain ⟨b, s, hr⟩ := hs.live hgi
              obtain ⟨mm, hmm, rr, hv, hrr⟩ := hx.map_live hr
              rw [hr] at hmm; cases hmm
              obtain ⟨obj, hobj, es', clock, hobj', hent⟩ := hs.at_ hgi hr
              subst hobj'
              have hl : es'.size = es.length := by
                have : ∀ (a : List (AV × AV)) (b : List MapEntry), EntRel ρ a b → b.length = a.length := by
                  intro a; induction a with
                  | nil => intro b h; cases b with | nil => rfl | cons => exact h.elim
                  | cons p ps ih => intro b h; cases b with | nil => exact h.elim | cons q qs => simp [ih qs h.2.2]
                rw [← Array.length_toList]; exact this _ _ hent
              refine ⟨goInt es.length, ?_, rfl⟩
              have hvv := hrr b s rfl
              subst hvv
              simp only [execOp, hop, resolve, hcal, Sem.run_bind, Sem.run_pure, Result.andThen_ok, invoke, builtin, harg, hat]
              simp [Builtin.len_, hi.run_underlying w, hiu, hv, MapKept.run_getObj_map hobj, hl]
            | cells => cases hp
            | loop => cases hp
      | _ => rw [hfx] at hp; cases hp
    · rename_i y t hcal hargs hats
      obtain ⟨i, _, hi, hu⟩ := tab_some htab hf hok
      simp at hu
    · cases hok
  · cases hok
theorem read_toU {x : AX} {v : AV} (hok : opOK tab o (.conv .toU x) = true) (hp : readOp (.conv .toU x) f H = some v) : ∃ y, (execOp a.eval o).run P w = .ok (.value y) w ∧ Conc ρ v y := by
  simp only [opOK] at hok
  split at hok
  · rename_i s d x' hop
    cases hsd : tab.get s with
    | none => rw [hsd] at hok; cases hok
    | some i =>
      cases hd : tab.get d with
      | none => rw [hsd, hd] at hok; cases hok
      | some j =>
        rw [hsd, hd] at hok
        simp only [Bool.and_eq_true] at hok
        have hx := (xOK_rel hok.1).ev hf
        have his := htab _ _ hsd; have hid := htab _ _ hd
        have hk := hok.2
        cases hu : i.u <;> rw [hu] at hk <;> (try (simp only [Bool.false_eq_true] at hk; done)) <;>
        cases hj : j.u <;> rw [hj] at hk <;> (try (simp only [Bool.false_eq_true] at hk; done))
        rename_i et
        simp only at hk
        cases hte : tab.get et with
        | none => rw [hte] at hk; cases hk
        | some l =>
          rw [hte] at hk
          have hl : 0 < l.size := by simpa [Nat.blt_eq] using hk
          have hil := htab _ _ hte
          simp only [readOp] at hp
          cases hfx : f.ev x with
          | ptr p =>
            rw [hfx] at hp hx
            rcases p with _ | ⟨pi, po⟩
            · cases hp
              have hv : a.eval x' = .pointer none := hx
              exact ⟨.pointer none, by simp only [execOp, hop, hv, convert, Sem.run_bind, his.run_underlying w, hid.run_underlying w, hu, hj, Conv.unsafePointer, Result.andThen_ok, Sem.run_pure], rfl⟩
            · simp only at hp
              cases hi : H.get pi with
              | none => rw [hi] at hp; cases hp
              | some ob =>
                rw [hi] at hp
                cases ob with
                | cells c ro el =>
                  obtain ⟨hb, hp⟩ := cond_some hp
                  cases hp
                  have hlt : po < c.length := by simpa [Nat.blt_eq] using hb
                  obtain ⟨b, s', hr⟩ := hs.live hi
                  have hx' := hx
                  obtain ⟨m, hm, ad, hv, had⟩ := hx
                  rw [hr] at hm; cases hm
                  have := had b s' rfl
                  subst this
                  obtain ⟨arr, e, fr, h1, h2⟩ := hs.cells_ hi hr
                  have hge : ¬ (arr.size ≤ po + s'.s) := by have := h2.size; have := h2.fit; omega
                  refine ⟨_, ?_, hx'⟩
                  rw [hv]
                  simp only [execOp, hop, hv, convert, Sem.run_bind, his.run_underlying w, hid.run_underlying w, hu, hj, Conv.unsafePointer, Result.andThen_ok, Sem.run_pure, run_seenAt h1, run_cellsIn h1, hil.run_sizeOf w]
                  simp [hge, Nat.ne_of_gt hl]
                | map => cases hp
                | loop => cases hp
          | _ => rw [hfx] at hp; cases hp
  · cases hok
theorem read_ofU {u sz : Nat} {x : AX} {v : AV} (hok : opOK tab o (.conv (.ofU u sz) x) = true) (hp : readOp (.conv (.ofU u sz) x) f H = some v) : ∃ y, (execOp a.eval o).run P w = .ok (.value y) w ∧ Conc ρ v y := by
  simp only [opOK] at hok
  split at hok
  · rename_i s d x' hop
    cases hsd : tab.get s with
    | none => rw [hsd] at hok; cases hok
    | some i =>
      cases hd : tab.get d with
      | none => rw [hsd, hd] at hok; cases hok
      | some j =>
        rw [hsd, hd] at hok
        simp only [Bool.and_eq_true] at hok
        have hx := (xOK_rel hok.1).ev hf
        have his := htab _ _ hsd; have hid := htab _ _ hd
        have hk := hok.2
        cases hu : i.u <;> rw [hu] at hk <;> (try (simp only [Bool.false_eq_true] at hk; done)) <;>
        cases hj : j.u <;> rw [hj] at hk <;> (try (simp only [Bool.false_eq_true] at hk; done))
        rename_i et
        simp only [Bool.and_eq_true] at hk
        have heu : et = u := Nat.eq_of_beq_eq_true hk.1
        subst heu
        cases hte : tab.get et with
        | none => rw [hte] at hk; cases hk.2
        | some l =>
          rw [hte] at hk
          have hk2 := hk.2
          simp only [Bool.and_eq_true] at hk2
          have hl : 0 < l.size := by simpa [Nat.blt_eq] using hk2.1
          have hsz : l.size = sz := Nat.eq_of_beq_eq_true hk2.2
          have hil := htab _ _ hte
          simp only [readOp] at hp
          cases hfx : f.ev x with
          | ptr p =>
            rw [hfx] at hp hx
            rcases p with _ | ⟨pi, po⟩
            · cases hp
              have hv : a.eval x' = .pointer none := hx
              exact ⟨.pointer none, by simp only [execOp, hop, hv, convert, Sem.run_bind, his.run_underlying w, hid.run_underlying w, hu, hj, Conv.unsafePointer, Result.andThen_ok, Sem.run_pure], rfl⟩
            · simp only at hp
              cases hi : H.get pi with
              | none => rw [hi] at hp; cases hp
              | some ob =>
                rw [hi] at hp
                cases ob with
                | cells c ro el =>
                  rcases el with _ | ⟨t0, z⟩
                  · cases hp
                  · cases z with
                    | false => cases hp
                    | true =>
                      simp only at hp
                      obtain ⟨hb, hp⟩ := cond_some hp
                      cases hp
                      simp only [Bool.and_eq_true] at hb
                      have hpo : po = 0 := Nat.eq_of_beq_eq_true hb.1.1
                      have htt : t0 = et := Nat.eq_of_beq_eq_true hb.1.2
                      have hlen : sz ≤ c.length := by simpa [Nat.ble_eq] using hb.2
                      subst hpo htt
                      obtain ⟨b, s', hr⟩ := hs.live hi
                      have hx' := hx
                      obtain ⟨m, hm, ad, hv, had⟩ := hx
                      rw [hr] at hm; cases hm
                      have := had b s' rfl
                      subst this
                      obtain ⟨arr, e, fr, h1, h2, h3⟩ := hs.cellsE hi hr
                      obtain ⟨he, hs0⟩ := h3 _ _ rfl
                      have hs0 := hs0 rfl
                      subst he
                      have hcs : P.cellsOf e = l.size := cellsOf_ok hil
                      have hvar : (variablesAt ⟨b, 0 + s'.s, none⟩ e 1).run P w = .ok true w := by
                        have hpr : (program : Sem Program).run P w = .ok P w := rfl
                        simp only [variablesAt, Sem.run_bind, hpr, Result.andThen_ok, run_shape h1, Sem.run_pure, hs0]
                        rw [rowAt_self (by omega) (by rw [hcs]; have := h2.size; have := h2.fit; exact (Nat.le_div_iff_mul_le hl).2 (by omega))]
                      refine ⟨_, ?_, hx'⟩
                      rw [hv]
                      simp only [execOp, hop, hv, convert, Sem.run_bind, his.run_underlying w, hid.run_underlying w, hu, hj, Conv.unsafePointer, Result.andThen_ok, Sem.run_pure, run_seenAt h1, hil.run_sizeOf w, hvar]
                      simp
                | map => cases hp
                | loop => cases hp
          | _ => rw [hfx] at hp; cases hp
  · cases hok
theorem read_peq {neg : Bool} {x y : AX} {v : AV} (hok : opOK tab o (.peq neg x y) = true) (hp : readOp (.peq neg x y) f H = some v) : ∃ z, (execOp a.eval o).run P w = .ok (.value z) w ∧ Conc ρ v z := by
  simp only [opOK] at hok
  split at hok
  · rename_i op t x' y' yt hop
    cases ht : tab.get t with
    | none => rw [ht] at hok; cases hok
    | some i =>
      rw [ht] at hok
      simp only [Bool.and_eq_true] at hok
      have hx := (xOK_rel hok.1.2).ev hf
      have hy := (xOK_rel hok.2).ev hf
      have hti := htab _ _ ht
      have hpt := hok.1.1.2
      cases hu : i.u <;> rw [hu] at hpt <;> simp only [Bool.false_eq_true] at hpt
      rename_i et
      obtain ⟨l, hl⟩ := Option.isSome_iff_exists.1 hpt
      have hil := htab _ _ hl
      have hut := hu ▸ hti.1
      simp only [readOp] at hp
      -- what the machine compares
      have key : ∀ (p q : Option Addr) (r : Bool), a.eval x' = .pointer p → a.eval y' = .pointer q → (Op.equal t (.pointer p) (.pointer q)).run P w = .ok r w → v = .bool (cond neg (!r) r) → ∃ z, (execOp a.eval o).run P w = .ok (.value z) w ∧ Conc ρ v z := by
        intro p q r hpx hqy hr hv
        have hg : (eqGuard op t x' y' (.pointer p) (.pointer q)).run P w = .ok () w := eqGuard_ok w op t x' y' _ _ (fun _ h => by cases h) (fun h => by cases h)
        subst hv
        have hop' := hok.1.1.1
        cases op <;> simp only [Bool.false_eq_true] at hop'
        · have : neg = false := by simpa using hop'
          subst this
          exact ⟨.bool r, by simp only [execOp, hop, hpx, hqy, Sem.run_bind, hg, binOp, hr, Result.andThen_ok, Sem.run_pure], rfl⟩
        · have : neg = true := by simpa using hop'
          subst this
          exact ⟨.bool (!r), by simp only [execOp, hop, hpx, hqy, Sem.run_bind, hg, binOp, hr, Result.andThen_ok, Sem.run_pure], rfl⟩
      cases hfx : f.ev x with
      | ptr p =>
        cases hfy : f.ev y with
        | ptr q =>
          rw [hfx, hfy] at hp
          rw [hfx] at hx; rw [hfy] at hy
          have hpx : ∃ p', a.eval x' = .pointer p' ∧ p'.isSome = p.isSome := by
            rcases p with _ | ⟨pi, po⟩
            · exact ⟨none, hx, rfl⟩
            · obtain ⟨m, _, a', h1, _⟩ := hx; exact ⟨some a', h1, rfl⟩
          have hqy : ∃ q', a.eval y' = .pointer q' ∧ q'.isSome = q.isSome := by
            rcases q with _ | ⟨pi, po⟩
            · exact ⟨none, hy, rfl⟩
            · obtain ⟨m, _, a', h1, _⟩ := hy; exact ⟨some a', h1, rfl⟩
          obtain ⟨p', hp', hps⟩ := hpx
          obtain ⟨q', hq', hqs⟩ := hqy
          rcases p with _ | ⟨pi, po⟩
          · cases hp
            refine key p' q' q.isNone hp' hq' ?_ (by cases neg <;> cases q <;> rfl)
            have hpn : p' = none := by cases p' with
              | none => rfl
              | some _ => cases hps
            subst hpn
            rw [equal_eq, eqIn_ptr (P := P) w hut 9999 none q' (.inl rfl)]
            cases q' <;> cases q <;> first | rfl | cases hqs
          · rcases q with _ | ⟨qi, qo⟩
            · cases hp
              refine key p' q' false hp' hq' ?_ (by cases neg <;> rfl)
              have hqn : q' = none := by cases q' with
                | none => rfl
                | some _ => cases hqs
              subst hqn
              rw [equal_eq, eqIn_ptr (P := P) w hut 9999 p' none (.inr rfl)]
              cases p' <;> first | rfl | cases hps
            · simp only at hp
              cases hi : H.get pi with
              | none => rw [hi] at hp; cases hp
              | some ob =>
                rw [hi] at hp
                cases ob with
                | cells c ro el =>
                  obtain ⟨hb, hp⟩ := cond_some hp
                  cases hp
                  have he := optSame_eq hb
                  cases he
                  obtain ⟨b, s', hr⟩ := hs.live hi
                  obtain ⟨m, hm, ad, hv, had⟩ := hx
                  obtain ⟨m2, hm2, ad2, hv2, had2⟩ := hy
                  rw [hr] at hm hm2; cases hm; cases hm2
                  have h1 := had b s' rfl
                  have h2 := had2 b s' rfl
                  subst h1 h2
                  refine key _ _ true hv hv2 ?_ (by cases neg <;> rfl)
                  have hpr : ∀ D, (Op.equalIn (D + 1) t (.pointer (some ⟨b, po + s'.s, none⟩)) (.pointer (some ⟨b, po + s'.s, none⟩))).run P w = .ok true w := by
                    intro D
                    simp only [Op.equalIn, Sem.run_bind, run_underlying hut, Result.andThen_ok, hil.run_sizeOf w]
                    by_cases h0 : l.size = 0
                    · simp [h0]
                    · simp [h0, sameAddr]
                  exact hpr 9999
                | map => cases hp
                | loop => cases hp
        | _ => rw [hfx, hfy] at hp; rcases p with _ | p <;> cases hp
      | _ => rw [hfx] at hp; cases hp
  · cases hok
theorem read_bytes {x : AX} {v : AV} (hok : opOK tab o (.conv .bytes x) = true) (hp : readOp (.conv .bytes x) f H = some v) : ∃ y, (execOp a.eval o).run P w = .ok (.value y) w ∧ Conc ρ v y := by
  simp only [opOK] at hok
  split at hok
  · rename_i s d x' hop
    cases hss : tab.get s with
    | none => rw [hss] at hok; cases hok
    | some i =>
      cases hd : tab.get d with
      | none => rw [hss, hd] at hok; cases hok
      | some j =>
        rw [hss, hd] at hok
        simp only [Bool.and_eq_true] at hok
        have hx := (xOK_rel hok.1).ev hf
        have his := htab _ _ hss; have hid := htab _ _ hd
        have hk := hok.2
        cases hu : i.u <;> rw [hu] at hk <;> (try (simp only [Bool.false_eq_true] at hk; done))
        cases hj : j.u <;> rw [hj] at hk <;> (try (simp only [Bool.false_eq_true] at hk; done))
        rename_i e
        cases he : tab.get e with
        | none => simp [he] at hk
        | some l =>
          simp only [he] at hk
          have hul : P.underlying e = some (.int .u8) := by
            rw [(htab _ _ he).1]
            cases hlu : l.u <;> rw [hlu] at hk <;> (try (cases hk; done))
            rename_i kk
            cases kk <;> (try (cases hk; done))
            rfl
          have hui : P.underlying s = some (.slice e) := by rw [his.1, hu]
          have huj : P.underlying d = some .string := by rw [hid.1, hj]
          simp only [readOp] at hp
          cases hfx : f.ev x with
          | slice p n cap ex =>
            rw [hfx] at hp hx
            rcases p with _ | ⟨pi, po⟩
            · cases hp
              obtain ⟨h1, h2, h3⟩ := hx
              refine ⟨.string .empty, ?_, rfl⟩
              simp only [execOp, hop, Sem.run_bind, h1, run_convert_bytes_string w s d e none 0 0 hui hul huj, Conv.bytesToString, Sem.run_pure, Result.andThen_ok]
            · simp only at hp
              cases hc : cellsAt H (pi, po) n with
              | none => rw [hc] at hp; cases hp
              | some cs =>
                rw [hc] at hp
                simp only at hp
                cases hb : bytesOf cs with
                | none => rw [hb] at hp; cases hp
                | some bs =>
                  rw [hb] at hp; cases hp
                  obtain ⟨b, sh, hr⟩ := cellsAt_live hs hc
                  obtain ⟨m, hm, ad, c', hv, hl1, hl2, hl3, ha⟩ := hx
                  rw [hr] at hm; cases hm
                  obtain ⟨hl, hcs⟩ := hs.run_ hc hr
                  have hload : ∃ vs : Array Value, (loadCells ad n).run P w = .ok vs w ∧ ConcL ρ cs vs.toList := by
                    by_cases hc0 : 0 < c'
                    · rw [(ha b sh rfl hc0).1]; exact loadCells_sound (P := P) hl hcs
                    · have hn0 : n = 0 := by omega
                      subst hn0
                      have : cs = [] := List.length_eq_zero_iff.1 hl
                      subst this
                      exact ⟨#[], rfl, trivial⟩
                  obtain ⟨vs, h1, h2⟩ := hload
                  obtain ⟨ns, h3, h4⟩ := bytesOf_sound hb h2
                  have h1' : (loadCells ad n).run P w = .ok (ns.map (Value.int .u8)).toArray w := by rw [h1, ← h3]
                  refine ⟨.string ⟨bs.toArray⟩, ?_, rfl⟩
                  simp only [execOp, hop, Sem.run_bind, hv, run_convert_bytes_string w s d e _ _ _ hui hul huj, run_bytesToString w ad n c' ns h1', Sem.run_pure, Result.andThen_ok]
                  have := pushes ns []
                  simp only [List.nil_append] at this
                  rw [show ByteArray.empty = (⟨([] : List UInt8).toArray⟩ : ByteArray) from rfl, this, h4]
          | _ => rw [hfx] at hp; cases hp
  · cases hok
theorem read_sound {op : AOp} {v : AV} (hok : opOK tab o op = true) (hp : readOp op f H = some v) : ∃ y, (execOp a.eval o).run P w = .ok (.value y) w ∧ Conc ρ v y := by
  cases op with
  | load1 x => exact read_load1 htab hf hs hok hp
  | loadN n x => exact read_loadN htab hf hs hok hp
  | look z ok ks m k => exact read_look htab hf hs hok hp
  | len k x => cases k with
    | map => exact read_lenMap htab hf hs hok hp
    | _ => simp [readOp] at hp
  | conv k x => cases k with
    | bytes => exact read_bytes htab hf hs hok hp
    | toU => exact read_toU htab hf hs hok hp
    | ofU u sz => exact read_ofU htab hf hs hok hp
    | _ => simp [readOp] at hp
  | peq neg x y => exact read_peq htab hf hs hok hp
  | _ => simp [readOp] at hp
end
end Go.Proofs.YtjbpcddplaakfaaGreatDoor.Det

/-! Operations that make a block out of the frame alone; the stores. -/
namespace Go.Proofs.YtjbpcddplaakfaaGreatDoor.Det
open Go
set_option linter.unusedVariables false
set_option linter.unusedSimpArgs false
set_option linter.unusedSectionVars false

/-! ### Cells that repeat -/
theorem rep_length (z : List AV) : ∀ n, (rep z n).length = n * z.length
  | 0 => by simp [rep]
  | n + 1 => by simp [rep, rep_length z n, Nat.add_mul, Nat.add_comm]
theorem rep_get (z : List AV) (hz : 0 < z.length) : ∀ (n i : Nat), i < n * z.length → (rep z n)[i]? = z[i % z.length]?
  | 0, i, h => by simp at h
  | n + 1, i, h => by
    simp only [rep]
    by_cases hi : i < z.length
    · rw [List.getElem?_append_left hi, Nat.mod_eq_of_lt hi]
    · have hi' : z.length ≤ i := by omega
      rw [List.getElem?_append_right hi', rep_get z hz n (i - z.length) (by rw [Nat.add_mul] at h; omega)]
      rw [← Nat.mod_eq_sub_mod hi']
theorem rep_sound {ρ : Rho} {z : List AV} {zs : Array Value} (hz : ConcL ρ z zs.toList) (h0 : 0 < z.length) (n m : Nat) (hm : m = n * zs.size) : ConcL ρ (rep z n) ((Array.range m).map fun i => zs[i % zs.size]!).toList := by
  have hl : zs.size = z.length := by rw [← Array.length_toList]; exact hz.length
  subst hm
  refine ConcL.of_get (by simp [rep_length, hl]) fun i x hx => ?_
  have hi : i < n * z.length := by
    have := (List.getElem?_eq_some_iff.1 hx).1
    rwa [rep_length] at this
  rw [rep_get z h0 n i hi] at hx
  obtain ⟨y, hy, hc⟩ := hz.get _ x hx
  refine ⟨y, ?_, hc⟩
  have hmod : i % z.length < zs.size := by rw [hl]; exact Nat.mod_lt _ h0
  have hy' : zs[i % zs.size]! = y := by
    rw [getElem!_pos zs _ (by rw [hl]; rw [hl] at hmod; exact hmod)]
    rw [Array.getElem?_toList] at hy
    have := Array.getElem?_eq_some_iff.1 hy
    obtain ⟨h1, h2⟩ := this
    simp only [hl]; exact h2
  simp [hl, hi]
  rw [hl] at hy'; exact hy'
theorem zeroCells_sound {ρ : Rho} {z : List AV} {zs : Array Value} (hz : ConcL ρ z zs.toList) (h0 : 0 < z.length) (n : Nat) : ConcL ρ (rep z n) (Builtin.zeroCells zs n).toList :=
  rep_sound hz h0 n _ rfl

theorem wrap_small {n : Nat} (h : n ≤ 1099511627776) : IntKind.i64.wrap (n : Int) = n := by
  have h1 : IntKind.i64.bits = 64 := rfl
  have h2 : IntKind.i64.signed = true := rfl
  simp only [IntKind.wrap, h1, h2, Bool.true_and, decide_eq_true_eq]
  have : (n : Int) % 2 ^ 64 = n := by omega
  rw [this, if_neg (by omega)]
theorem run_askRoom {P : Program} (n : Nat) (w : World) : (askRoom n).run P w = .ok () w := by
  unfold askRoom; split <;> rfl
/-! ### A new block -/
theorem cellsRel_new {ρ : Rho} {c : List AV} {arr : Array Value} (h : ConcL ρ c arr.toList) : CellsRel ρ c false arr (0, 0) ⟨0, arr.size⟩ := by
  have hl : arr.size = c.length := by rw [← Array.length_toList]; exact h.length
  refine ⟨rfl, by simp [hl], fun i x hi => ?_, fun _ off _ hh => by simp at hh⟩
  obtain ⟨y, hy, hc⟩ := h.get i x hi
  exact ⟨y, by simpa using hy, hc⟩
/-- What an operation that acts gives: a value, a world, a renaming. -/
def Gives (P : Program) (tab : Tab) (ρ : Rho) (H : AH) (w : World) (s : Sem Next) (v : AV) (H' : AH) : Prop :=
  ∃ x y w' ρ', s.run P w = .ok x w' ∧ (x = .value y ∨ (x = .skip ∧ y = undef)) ∧ Conc ρ' v y ∧ Sim tab ρ' H' w' ∧ Frm ρ H w ρ' H' w'
theorem Gives.same {P : Program} {tab : Tab} {ρ : Rho} {H : AH} {w : World} {s : Sem Next} {v : AV} {y : Value} (hs : Sim tab ρ H w) (h : s.run P w = .ok (.value y) w) (hc : Conc ρ v y) : Gives P tab ρ H w s v H :=
  ⟨_, y, w, ρ, h, .inl rfl, hc, hs, .refl _ _ _⟩

section
variable {P : Program} {tab : Tab} (htab : TabOK P tab) {ρ : Rho} {f : AF} {a : Act} (hf : FRel ρ f a.tmps) {H : AH} {w : World} (hs : Sim tab ρ H w) (hn : ρ H.next = none) {o : Oper}
include htab hf hs hn
theorem gives_newE {c : List AV} {arr : Array Value} {el : TypeId} {ael : Option (Nat × Bool)} {s : Sem Next} {v : AV} {y : Value} (hel : ElOk ael el ⟨0, arr.size⟩) (hc : ConcL ρ c arr.toList) (hr : s.run P w = .ok (.value y) (wpush w (.cells arr el)))
    (hv : Conc (ρ.put H.next (some (w.heap.size, ⟨0, arr.size⟩))) v y) : Gives P tab ρ H w s v (H.new (.cells c false ael)) := by
  have hrel : AB.Rel tab ρ (.cells c false ael) (.cells arr el) ⟨0, arr.size⟩ := ⟨arr, el, (0, 0), rfl, cellsRel_new hc, hel⟩
  obtain ⟨h1, h2⟩ := hs.new hn hrel
  exact ⟨_, y, _, _, hr, .inl rfl, hv, h1, h2⟩
theorem gives_new {c : List AV} {arr : Array Value} {el : TypeId} {s : Sem Next} {v : AV} {y : Value} (hc : ConcL ρ c arr.toList) (hr : s.run P w = .ok (.value y) (wpush w (.cells arr el)))
    (hv : Conc (ρ.put H.next (some (w.heap.size, ⟨0, arr.size⟩))) v y) : Gives P tab ρ H w s v (H.new (.cells c false none)) :=
  gives_newE htab hf hs hn .none_ hc hr hv
theorem alloc_sound {op : AOp} {v : AV} {ob : AB} (hok : opOK tab o op = true) (hp : allocOp op f H.next = some (v, ob)) : Gives P tab ρ H w (execOp a.eval o) v (H.new ob) := by
  have hext : ∀ m, Ext ρ (ρ.put H.next m) := fun m => Ext.put_fresh hn m
  have newPtr : ∀ (R : Nat), Conc (ρ.put H.next (some (w.heap.size, ⟨0, R⟩))) (.ptr (some (H.next, 0))) (.pointer (some ⟨w.heap.size, 0, none⟩)) := fun R =>
    ⟨_, Rho.put_same _ _ _, _, rfl, fun b s hb => by cases hb; rfl⟩
  have newSlice : ∀ (R l c : Nat), l ≤ c → Conc (ρ.put H.next (some (w.heap.size, ⟨0, R⟩))) (.slice (some (H.next, 0)) l c 0) (.slice (some ⟨w.heap.size, 0, none⟩) l c) := fun R l c hlc =>
    ⟨_, Rho.put_same _ _ _, _, c, rfl, hlc, Nat.le_refl _, fun _ => rfl, fun b s hb _ => by cases hb; exact ⟨rfl, fun h => by omega⟩⟩
  cases op <;> try (simp [allocOp] at hp; done)
  case alloc t' z =>
    cases hop : o.op <;> simp only [opOK, hop, Bool.false_eq_true] at hok
    rename_i t
    cases ht : tab.get t with
    | none => rw [ht] at hok; cases hok
    | some i =>
      rw [ht] at hok
      simp only [allocOp, Option.some.injEq, Prod.mk.injEq] at hp
      obtain ⟨rfl, rfl⟩ := hp
      obtain ⟨zv, hz1, _, hz3, _⟩ := (htab _ _ ht).run_zeroValue w
      simp only [Bool.and_eq_true] at hok
      have hzz := AV.sameL_eq _ _ hok.1
      have htt : t = t' := Nat.eq_of_beq_eq_true hok.2
      subst hzz htt
      refine gives_newE htab hf hs hn (arr := zv.cells) (el := t) (fun t1 z1 h => by cases h; exact ⟨rfl, fun _ => rfl⟩) (hz3 ρ) ?_ (newPtr _)
      simp only [execOp, hop, Instr.alloc, Sem.run_bind, hz1, Result.andThen_ok, newVar, newRow, run_newObj, Sem.run_pure]
  case box x =>
    cases hop : o.op <;> simp only [opOK, hop, Bool.false_eq_true] at hok
    rename_i t y
    simp only [allocOp, Option.some.injEq, Prod.mk.injEq] at hp
    obtain ⟨rfl, rfl⟩ := hp
    refine gives_new htab hf hs hn (arr := (a.eval y).cells) (el := t) ((xOK_rel hok).ev hf).cells ?_ (newPtr _)
    simp only [execOp, hop, Instr.box, Sem.run_bind, Result.andThen_ok, newVar, newRow, run_newObj, Sem.run_pure]
  case bslice z len ps =>
    cases hop : o.op <;> simp only [opOK, hop, Bool.false_eq_true] at hok
    rename_i t len' qs
    cases ht : tab.get t with
    | none => rw [ht] at hok; cases hok
    | some i =>
      rw [ht] at hok
      simp only at hok
      cases hiu : i.u <;> rw [hiu] at hok <;> simp only [Bool.false_eq_true] at hok
      rename_i e
      cases he : tab.get e with
      | none => rw [he] at hok; cases hok
      | some j =>
        rw [he] at hok
        simp only [Bool.and_eq_true] at hok
        obtain ⟨⟨⟨⟨hz, hl⟩, hle⟩, hpos⟩, hparts⟩ := hok
        have hzz := AV.sameL_eq _ _ hz
        subst hzz
        have hll : len = len' := by simpa [Nat.beq_eq] using hl
        subst hll
        have hle' : len * j.size ≤ 16777216 := by simpa [Nat.ble_eq] using hle
        have hpos' : 0 < j.size := by simpa [Nat.blt_eq] using hpos
        simp only [allocOp] at hp
        cases hfl : fill f (rep j.zero len) ps with
        | none => rw [hfl] at hp; cases hp
        | some cs =>
          rw [hfl] at hp
          simp only [Option.some.injEq, Prod.mk.injEq] at hp
          obtain ⟨rfl, rfl⟩ := hp
          have hti := htab _ _ ht
          have htj := htab _ _ he
          obtain ⟨zv, hz1, hz2, hz3, _⟩ := htj.run_zeroValue w
          have hzl : j.zero.length = j.size := by rw [← (hz3 ρ).length, Array.length_toList, hz2]
          have hpl : (Array.map (fun (x : Nat × Operand) => (x.fst, a.eval x.snd)) qs).toList = qs.toList.map fun p => (p.1, a.eval p.2) := by simp
          by_cases hlen : len * j.size = 0
          · -- no cell at all
            have hlen0 : len = 0 := by
              rcases Nat.mul_eq_zero.1 hlen with h | h
              · exact h
              · omega
            subst hlen0
            obtain ⟨vs, hv1, hv2⟩ := fill_sound hf (fun k => some (k * j.size, j.size)) ps qs.toList [] cs #[] hparts hfl trivial
            refine gives_new htab hf hs hn (arr := vs) (el := e) hv2 ?_ (newSlice _ _ _ (Nat.le_refl _))
            simp only [execOp, hop, Instr.buildSlice, Sem.run_bind, hti.run_underlying w, hiu, Result.andThen_ok, htj.run_sizeOf w, Nat.zero_mul, if_true, Sem.run_pure]
            rw [if_neg (by omega)]
            simp only [Sem.run_pure, Result.andThen_ok, Sem.run_bind]
            rw [hpl, show Array.map (fun x => (#[] : Array Value)[x % (#[] : Array Value).size]!) (Array.range 0) = #[] from by simp, hv1]
            simp only [newRow, Sem.run_bind, run_newObj, Result.andThen_ok, Sem.run_pure]
          · have hrs := rep_sound (hz3 ρ) (by omega) len (len * j.size) (by rw [hz2])
            obtain ⟨vs, hv1, hv2⟩ := fill_sound hf (fun k => some (k * j.size, j.size)) ps qs.toList _ cs _ hparts hfl hrs
            refine gives_new htab hf hs hn (arr := vs) (el := e) hv2 ?_ (newSlice _ _ _ (Nat.le_refl _))
            simp only [execOp, hop, Instr.buildSlice, Sem.run_bind, hti.run_underlying w, hiu, Result.andThen_ok, htj.run_sizeOf w]
            rw [if_neg (by omega)]
            simp only [Sem.run_pure, Result.andThen_ok, hlen, if_false, Sem.run_bind, hz1]
            rw [hpl, hv1]
            simp only [newRow, Sem.run_bind, run_newObj, Result.andThen_ok, Sem.run_pure]
  case mkslice z bytes l c =>
    cases hop : o.op <;> simp only [opOK, hop, Bool.false_eq_true] at hok
    rename_i t l' c'
    cases ht : tab.get t with
    | none => rw [ht] at hok; cases hok
    | some i =>
      rw [ht] at hok
      simp only at hok
      cases hiu : i.u <;> rw [hiu] at hok <;> simp only [Bool.false_eq_true] at hok
      rename_i e
      cases he : tab.get e with
      | none => rw [he] at hok; cases hok
      | some j =>
        rw [he] at hok
        simp only [Bool.and_eq_true] at hok
        obtain ⟨⟨⟨⟨hz, hb⟩, hpos⟩, hlo⟩, hco⟩ := hok
        have hzz := AV.sameL_eq _ _ hz
        subst hzz
        have hbb : bytes = j.bytes := by simpa [Nat.beq_eq] using hb
        subst hbb
        have hpos' : 0 < j.size := by simpa [Nat.blt_eq] using hpos
        simp only [allocOp] at hp
        split at hp
        · rename_i ln cn hln hcn
          obtain ⟨h1, h2⟩ := cond_some hp
          simp only [Option.some.injEq, Prod.mk.injEq] at h2
          obtain ⟨rfl, rfl⟩ := h2
          simp only [Bool.and_eq_true, Nat.ble_eq] at h1
          obtain ⟨⟨hlc, hbytes⟩, hcb⟩ := h1
          obtain ⟨kl, hlv⟩ := index_int htab hf hlo hln
          obtain ⟨kc, hcv⟩ := index_int htab hf hco hcn
          have hti := htab _ _ ht
          have htj := htab _ _ he
          obtain ⟨zv, hz1, hz2, hz3, _⟩ := htj.run_zeroValue w
          obtain ⟨inf, zv', hinf, _, hib, _⟩ := htj.run_typeInfo w
          have hzl : j.zero.length = j.size := by rw [← (hz3 ρ).length, Array.length_toList, hz2]
          have hwl := wrap_small (n := ln) (by omega)
          have hwc := wrap_small (n := cn) (by omega)
          have hrs := rep_sound (hz3 ρ) (by omega) cn (cn * j.size) (by rw [hz2])
          have hbytes' : (j.bytes : Int) * (cn : Int) ≤ 1099511627776 := by
            have h : ((j.bytes : Int) * (cn : Int)) = ((cn * j.bytes : Nat) : Int) := by rw [Int.natCast_mul, Int.mul_comm]
            rw [h]; exact Int.ofNat_le.2 hbytes
          have hbytes2 : (j.bytes : Int) * (ln : Int) ≤ 1099511627776 := by
            refine Int.le_trans ?_ hbytes'
            exact Int.mul_le_mul_of_nonneg_left (Int.ofNat_le.2 hlc) (Int.natCast_nonneg _)
          have harr : ∀ zero : Array Value, (cn * j.size = 0 → zero = #[]) → (¬ cn * j.size = 0 → zero = zv.cells) →
              Array.map (fun x => zero[x % zero.size]!) (Array.range (cn * j.size)) = (Array.range (cn * j.size)).map fun i => zv.cells[i % zv.cells.size]! := by
            intro zero h0 h1
            by_cases hz0 : cn * j.size = 0
            · rw [hz0]; simp
            · rw [h1 hz0]
          refine gives_new htab hf hs hn (arr := _) (el := e) hrs ?_ (newSlice _ _ _ hlc)
          simp only [execOp, hop, Instr.makeSlice, Sem.run_bind, hti.run_underlying w, hiu, Result.andThen_ok, hlv, hcv, asInt, asIntOf, Sem.run_pure, hinf, hwl, hwc, hib]
          rw [if_neg (by simp; omega)]
          simp only [Sem.run_bind, Sem.run_pure, Result.andThen_ok, run_askRoom, htj.run_sizeOf w, Int.toNat_natCast, newRow, run_newObj]
          by_cases hz0 : cn * j.size = 0
          · simp only [hz0, if_true, Sem.run_pure, Result.andThen_ok, Sem.run_bind, run_newObj]
            rw [show Array.range 0 = #[] from rfl, Array.map_empty, Array.map_empty]
          · simp only [hz0, if_false, Sem.run_pure, Result.andThen_ok, Sem.run_bind, hz1, run_newObj]
        · cases hp
  case mkmap =>
    cases hop : o.op <;> simp only [opOK, hop, Bool.false_eq_true] at hok
    rename_i t r
    cases r with
    | some _ => cases hok
    | none =>
      simp only [allocOp, Option.some.injEq, Prod.mk.injEq] at hp
      obtain ⟨rfl, rfl⟩ := hp
      have hrel : AB.Rel tab ρ (.map []) (.map #[] 0) ⟨0, 0⟩ := ⟨#[], 0, rfl, trivial⟩
      obtain ⟨h1, h2⟩ := hs.new hn hrel
      refine ⟨_, .map (some w.heap.size), _, _, ?_, .inl rfl, ⟨_, Rho.put_same _ _ _, rfl, fun b s hb => by cases hb; rfl⟩, h1, h2⟩
      simp only [execOp, hop, Option.map_none, Instr.makeMap, Sem.run_bind, Sem.run_pure, Result.andThen_ok, run_newObj]
end
end Go.Proofs.YtjbpcddplaakfaaGreatDoor.Det

/-! Operations that write memory. -/
namespace Go.Proofs.YtjbpcddplaakfaaGreatDoor.Det
open Go
set_option linter.unusedVariables false
set_option linter.unusedSimpArgs false
set_option linter.unusedSectionVars false

/-! ### A run of stores -/
def writeArr : Array Value → Nat → List Value → Array Value
  | arr, _, [] => arr
  | arr, o, v :: vs => writeArr (arr.setIfInBounds o v) (o + 1) vs
theorem writeArr_size : ∀ (vs : List Value) (arr : Array Value) (o : Nat), (writeArr arr o vs).size = arr.size
  | [], _, _ => rfl
  | v :: vs, arr, o => by simp [writeArr, writeArr_size vs]
theorem writeArr_get_lt : ∀ (vs : List Value) (arr : Array Value) (o i : Nat), i < o → (writeArr arr o vs)[i]? = arr[i]?
  | [], _, _, _, _ => rfl
  | v :: vs, arr, o, i, h => by
    rw [writeArr, writeArr_get_lt vs _ _ _ (by omega), Array.getElem?_setIfInBounds, if_neg (by omega)]
theorem writeArr_get_in : ∀ (vs : List Value) (arr : Array Value) (o j : Nat) (v : Value), o + vs.length ≤ arr.size → vs[j]? = some v → (writeArr arr o vs)[o + j]? = some v
  | [], _, _, _, _, _, h => by simp at h
  | x :: vs, arr, o, 0, v, hl, h => by
    simp at h; subst h
    rw [Nat.add_zero, writeArr, writeArr_get_lt _ _ _ _ (by omega), Array.getElem?_setIfInBounds, if_pos rfl, if_pos (by simp at hl; omega)]
  | x :: vs, arr, o, j + 1, v, hl, h => by
    rw [writeArr, show o + (j + 1) = (o + 1) + j by omega]
    exact writeArr_get_in vs _ _ j v (by simp at hl ⊢; omega) (by simpa using h)
def OneV (v : Value) : Prop := (∀ c, v ≠ .agg c) ∧ (∀ c, v ≠ .tuple c)
theorem one_of {ρ : Rho} : ∀ {as : List AV} {vs : List Value}, ConcL ρ as vs → oneCells as = true → ∀ v ∈ vs, OneV v
  | [], [], _, _, v, hv => by cases hv
  | a :: as, x :: vs, hc, h, v, hv => by
    have hrest : oneCells as = true := by cases a <;> first | exact h | (simp [oneCells] at h; done)
    rcases List.mem_cons.1 hv with rfl | hv
    · have hx := hc.1
      cases a with
      | agg c => simp [oneCells] at h
      | tuple c => simp [oneCells] at h
      | ptr p => rcases p with _ | ⟨i, o⟩
                 · have : v = .pointer none := hx; subst this; exact ⟨fun _ e => (by cases e), fun _ e => (by cases e)⟩
                 · obtain ⟨m, _, a', rfl, _⟩ := hx; exact ⟨fun _ e => (by cases e), fun _ e => (by cases e)⟩
      | slice p _ _ _ => rcases p with _ | ⟨i, o⟩
                         · obtain ⟨rfl, _⟩ := hx; exact ⟨fun _ e => (by cases e), fun _ e => (by cases e)⟩
                         · obtain ⟨m, _, a', c', rfl, _⟩ := hx; exact ⟨fun _ e => (by cases e), fun _ e => (by cases e)⟩
      | map p => rcases p with _ | i
                 · have : v = .map none := hx; subst this; exact ⟨fun _ e => (by cases e), fun _ e => (by cases e)⟩
                 · obtain ⟨m, _, a', _⟩ := hx; exact ⟨fun _ e => (by subst e; simp [isCell] at a'), fun _ e => (by subst e; simp [isCell] at a')⟩
      | func g y z => obtain ⟨_, _, rfl, _⟩ := hx; exact ⟨fun _ e => (by cases e), fun _ e => (by cases e)⟩
      | yield l => obtain ⟨m, _, a', rfl, _⟩ := hx; exact ⟨fun _ e => (by cases e), fun _ e => (by cases e)⟩
      | iface t y => obtain ⟨_, rfl, _⟩ := hx; exact ⟨fun _ e => (by cases e), fun _ e => (by cases e)⟩
      | int k n => have : v = .int k n := hx; subst this; exact ⟨fun _ e => (by cases e), fun _ e => (by cases e)⟩
      | bool b => have : v = .bool b := hx; subst this; exact ⟨fun _ e => (by cases e), fun _ e => (by cases e)⟩
      | str s => have : v = .string _ := hx; subst this; exact ⟨fun _ e => (by cases e), fun _ e => (by cases e)⟩
      | nilFunc => have : v = .nilFunc := hx; subst this; exact ⟨fun _ e => (by cases e), fun _ e => (by cases e)⟩
      | nilIface => have : v = .nilIface := hx; subst this; exact ⟨fun _ e => (by cases e), fun _ e => (by cases e)⟩
    · exact one_of hc.2 hrest v hv
  | [], _ :: _, hc, _, _, _ => hc.elim
  | _ :: _, [], hc, _, _, _ => hc.elim
theorem setCell_wput {w : World} {b : Nat} {arr : Array Value} {el : TypeId} {fr : Nat × Nat} (h : w.heap[b]? = some (.cells arr el fr)) (o : Nat) (v : Value) :
    w.setCell ⟨b, o, none⟩ v = wput w b (.cells (arr.setIfInBounds o v) el fr) := by
  simp only [World.setCell, wput]
  congr 1
  apply Array.ext_getElem?
  intro i
  rw [Array.getElem?_modify, Array.getElem?_setIfInBounds]
  by_cases e : b = i
  · subst e
    have hlt := (Array.getElem?_eq_some_iff.1 h).1
    rw [h, if_pos rfl, if_pos rfl, if_pos hlt]; rfl
  · simp [e]
theorem storeCells_run {P : Program} {b o : Nat} {el : TypeId} {fr : Nat × Nat} : ∀ (vs : List Value) (i : Nat) (w : World) (arr : Array Value), w.heap[b]? = some (.cells arr el fr) → o + i + vs.length ≤ arr.size → Unfrozen fr arr.size →
    (∀ v ∈ vs, OneV v) → (storeCells ⟨b, o, none⟩ vs i).run P w = .ok () (wput w b (.cells (writeArr arr (o + i) vs) el fr))
  | [], i, w, arr, h, _, _, _ => by simp only [storeCells, Sem.run_pure, writeArr, wput_self w b _ h]
  | v :: vs, i, w, arr, h, hl, hu, hv => by
    have hlt : o + i < arr.size := by simp at hl; omega
    have hc : w.cell? ⟨b, o + i, none⟩ = some arr[o + i] := by rw [cell_at h]; simp [hlt]
    have hfr : w.frozen? ⟨b, o + i, none⟩ = false := by
      rw [frozen_at h]
      have := hu (o + i) hlt
      simp only [Bool.and_eq_false_iff, decide_eq_false_iff_not]
      omega
    have hst : (store ((⟨b, o, none⟩ : Addr).add i) v).run P w = .ok () (wput w b (.cells (arr.setIfInBounds (o + i) v) el fr)) := by
      rw [addr_add0]
      have h1 := (hv v (by simp)).1
      have h2 := (hv v (by simp)).2
      rw [← setCell_wput h (o + i) v]
      cases v <;> first | (simp only [store, Sem.run, hc, hfr]; rfl) | exact absurd rfl (h1 _) | exact absurd rfl (h2 _)
    have h' : (wput w b (.cells (arr.setIfInBounds (o + i) v) el fr)).heap[b]? = some (.cells (arr.setIfInBounds (o + i) v) el fr) := by
      rw [wput_get _ _ _ _ (lt_of_get h)]; simp
    have ih := storeCells_run (P := P) (o := o) vs (i + 1) _ _ h' (by simp at hl ⊢; omega) (by simpa using hu) (fun x hx => hv x (by simp [hx]))
    simp only [storeCells, Sem.run_bind, hst, Result.andThen_ok]
    rw [ih, wput_wput, writeArr, show o + (i + 1) = o + i + 1 by omega]

/-! ### What a write does to a block -/
theorem fillAt_length : ∀ (vs : List AV) (c : List AV) (o : Nat), (fillAt c o vs).length = c.length
  | [], _, _ => rfl
  | v :: vs, c, o => by simp [fillAt, fillAt_length vs]
theorem CellsRel.set {ρ : Rho} {c : List AV} {ro : Bool} {arr : Array Value} {fr : Nat × Nat} {s : Sh} (h : CellsRel ρ c ro arr fr s) {o : Nat} {x : AV} {v : Value} (ho : o < c.length) (hc : Conc ρ x v) :
    CellsRel ρ (c.set o x) ro (arr.setIfInBounds (o + s.s) v) fr s := by
  refine ⟨by simp [h.size], by simpa using h.fit, fun i y hi => ?_, h.free⟩
  rw [List.getElem?_set] at hi
  rw [Array.getElem?_setIfInBounds]
  by_cases e : o = i
  · subst e
    simp only [if_true, ho] at hi
    cases hi
    have : o + s.s < arr.size := by have := h.fit; rw [h.size]; omega
    exact ⟨v, by simp [this], hc⟩
  · simp only [e, if_false] at hi
    obtain ⟨z, hz, hcz⟩ := h.get i y hi
    exact ⟨z, by rw [if_neg (by omega)]; exact hz, hcz⟩
theorem CellsRel.write {ρ : Rho} {ro : Bool} {fr : Nat × Nat} {s : Sh} : ∀ {as : List AV} {vs : List Value} {c : List AV} {arr : Array Value} {o : Nat}, CellsRel ρ c ro arr fr s → o + as.length ≤ c.length → ConcL ρ as vs →
    CellsRel ρ (fillAt c o as) ro (writeArr arr (o + s.s) vs) fr s
  | [], [], _, _, _, h, _, _ => h
  | a :: as, v :: vs, c, arr, o, h, hl, hc => by
    simp only [fillAt, writeArr]
    have := CellsRel.write (as := as) (vs := vs) (o := o + 1) (h.set (o := o) (by simp at hl; omega) hc.1) (by simp at hl ⊢; omega) hc.2
    rwa [show o + 1 + s.s = o + s.s + 1 by omega] at this
  | [], _ :: _, _, _, _, _, _, hc => hc.elim
  | _ :: _, [], _, _, _, _, _, hc => hc.elim
section
variable {P : Program} {tab : Tab} {ρ : Rho} {H H' : AH} {w : World} (hs : Sim tab ρ H w)
include hs
theorem write_sound {i o : Nat} {as : List AV} {vs : List Value} (h : writeAt H (i, o) as = some H') (hc : ConcL ρ as vs) :
    ∃ b s, ρ i = some (some (b, s)) ∧ ∃ w', (storeCells ⟨b, o + s.s, none⟩ vs).run P w = .ok () w' ∧ Sim tab ρ H' w' ∧ Frm ρ H w ρ H' w' := by
  simp only [writeAt] at h
  cases hi : H.get i with
  | none => rw [hi] at h; cases h
  | some ob =>
    rw [hi] at h
    cases ob with
    | cells c ro ael =>
      cases ro with
      | true => cases h
      | false =>
        obtain ⟨h1, h2⟩ := cond_some h
        cases h2
        simp only [Bool.and_eq_true, Nat.ble_eq] at h1
        obtain ⟨b, s, hr⟩ := hs.live hi
        obtain ⟨arr, el, fr, g1, g2, g3⟩ := hs.cellsE hi hr
        have hl := hc.length
        have hfit := g2.fit
        have hrun := storeCells_run (P := P) (b := b) (o := o + s.s) (el := el) (fr := fr) vs 0 w arr g1 (by rw [g2.size, hl]; omega) (by rw [g2.size]; exact g2.free rfl) (one_of hc h1.2)
        have hup := hs.upd (ob' := .cells (fillAt c o as) false ael) (o' := .cells (writeArr arr (o + s.s) vs) el fr) (fun _ e => by cases e) hi hr ⟨_, _, _, rfl, g2.write h1.1 hc, g3⟩
        exact ⟨b, s, hr, _, hrun, hup.1, hup.2⟩
    | map => cases h
    | loop => cases h
end
section
variable {P : Program} {tab : Tab} (htab : TabOK P tab) {ρ : Rho} {f : AF} {a : Act} (hf : FRel ρ f a.tmps) {H H' : AH} {w : World} (hs : Sim tab ρ H w) {o : Oper} {cv : CV}
include htab hf hs
theorem eff_store {n : Nat} {x y : AX} {v : AV} (hok : opOK tab o (.store n x y) = true) (hp : effOp cv (.store n x y) f H = some (v, H')) : Gives P tab ρ H w (execOp a.eval o) v H' := by
  cases hop : o.op <;> simp only [opOK, hop, Bool.false_eq_true] at hok
  rename_i t x' y'
  cases ht : tab.get t with
  | none => rw [ht] at hok; cases hok
  | some i =>
    rw [ht] at hok
    simp only [Bool.and_eq_true] at hok
    obtain ⟨⟨hn0, hxo⟩, hyo⟩ := hok
    have hn : n = i.size := by simpa [Nat.beq_eq] using hn0
    have hx := (xOK_rel hxo).ev hf
    have hy := (xOK_rel hyo).ev hf
    have hti := htab _ _ ht
    simp only [effOp] at hp
    cases hfx : f.ev x with
    | ptr p =>
      rw [hfx] at hp hx
      rcases p with _ | ⟨pi, po⟩
      · cases hp
      · simp only at hp
        obtain ⟨h1, h2⟩ := cond_some hp
        cases hw : writeAt H (pi, po) (cellsOf (f.ev y)) with
        | none => rw [hw] at h2; cases h2
        | some H1 =>
          rw [hw] at h2; cases h2
          obtain ⟨b, s, hr, w', g1, g2, g3⟩ := write_sound (P := P) hs hw hy.cells
          obtain ⟨m, hm, ad, hv, ha⟩ := hx
          rw [hr] at hm; cases hm
          have had := ha b s rfl
          have hsz : (a.eval y').cells.size = i.size := by
            rw [← Array.length_toList, hy.cells.length, ← hn]; simpa [Nat.beq_eq] using h1
          refine ⟨.skip, undef, w', ρ, ?_, .inr ⟨rfl, rfl⟩, Conc.undef, g2, g3⟩
          simp only [execOp, hop, Instr.storeAt, Sem.run_bind, hv, Instr.sureAddr, Sem.run_pure, Result.andThen_ok, storeVar, hti.run_sizeOf w, hsz, ne_eq, not_true, if_false]
          rw [had, g1]
          rfl
    | _ => rw [hfx] at hp; cases hp
end
end Go.Proofs.YtjbpcddplaakfaaGreatDoor.Det

/-! Operations on maps; append. -/
namespace Go.Proofs.YtjbpcddplaakfaaGreatDoor.Det
open Go
set_option linter.unusedVariables false
set_option linter.unusedSimpArgs false
set_option linter.unusedSectionVars false

/-! ### Maps -/
theorem now_sound {ρ : Rho} {k k1 : AV} {k' k1' : Value} (hk : Conc ρ k k') (hk1 : Conc ρ k1 k1') {ks : Bool} (hks : keyIs ks k = true) {u : TypeDesc} (hu : keyTy ks u = true) {q : Bool} (hq : keyEq k k1 = some q) :
    Instr.sameNow u k' k1' = some q ∧ (q = true → k1' = k') := by
  cases u <;> simp only [keyTy, Bool.false_eq_true] at hu
  · have : ks = false := by simpa using hu
    subst this
    cases k <;> simp only [keyIs, Bool.false_eq_true] at hks
    cases k1 <;> simp only [keyEq] at hq <;> try (cases hq; done)
    obtain ⟨e1, e2⟩ := cond_some hq
    cases e2
    have := IntKind.same_eq e1
    subst this
    have a1 := Conc.int_ hk; have a2 := Conc.int_ hk1
    rw [a1, a2]
    refine ⟨by simp only [Instr.sameNow, if_true, IntSame_beq], fun h => ?_⟩
    rw [Int.same_eq h]
  · have : ks = true := by simpa using hu
    subst this
    cases k <;> simp only [keyIs, Bool.false_eq_true] at hks
    cases k1 <;> simp only [keyEq] at hq <;> try (cases hq; done)
    cases hq
    have a1 := Conc.str_ hk; have a2 := Conc.str_ hk1
    rw [a1, a2]
    refine ⟨by simp only [Instr.sameNow, bytesSame_beq, bytes_beq], fun h => ?_⟩
    rw [bytesSame_iff.1 h]
theorem setKey_sound {ρ : Rho} {k v : AV} {k' v' : Value} (hk : Conc ρ k k') (hv : Conc ρ v v') {ks : Bool} (hks : keyIs ks k = true) {u : TypeDesc} (hu : keyTy ks u = true) :
    ∀ (es : List (AV × AV)) (es' : List MapEntry) (i : Nat) (es2 : List (AV × AV)), EntRel ρ es es' → setKey k v es = some es2 →
      (Instr.findNow u k' es' i = some none ∧ ∀ born, EntRel ρ es2 (es' ++ [{ key := k', val := v', born := born }])) ∨
      (∃ j e, Instr.findNow u k' es' i = some (some (i + j, e.val)) ∧ es'[j]? = some e ∧ e.key = k' ∧ EntRel ρ es2 (es'.modify j fun e => { e with key := k', val := v' }))
  | [], [], i, es2, _, h => by
    simp [setKey] at h; subst h
    exact .inl ⟨rfl, fun _ => ⟨hk, hv, trivial⟩⟩
  | (k1, v1) :: es, e :: es', i, es2, hr, h => by
    obtain ⟨h1, h2, h3⟩ := hr
    simp only [setKey] at h
    cases hq : keyEq k k1 with
    | none => rw [hq] at h; cases h
    | some q =>
      rw [hq] at h
      obtain ⟨hnow, hkey⟩ := now_sound hk h1 hks hu hq
      cases q with
      | true =>
        simp at h; subst h
        exact .inr ⟨0, e, by simp [Instr.findNow, hnow], rfl, hkey rfl, ⟨hk, hv, h3⟩⟩
      | false =>
        simp only at h
        cases hs : setKey k v es with
        | none => rw [hs] at h; cases h
        | some r =>
          rw [hs] at h; cases h
          rcases setKey_sound hk hv hks hu es es' (i + 1) r h3 hs with ⟨g1, g2⟩ | ⟨j, e', g1, g2, g3, g4⟩
          · exact .inl ⟨by simp [Instr.findNow, hnow, g1], fun b => ⟨h1, h2, g2 b⟩⟩
          · exact .inr ⟨j + 1, e', by simp [Instr.findNow, hnow, g1]; omega, by simpa using g2, g3, ⟨h1, h2, g4⟩⟩
  | [], _ :: _, _, _, hr, _ => hr.elim
  | _ :: _, [], _, _, hr, _ => hr.elim
theorem delKey_sound {ρ : Rho} {k : AV} {k' : Value} (hk : Conc ρ k k') {ks : Bool} (hks : keyIs ks k = true) {u : TypeDesc} (hu : keyTy ks u = true) :
    ∀ (es : List (AV × AV)) (es' : List MapEntry) (i : Nat) (es2 : List (AV × AV)), EntRel ρ es es' → delKey k es = some es2 →
      (Instr.findNow u k' es' i = some none ∧ EntRel ρ es2 es') ∨
      (∃ j e, Instr.findNow u k' es' i = some (some (i + j, e)) ∧ EntRel ρ es2 (es'.eraseIdx j))
  | [], [], i, es2, _, h => by
    simp [delKey] at h; subst h
    exact .inl ⟨rfl, trivial⟩
  | (k1, v1) :: es, e :: es', i, es2, hr, h => by
    obtain ⟨h1, h2, h3⟩ := hr
    simp only [delKey] at h
    cases hq : keyEq k k1 with
    | none => rw [hq] at h; cases h
    | some q =>
      rw [hq] at h
      obtain ⟨hnow, hkey⟩ := now_sound hk h1 hks hu hq
      cases q with
      | true =>
        simp at h; subst h
        exact .inr ⟨0, e.val, by simp [Instr.findNow, hnow], by simpa using h3⟩
      | false =>
        simp only at h
        cases hs : delKey k es with
        | none => rw [hs] at h; cases h
        | some r =>
          rw [hs] at h; cases h
          rcases delKey_sound hk hks hu es es' (i + 1) r h3 hs with ⟨g1, g2⟩ | ⟨j, e', g1, g2⟩
          · exact .inl ⟨by simp [Instr.findNow, hnow, g1], ⟨h1, h2, g2⟩⟩
          · exact .inr ⟨j + 1, e', by simp [Instr.findNow, hnow, g1]; omega, ⟨h1, h2, by simpa using g2⟩⟩
  | [], _ :: _, _, _, hr, _ => hr.elim
  | _ :: _, [], _, _, hr, _ => hr.elim
theorem isKey_of {ρ : Rho} {k : AV} {k' : Value} (hk : Conc ρ k k') {ks : Bool} (hks : keyIs ks k = true) : ∃ d, MapKept.IsKey d k' := by
  cases ks <;> cases k <;> simp [keyIs] at hks
  · rename_i kk n; have := Conc.int_ hk; subst this; exact ⟨.int kk, rfl⟩
  · have := Conc.str_ hk; subst this; exact ⟨.string, trivial⟩
section
variable {P : Program} {tab : Tab} (htab : TabOK P tab) {ρ : Rho} {f : AF} {a : Act} (hf : FRel ρ f a.tmps) {H H' : AH} {w : World} (hs : Sim tab ρ H w) {o : Oper} {cv : CV}
include htab hf hs
theorem mset_run {t kt : TypeId} {e : TypeId} (ht : P.underlying t = some (.map kt e)) {ik : TI} (hkt : tab.get kt = some ik) {ks : Bool} (hu : keyTy ks ik.u = true) {r : Nat} {es es2 : List (AV × AV)} {k v : AV} {m' k' v' : Value}
    (hm : Conc ρ (.map (some r)) m') (hk : Conc ρ k k') (hv : Conc ρ v v') (hks : keyIs ks k = true) (hg : H.get r = some (.map es)) (h : setKey k v es = some es2) :
    ∃ w', (Instr.mapUpdate t m' k' v').run P w = .ok () w' ∧ Sim tab ρ (H.set r (some (.map es2))) w' ∧ Frm ρ H w ρ (H.set r (some (.map es2))) w' := by
  obtain ⟨b, s, hr⟩ := hs.live hg
  obtain ⟨m, hmm, rr, hmv, hrr⟩ := hm.map_live hr
  rw [hr] at hmm; cases hmm
  have hrb := hrr b s rfl
  subst hrb
  obtain ⟨obj, hobj, es', clock, hobj', hent⟩ := hs.at_ hg hr
  subst hobj'
  obtain ⟨d, hd⟩ := isKey_of hk hks
  have hkd := (htab _ _ hkt).1
  rcases setKey_sound hk hv hks hu es es'.toList 0 es2 hent h with ⟨g1, g2⟩ | ⟨j, en, g1, g2, g3, g4⟩
  · have hup := hs.upd (ob' := .map es2) (o' := .map (es'.push { key := k', val := v', born := clock }) (clock + 1)) (fun _ e => by cases e) hg hr ⟨_, _, rfl, by simpa using g2 clock⟩
    refine ⟨_, ?_, hup.1, hup.2⟩
    simp only [Instr.mapUpdate, Sem.run_bind, run_underlying ht, Result.andThen_ok, hmv, MapKept.run_getObj_map hobj, run_checkKey' (P := P) (w := w) hkd hk hks hu, MapKept.run_findKey (P := P) (w := w) hkd g1]
    rw [MapKept.run_setObj_map _ hobj]
    rfl
  · have hup := hs.upd (ob' := .map es2) (o' := .map (es'.modify j fun e => { e with key := k', val := v' }) clock) (fun _ e => by cases e) hg hr ⟨_, _, rfl, by simpa [Array.toList_modify] using g4⟩
    refine ⟨_, ?_, hup.1, hup.2⟩
    have hj : es'[j]? = some en := by simpa using g2
    simp only [Nat.zero_add] at g1
    simp only [Instr.mapUpdate, Sem.run_bind, run_underlying ht, Result.andThen_ok, hmv, MapKept.run_getObj_map hobj, run_checkKey' (P := P) (w := w) hkd hk hks hu, MapKept.run_findKey (P := P) (w := w) hkd g1,
      hj, Option.map_some, Option.getD_some, g3, MapKept.run_keyThatStays hd]
    rw [MapKept.run_setObj_map _ hobj]
    rfl
theorem eff_mset {ks : Bool} {m k x : AX} {v : AV} (hok : opOK tab o (.mset ks m k x) = true) (hp : effOp cv (.mset ks m k x) f H = some (v, H')) : Gives P tab ρ H w (execOp a.eval o) v H' := by
  have key : ∀ (t : TypeId) (m' k' x' : Operand), (match tab.get t with
        | some i => (match i.u with
          | .map kt e => (match tab.get kt with | some ik => keyTy ks ik.u && xOK m m' && xOK k k' && xOK x x' | none => false)
          | _ => false)
        | none => false) = true → (execOp a.eval o = do Instr.mapUpdate t (a.eval m') (a.eval k') (a.eval x'); pure .skip) → Gives P tab ρ H w (execOp a.eval o) v H' := by
    intro t m' k' x' hok he
    cases ht : tab.get t with
    | none => rw [ht] at hok; cases hok
    | some i =>
      rw [ht] at hok
      simp only at hok
      have hti := htab _ _ ht
      cases hiu : i.u <;> rw [hiu] at hok <;> simp only [Bool.false_eq_true] at hok
      rename_i kt e
      cases hkt : tab.get kt with
      | none => rw [hkt] at hok; cases hok
      | some ik =>
        rw [hkt] at hok
        simp only [Bool.and_eq_true] at hok
        obtain ⟨⟨⟨hu, hm⟩, hk⟩, hx⟩ := hok
        have hmv := (xOK_rel hm).ev hf
        have hkv := (xOK_rel hk).ev hf
        have hxv := (xOK_rel hx).ev hf
        simp only [effOp] at hp
        cases hfm : f.ev m with
        | map r =>
          rw [hfm] at hp hmv
          cases r with
          | none => cases hp
          | some r =>
            simp only at hp
            cases hi : H.get r with
            | none => rw [hi] at hp; cases hp
            | some ob =>
              rw [hi] at hp
              cases ob with
              | map es =>
                simp only at hp
                obtain ⟨h1, h2⟩ := cond_some hp
                cases hsk : setKey (f.ev k) (f.ev x) es with
                | none => rw [hsk] at h2; cases h2
                | some es2 =>
                  rw [hsk] at h2; cases h2
                  obtain ⟨w', g1, g2, g3⟩ := mset_run htab hf hs (by rw [hti.1, hiu]) hkt hu hmv hkv hxv h1 hi hsk
                  refine ⟨.skip, undef, w', ρ, ?_, .inr ⟨rfl, rfl⟩, Conc.undef, g2, g3⟩
                  rw [he]
                  simp only [Sem.run_bind, g1, Result.andThen_ok, Sem.run_pure]
              | cells => cases hp
              | loop => cases hp
        | _ => rw [hfm] at hp; cases hp
  cases hop : o.op <;> simp only [opOK, hop, Bool.false_eq_true] at hok
  · rename_i t m' k' x'
    exact key t m' k' x' hok (by simp only [execOp, hop])
  · rename_i t m' k' x'
    exact key t m' k' x' hok (by simp only [execOp, hop])
theorem eff_del {ks : Bool} {m k : AX} {v : AV} (hok : opOK tab o (.del ks m k) = true) (hp : effOp cv (.del ks m k) f H = some (v, H')) : Gives P tab ρ H w (execOp a.eval o) v H' := by
  simp only [opOK] at hok
  split at hok
  · rename_i c hop
    split at hok
    · rename_i m' k' t ts hcal hargs hats
      cases ht : tab.get t with
      | none => rw [ht] at hok; cases hok
      | some i =>
        rw [ht] at hok
        simp only at hok
        have hti := htab _ _ ht
        cases hiu : i.u <;> rw [hiu] at hok <;> simp only [Bool.false_eq_true] at hok
        rename_i kt e
        cases hkt : tab.get kt with
        | none => rw [hkt] at hok; cases hok
        | some ik =>
          rw [hkt] at hok
          simp only [Bool.and_eq_true] at hok
          obtain ⟨⟨hu, hm⟩, hk⟩ := hok
          have hmv := (xOK_rel hm).ev hf
          have hkv := (xOK_rel hk).ev hf
          have harg : c.args = #[m', k'] := by rw [← Array.toList_inj]; exact hargs
          have hat : c.argTypes[0]? = some t := by rw [← Array.getElem?_toList, hats]; rfl
          simp only [effOp] at hp
          cases hfm : f.ev m with
          | map r =>
            rw [hfm] at hp hmv
            cases r with
            | none => cases hp
            | some r =>
              simp only at hp
              cases hi : H.get r with
              | none => rw [hi] at hp; cases hp
              | some ob =>
                rw [hi] at hp
                cases ob with
                | map es =>
                  simp only at hp
                  obtain ⟨h1, h2⟩ := cond_some hp
                  cases hsk : delKey (f.ev k) es with
                  | none => rw [hsk] at h2; cases h2
                  | some es2 =>
                    rw [hsk] at h2; cases h2
                    obtain ⟨b, s, hr⟩ := hs.live hi
                    obtain ⟨mm, hmm, rr, hv, hrr⟩ := hmv.map_live hr
                    rw [hr] at hmm; cases hmm
                    have hrb := hrr b s rfl
                    subst hrb
                    obtain ⟨obj, hobj, es', clock, hobj', hent⟩ := hs.at_ hi hr
                    subst hobj'
                    have hkd := (htab _ _ hkt).1
                    have hud : P.underlying t = some (.map kt e) := by rw [hti.1, hiu]
                    rcases delKey_sound hkv h1 hu es es'.toList 0 es2 hent hsk with ⟨g1, g2⟩ | ⟨j, en, g1, g2⟩
                    · have hup := hs.upd (ob' := .map es2) (o' := .map es' clock) (fun _ e => by cases e) hi hr ⟨_, _, rfl, g2⟩
                      refine ⟨_, .tuple #[], _, ρ, ?_, .inl rfl, ⟨_, rfl, trivial⟩, hup.1, hup.2⟩
                      simp only [execOp, hop, resolve, hcal, Sem.run_bind, Sem.run_pure, Result.andThen_ok, invoke, builtin, harg, Builtin.delete_, hat]
                      simp only [List.map_toArray, List.map_cons, List.map_nil, List.getElem?_toArray, List.getElem?_cons_zero, List.getElem?_cons_succ, Sem.run_bind, run_underlying hud, Result.andThen_ok, hv, MapKept.run_getObj_map hobj, run_checkKey' (P := P) (w := w) hkd hkv h1 hu, MapKept.run_findKey (P := P) (w := w) hkd g1]
                      rw [MapKept.run_setObj_map _ hobj]
                      rfl
                    · have hup := hs.upd (ob' := .map es2) (o' := .map (es'.eraseIdxIfInBounds j) clock) (fun _ e => by cases e) hi hr ⟨_, _, rfl, by simpa [Array.toList_eraseIdxIfInBounds] using g2⟩
                      refine ⟨_, .tuple #[], _, ρ, ?_, .inl rfl, ⟨_, rfl, trivial⟩, hup.1, hup.2⟩
                      simp only [Nat.zero_add] at g1
                      simp only [execOp, hop, resolve, hcal, Sem.run_bind, Sem.run_pure, Result.andThen_ok, invoke, builtin, harg, Builtin.delete_, hat]
                      simp only [List.map_toArray, List.map_cons, List.map_nil, List.getElem?_toArray, List.getElem?_cons_zero, List.getElem?_cons_succ, Sem.run_bind, run_underlying hud, Result.andThen_ok, hv, MapKept.run_getObj_map hobj, run_checkKey' (P := P) (w := w) hkd hkv h1 hu, MapKept.run_findKey (P := P) (w := w) hkd g1]
                      rw [MapKept.run_setObj_map _ hobj]
                      rfl
                | cells => cases hp
                | loop => cases hp
          | _ => rw [hfm] at hp; cases hp
    · cases hok
  · cases hok
end
end Go.Proofs.YtjbpcddplaakfaaGreatDoor.Det
