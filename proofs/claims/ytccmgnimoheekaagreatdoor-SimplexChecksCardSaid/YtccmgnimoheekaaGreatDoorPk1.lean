/-
  Part 1 of the proof, joined and thinned by a program.
-/
import Derived.RangeFuncLeaves
import Derived.OrdersIn
import Derived.LoopNIn
import Derived.Laws.StructEq
import Derived.MapKept
import Derived.Laws.BytesString
import Derived.Laws.AppendOwn
import Derived.KernelRfl
set_option autoImplicit true
set_option relaxedAutoImplicit true
set_option linter.defProp false
set_option linter.unusedVariables false
set_option linter.unusedSimpArgs false
set_option linter.unusedSectionVars false
def aa{p:Prop}(h:p:=by omega):p:=h
def ab{p:Prop}(h:p:=by simp):p:=h
def ae{p:Prop}(h:p:=by simp; omega):p:=h
def af{p:Prop}(h:p:=by kernel_rfl):p:=h
def ah{p:Prop}(h:p:=by decide):p:=h
def aj{p:Prop}(h:p:=by grind):p:=h
def ak{p:Prop}(h:p:=by rfl):p:=h
def aq{p:Prop}(h:p:=by assumption):p:=h
open Go.Result renaming andThen_ok -> aaX, andThen -> apm
open Go.Sem renaming run_bind -> aa3, run_pure -> acH, run -> ase
open Bool renaming false_eq_true -> ab2, and_eq_true -> ae7
open Nat renaming beq -> acK, le_refl -> afK, beq_eq -> agl, eq_of_beq_eq_true -> ahv, ble -> aiv, blt -> ak3, ble_eq -> al9, blt_eq -> amL, le_trans -> avK, le_of_ble_eq_true -> ax0, zero_add -> aya, testBit -> azi
open Int renaming ofNat -> ahd, toNat_natCast -> aoS
open Array renaming length_toList -> ahG, toList_inj -> ajC
open Go.Op renaming equalIn -> akt, stringOp -> azk
open Go.Builtin renaming firstCells -> akF, zeroCells -> ak7, append_ -> ap3
open Option.some renaming injEq -> akU
open Go.Instr renaming findNow -> anp, sliceBound -> avN, sliceBounds -> axV, sameNow -> azh
open ByteArray renaming mk -> aoc
open Go.MapKept renaming run_getObj_map -> ao9, run_findKey -> avO, run_setObj_map -> axJ
open Go.Value renaming int -> arN
open Option renaming isSome_none -> aut, map_none -> avL, map_some -> axD
open UInt8 renaming ofNat -> avM
open List renaming length_eq_zero_iff -> awZ, map_toArray -> ayA, map_cons -> azg
namespace Go.Proofs.YtccmgnimoheekaaGreatDoor
namespace dC
open Go
inductive PT (α:Type) where
 |leaf
 |node (l:PT α) (v:Option α) (r:PT α)
namespace PT
variable {α:Type}
def get:PT α->Nat->Option α
 |leaf,_=>none
 |node l v r,i=>cond (acK i 0) v (cond (acK (i%2) 1) (l.get (i/2)) (r.get (i/2-1)))
def aaB:Nat->PT α->Nat->Option α->PT α
 |0,t,_,_=>t
 |n+1,leaf,i,x=>cond (acK i 0) (node leaf x leaf) (cond (acK (i%2) 1) (node (aaB n leaf (i/2) x) none leaf) (node leaf none (aaB n leaf (i/2-1) x)))
 |n+1,node l v r,i,x=>cond (acK i 0) (node l x r) (cond (acK (i%2) 1) (node (aaB n l (i/2) x) v r) (node l v (aaB n r (i/2-1) x)))
def set (t:PT α) (i:Nat) (x:Option α):PT α:=aaB (i+1) t i x
theorem aet i:(leaf:PT α).get i=none:=rfl
theorem auD: ∀n (t:PT α) i x j,i<n->(aaB n t i x).get j=if j=i then x else t.get j:=by
 intro n;induction n with
 |zero=>intro t i x j h;omega
 |succ n ih=>
  intro t i x j h;have key: ∀(l:PT α) (v:Option α) (r:PT α),(cond (acK i 0) (node l x r) (cond (acK (i%2) 1) (node (aaB n l (i/2) x) v r) (node l v (aaB n r (i/2-1) x)))).get j
    =if j=i then x else(node l v r).get j:=by
   intro l v r;by_cases h0:i=0
   ·subst h0;have:acK 0 0=true:=rfl;rw [this];simp only [cond_true,get];by_cases hj:j=0
    ·subst hj;rfl
    ·have:acK j 0=false:=by cases hb:acK j 0<;>simp_all [agl]
     simp [this,hj]
   ·have e0:acK i 0=false:=by cases hb:acK i 0<;>simp_all [agl]
    rw [e0];simp only [cond_false];by_cases h1:i%2=1
    ·have e1:acK (i%2) 1=true:=by simp [agl,h1]
     rw [e1];simp only [cond_true,get];by_cases hj0:j=0
     ·subst hj0;have:acK 0 0=true:=rfl;rw [this];simp;omega
     ·have ej0:acK j 0=false:=by cases hb:acK j 0<;>simp_all [agl]
      rw [ej0];simp only [cond_false];by_cases hj1:j%2=1
      ·have ej1:acK (j%2) 1=true:=by simp [agl,hj1]
       rw [ej1];simp only [cond_true];rw [ih _ _ _ _ aa];by_cases hji:j=i
       ·subst hji;simp
       ·rw [if_neg hji,if_neg aa]
      ·have ej1:acK (j%2) 1=false:=by cases hb:acK (j%2) 1<;>simp_all [agl]
       rw [ej1];simp only [cond_false];rw [if_neg aa]
    ·have e1:acK (i%2) 1=false:=by cases hb:acK (i%2) 1<;>simp_all [agl]
     rw [e1];simp only [cond_false,get];by_cases hj0:j=0
     ·subst hj0;have:acK 0 0=true:=rfl;rw [this];simp;omega
     ·have ej0:acK j 0=false:=by cases hb:acK j 0<;>simp_all [agl]
      rw [ej0];simp only [cond_false];by_cases hj1:j%2=1
      ·have ej1:acK (j%2) 1=true:=by simp [agl,hj1]
       rw [ej1];simp only [cond_true];rw [if_neg aa]
      ·have ej1:acK (j%2) 1=false:=by cases hb:acK (j%2) 1<;>simp_all [agl]
       rw [ej1];simp only [cond_false];rw [ih _ _ _ _ aa];by_cases hji:j=i
       ·subst hji;simp
       ·rw [if_neg hji,if_neg aa]
  cases t with
  |leaf=>simp only [aaB];rw [key leaf none leaf];simp [get]
  |node l v r=>simp only [aaB];exact key l v r
theorem mK (t:PT α) i x j:(t.set i x).get j=if j=i then x else t.get j:=auD _ _ _ _ _ (Nat.lt_succ_self i)
end PT
inductive AV where
 |int (k:IntKind) (n:Int)
 |bool (b:Bool)
 |str (s:List UInt8)
 |ptr (a:Option (Nat×Nat))
 |slice (a:Option (Nat×Nat)) (len cap:Nat) (ex:Nat)
 |map (r:Option Nat)
 |func (f:Nat) (first captured:List AV)
 |yield (l:Nat)
 |nilFunc
 |iface (t:Nat) (v:AV)
 |nilIface
 |agg (cells:List AV)
 |tuple (vs:List AV)
 deriving Inhabited
def IntKind.same:IntKind->IntKind->Bool
 | .i8,.i8 | .i16,.i16 | .i32,.i32 | .i64,.i64 | .u8,.u8 | .u16,.u16 | .u32,.u32 | .u64,.u64=>true
 |_,_=>false
def IntKind.dG (h:IntKind.same a b=true):a=b:=by cases a<;>cases b<;>simp_all [IntKind.same]
def Int.same:Int->Int->Bool
 | .ofNat a,.ofNat b=>acK a b
 | .negSucc a,.negSucc b=>acK a b
 |_,_=>false
def Int.dG (h:Int.same a b=true):a=b:=by
 cases a<;>cases b<;>simp_all [Int.same,agl]
def aD:List UInt8->List UInt8->Bool
 | [],[]=>true
 |a::aCL,b::c=>acK a.toNat b.toNat&&aD aCL c
 |_,_=>false
def dZ: ∀ {a b},aD a b=true↔a=b
 | [],[]=>by simp [aD]
 | [],_::_=>by simp [aD]
 |_::_,[]=>by simp [aD]
 |a::aCL,b::c=>by simp [aD,dZ,agl,UInt8.toNat_inj]
def D7:Option (Nat×Nat)->Option (Nat×Nat)->Bool
 |none,none=>true
 |some (a,b),some (c,d)=>acK a c&&acK b d
 |_,_=>false
def VE (h:D7 a b=true):a=b:=by
 match a,b,h with
 |none,none,_=>rfl
 |some (a,b),some (c,d),h=>simp [D7,agl]at h;simp [h]
 |none,some _,h=>simp [D7]at h
 |some _,none,h=>simp [D7]at h
mutual
def AV.same:AV->AV->Bool
 | .int k n,.int k' n'=>IntKind.same k k'&&Int.same n n'
 | .bool b,.bool b'=>b==b'
 | .str s,.str s'=>aD s s'
 | .ptr a,.ptr a'=>D7 a a'
 | .slice a l c e,.slice a' l' c' e'=>D7 a a'&&acK l l'&&acK c c'&&acK e e'
 | .map none,.map none=>true
 | .map (some a),.map (some b)=>acK a b
 | .func f x y,.func f' x' y'=>acK f f'&&AV.mZ x x'&&AV.mZ y y'
 | .yield l,.yield l'=>acK l l'
 | .nilFunc,.nilFunc=>true
 | .iface t v,.iface t' v'=>acK t t'&&AV.same v v'
 | .nilIface,.nilIface=>true
 | .agg x,.agg x'=>AV.mZ x x'
 | .tuple x,.tuple x'=>AV.mZ x x'
 |_,_=>false
def AV.mZ:List AV->List AV->Bool
 | [],[]=>true
 |a::aCL,b::bs=>AV.same a b&&AV.mZ aCL bs
 |_,_=>false
end
mutual
def AV.dG: ∀(a b:AV),AV.same a b=true->a=b
 | .int k n,b,h=>by
  cases b<;>simp [AV.same]at h;rw [IntKind.dG h.1,Int.dG h.2]
 | .bool b,c,h=>by cases c<;>simp [AV.same]at h;rw [h]
 | .str s,c,h=>by cases c<;>simp [AV.same]at h;rw [dZ.1 h]
 | .ptr a,c,h=>by cases c<;>simp [AV.same]at h;rw [VE h]
 | .slice a l c e,x,h=>by
  cases x<;>simp [AV.same,agl]at h;rw [VE h.1.1.1,h.1.1.2,h.1.2,h.2]
 | .map none,x,h=>by
  cases x with
  |map r=>cases r<;>simp [AV.same]at h;rfl
  |_=>simp [AV.same]at h
 | .map (some r),x,h=>by
  cases x with
  |map r=>cases r<;>simp [AV.same,agl]at h;rw [h]
  |_=>simp [AV.same]at h
 | .func f x y,z,h=>by
  cases z<;>simp [AV.same,agl]at h;rw [h.1.1,AV.qn _ _ h.1.2,AV.qn _ _ h.2]
 | .yield l,z,h=>by cases z<;>simp [AV.same,agl]at h;rw [h]
 | .nilFunc,z,h=>by cases z<;>simp [AV.same]at h;rfl
 | .iface t v,z,h=>by
  cases z<;>simp [AV.same,agl]at h;rw [h.1,AV.dG _ _ h.2]
 | .nilIface,z,h=>by cases z<;>simp [AV.same]at h;rfl
 | .agg x,z,h=>by cases z<;>simp [AV.same]at h;rw [AV.qn _ _ h]
 | .tuple x,z,h=>by cases z<;>simp [AV.same]at h;rw [AV.qn _ _ h]
def AV.qn: ∀(a b:List AV),AV.mZ a b=true->a=b
 | [],[],_=>rfl
 |a::aCL,b::bs,h=>by
  simp [AV.mZ]at h;rw [AV.dG _ _ h.1,AV.qn _ _ h.2]
 | [],_::_,h=>by simp [AV.mZ]at h
 |_::_,[],h=>by simp [AV.mZ]at h
end
def AV.undef:AV:= .tuple []
inductive AX where
 |t (i:Nat)
 |c (v:AV)
inductive LKd where
 |int |bool |str
inductive EK where
 |bool |sn |EH |Fs |Ld |ptr
 |leaves (ks:List LKd)
inductive CK where
 |int (k:IntKind)
 |str
 |bytes
 |CL
 |toU
 |ofU (u sz:Nat)
inductive LK where
 |str |slice |map |cap
 |arr (n:Nat)
inductive PH where
 |mv (x:AX)
 |pick (c a b:AX)
 |alloc (t:Nat) (z:List AV)
 |box (x:AX)
 |build (z:List AV) (parts:List (Nat×Nat×AX))
 |BG (z:List AV) (len:Nat) (parts:List (Nat×Nat×AX))
 |ng (a:AX)
 |yS (n:Nat) (a:AX)
 |store (n:Nat) (a x:AX)
 |bin (op:BinOp) (x y:AX)
 |eqv (neg:Bool) (e:EK) (x y:AX)
 |un (op:UnOp) (x:AX)
 |conv (k:CK) (x:AX)
 |iface (t:Nat) (x:AX)
 |Kc (f:Nat) (first captured:List AX)
 |zy (z:List AV) (bytes:Nat) (l c:AX)
 |Aw (x:AX) (lo hi:Option AX)
 |slice (size:Nat) (x:AX) (lo hi mx:Option AX)
 |fld (off n:Nat) (agg:Bool) (x:AX)
 |qF (off:Nat) (x:AX)
 |AL (size:Nat) (x i:AX)
 |FK (len size:Nat) (x i:AX)
 |Nq (x i:AX)
 |Zc (len size:Nat) (agg:Bool) (x i:AX)
 |look (z:AV) (ok ks:Bool) (m k:AX)
 |P2
 |Q4 (ks:Bool) (m k v:AX)
 |ext (x:AX) (i:Nat)
 |GN (x:AX)
 |call (f:AX) (args:List AX)
 |len (k:LK) (x:AX)
 |append (e:Nat) (z:List AV) (bytes:Nat) (s x:AX)
 |sL (e:Nat) (z:List AV) (bytes:Nat) (s n:AX)
 |peq (neg:Bool) (x y:AX)
 |LG (x:AX)
 |Qo (t:Nat) (p n:AX)
 |copy (size:Nat) (d s:AX)
 |clear (z:List AV) (x:AX)
 |CR (mx:Bool) (xs:List AX)
 |del (ks:Bool) (m k:AX)
 |fail
structure bU where
 dst:Option Nat
 op:PH
 g:Option (Nat×Bool)
inductive dy where
 |skip
 |fail
 |region (ops:List bU)
 |lN (ops:List bU) (aBm:List (Nat×Nat))
 |seq (a b:dy)
 |cond (c:AX) (a b:dy)
 |block (id:Nat) (b:dy)
 |loop (b:dy)
 |ou (f:AX) (ps:List Nat) (assign body:dy)
 |exit (id:Nat)
 |ret
structure AF where
 n:Nat
 m:PT AV
def AF.get (f:AF) (i:Nat):AV:=match f.m.get i with |some v=>v |none=> .undef
def AF.put (f:AF) (d:Option Nat) (v:AV):Option AF:=
 match d with
 |none=>some f
 |some d=>cond (ak3 d f.n) (some {f with m:=f.m.set d (some v)}) none
def AF.ev (f:AF):AX->AV
 | .t i=>f.get i
 | .c v=>v
def AF.Zx:PT AV->Nat->List AV->PT AV
 |m,_,[]=>m
 |m,i,v::vs=>AF.Zx (m.set i (some v)) (i+1) vs
def AF.init (a:List AV) (n:Nat):AF:= {n:=max a.length n,m:=AF.Zx .leaf 0 a}
structure atq where
 st:LoopState
 Be:Option dy
 f:AF
 ps:List Nat
 assign:dy
 body:dy
inductive AB where
 |cells (c:List AV) (ro:Bool) (el:Option (Nat×Bool))
 |map (es:List (AV×AV))
 |loop (l:atq)
structure AH where
 m:PT AB
 next:Nat
def AH.get (h:AH) (i:Nat):Option AB:=h.m.get i
def AH.set (h:AH) (i:Nat) (b:Option AB):AH:= {h with m:=h.m.set i b}
def AH.new (h:AH) (b:AB):AH:= {m:=h.m.set h.next (some b),next:=h.next+1}
def cellsOf:AV->List AV
 | .agg a=>a
 |v=> [v]
def bu:List AV->Nat->List AV->List AV
 |a,_,[]=>a
 |a,o,v::vs=>bu (a.set o v) (o+1) vs
def fill (f:AF):List AV->List (Nat×Nat×AX)->Option (List AV)
 |d,[]=>some d
 |d,(b,a,x)::c=>
  let v:=cellsOf (f.ev x)
  cond (acK v.length a&&aiv (b+a) d.length) (fill f (bu d b v) c) none
def rep (z:List AV):Nat->List AV
 |0=> []
 |n+1=>z++rep z n
def Bn (b:Bool) (n:Nat) (cs:List AV) (a:Nat):Option AV:=
 match b with
 |true=>cond (aiv (a+n) cs.length) (some (.agg ((cs.drop a).take n))) none
 |false=>cs[a]?
def ba (a:Nat×Nat) (n:Nat):Nat×Nat:=(a.1,a.2+n)
def bZ (a b:Int):Bool:=decide (a<b)
def dD (a b:Int):Bool:=decide (a<=b)
def acA (k:IntKind) (a b:Int) (op:Nat->Nat->Nat):AV:= .int k (k.wrap (ahd (op (BitVec.ofInt k.bits a).toNat (BitVec.ofInt k.bits b).toNat)))
def bz:BinOp->Bool
 | .shl | .shr=>true
 |_=>false
def XW (op:BinOp) (k:IntKind) (a:Int):Int->Option AV
 | .ofNat y=>
  let n:=cond (aiv y k.bits) y k.bits
  match op with
  | .shl=>some (.int k (k.wrap (a*ahd (2^n))))
  | .shr=>some (.int k (a.fdiv (ahd (2^n))))
  |_=>none
 | .negSucc _=>none
def bR (op:BinOp) (k:IntKind) (a b:Int):Option AV:=
 match op with
 | .add=>some (.int k (k.wrap (a+b)))
 | .sub=>some (.int k (k.wrap (a-b)))
 | .mul=>some (.int k (k.wrap (a*b)))
 | .quo=>cond (Int.same b 0) none (some (.int k (k.wrap (a.tdiv b))))
 | .rem=>cond (Int.same b 0) none (some (.int k (a.tmod b)))
 | .eql=>some (.bool (Int.same a b))
 | .neq=>some (.bool (!Int.same a b))
 | .lss=>some (.bool (bZ a b))
 | .leq=>some (.bool (dD a b))
 | .gtr=>some (.bool (bZ b a))
 | .geq=>some (.bool (dD b a))
 | .and=>some (acA k a b Nat.land)
 | .or=>some (acA k a b Nat.lor)
 | .xor=>some (acA k a b Nat.xor)
 | .andNot=>some (acA k a b λx y=>Nat.land x (2^k.bits-1-y))
 |_=>none
def CI:List UInt8->List UInt8->Bool
 |_,[]=>false
 | [],_::_=>true
 |a::x,b::y=>ak3 a.toNat b.toNat ||(acK a.toNat b.toNat&&CI x y)
def bS (op:BinOp) (a b:List UInt8):Option AV:=
 match op with
 | .add=>cond (aiv (a.length+b.length) 9223372036854775807) (some (.str (a++b))) none
 | .eql=>some (.bool (aD a b))
 | .neq=>some (.bool (!aD a b))
 | .lss=>some (.bool (CI a b))
 | .geq=>some (.bool (!CI a b))
 | .leq=>some (.bool (CI a b ||aD a b))
 | .gtr=>some (.bool (!(CI a b ||aD a b)))
 |_=>none
def Ow:LKd->AV->AV->Option Bool
 | .int,.int k a,.int c b=>cond (IntKind.same k c) (some (Int.same a b)) none
 | .bool,.bool a,.bool b=>some (a==b)
 | .str,.str a,.str b=>some (aD a b)
 |_,_,_=>none
def og:List LKd->List AV->List AV->Option Bool
 | [],[],[]=>some true
 |k::c,a::aCL,b::d=>
  match Ow k a b with
  |some true=>og c aCL d
  |some false=>match og c aCL d with |some _=>some false |none=>none
  |none=>none
 |_,_,_=>none
def yD:EK->AV->AV->Option Bool
 | .bool,.bool a,.bool b=>some (a==b)
 | .sn,.slice none _ _ _,.slice b _ _ _=>some b.isNone
 | .sn,.slice (some _) _ _ _,.slice none _ _ _=>some false
 | .EH,.nilFunc,.nilFunc=>some true
 | .EH,.nilFunc,.func _ _ _ | .EH,.func _ _ _,.nilFunc=>some false
 | .Fs,.nilIface,.iface _ _ | .Fs,.iface _ _,.nilIface=>some false
 | .Ld,.nilIface,.nilIface=>some true
 | .Ld,.nilIface,.iface _ _ | .Ld,.iface _ _,.nilIface=>some false
 | .ptr,.ptr none,.ptr b=>some b.isNone
 | .ptr,.ptr (some _),.ptr none=>some false
 | .leaves c,.agg a,.agg b=>og c a b
 |_,_,_=>none
def bound (x:Option AX) (f:AF) (a b:Nat):Option Nat:=
 match x with
 |none=>some a
 |some x=>
  match f.ev x with
  | .int _ (.ofNat i)=>cond (aiv i b) (some i) none
  |_=>none
def nA (c b:Option AX) (f:AF) (a cap m:Nat):Option Nat:=
 match c with
 |none=>bound b f a cap
 |some _=>match b with |some d=>bound (some d) f 0 m |none=>none
def afN (a:Option AX) (ex:Nat):Nat:=match a with |none=>ex |some _=>0
def uK:AV->Option Nat
 | .int _ (.ofNat i)=>some i
 |_=>none
def mm (c:Bool):AV->AV->Option AV
 | .int k a,.int d b=>some (.int k (cond c (cond (bZ a b) b a) (cond (bZ b a) b a)))
 |_,_=>none
def aeW (a:Bool):AV->List AV->Option AV
 |x,[]=>some x
 |x,y::r=>match mm a x y with |some z=>aeW a z r |none=>none
def aw (op:PH) (f:AF):Option AV:=
 match op with
 | .mv x=>some (f.ev x)
 | .pick c a b=>match f.ev c with | .bool true=>some (f.ev a) | .bool false=>some (f.ev b) |_=>none
 | .build z E=>match fill f z E with |some q=>some (.agg q) |none=>none
 | .bin op x y=>
  match f.ev x,f.ev y with
  | .int k a,.int F b=>cond (bz op) (XW op k a b) (cond (IntKind.same k F) (bR op k a b) none)
  | .str a,.str b=>bS op a b
  |_,_=>none
 | .eqv v e x y=>match yD e (f.ev x) (f.ev y)with |some b=>some (.bool (cond v (!b) b)) |none=>none
 | .un .not x=>match f.ev x with | .bool b=>some (.bool (!b)) |_=>none
 | .un .neg x=>match f.ev x with | .int k n=>some (.int k (k.wrap (0-n))) |_=>none
 | .un _ _=>none
 | .conv (.int k) x=>match f.ev x with | .int _ n=>some (.int k (k.wrap n)) |_=>none
 | .conv .str x=>match f.ev x with | .str s=>some (.str s) |_=>none
 | .conv .bytes _ | .conv .CL _ | .conv .toU _ | .conv (.ofU _ _) _=>none
 | .LG x=>match f.ev x with | .slice none _ _ _=>some (.ptr none) | .slice (some a) _ c _=>cond (ak3 0 c) (some (.ptr (some a))) none |_=>none
 | .iface t x=>some (.iface t (f.ev x))
 | .Kc g a b=>some (.func g (a.map f.ev) (b.map f.ev))
 | .Aw x w A=>
  match f.ev x with
  | .str s=>
   match bound A f s.length s.length with
   |some h=>match bound w f 0 h with |some l=>some (.str ((s.drop l).take (h-l))) |none=>none
   |none=>none
  |_=>none
 | .slice d x w A u=>
  match f.ev x with
  | .slice a len j D=>
   match bound u f j j with
   |some m=>
    match nA u A f len j m with
    |some h=>
     match bound w f 0 h with
     |some l=>
      match a with
      |none=>some (.slice none (h-l) (m-l) 0)
      |some a=>cond (acK D 0 ||acK D d) (some (.slice (some (ba a (l*d))) (h-l) (m-l) (afN u D))) none
     |none=>none
    |none=>none
   |none=>none
  |_=>none
 | .fld p n agg x=>match f.ev x with | .agg q=>Bn agg n q p |_=>none
 | .qF p x=>match f.ev x with | .ptr (some a)=>some (.ptr (some (ba a p))) |_=>none
 | .AL d x i=>
  match f.ev x,uK (f.ev i)with
  | .slice (some a) len _ _,some i=>cond (ak3 i len) (some (.ptr (some (ba a (i*d))))) none
  |_,_=>none
 | .FK len d x i=>
  match f.ev x,uK (f.ev i)with
  | .ptr (some a),some i=>cond (ak3 i len) (some (.ptr (some (ba a (i*d))))) none
  |_,_=>none
 | .Nq x i=>
  match f.ev x,uK (f.ev i)with
  | .str s,some i=>match s[i]? with |some b=>some (.int .u8 (ahd b.toNat)) |none=>none
  |_,_=>none
 | .Zc len d agg x i=>
  match f.ev x,uK (f.ev i)with
  | .agg q,some i=>cond (ak3 i len) (Bn agg d q (i*d)) none
  |_,_=>none
 | .ext x i=>match f.ev x with | .tuple vs=>vs[i]? |_=>none
 | .GN x=>match f.ev x with | .ptr none | .nilIface | .nilFunc=>none | .func _ _ _=>some (f.ev x) | .yield _=>some (f.ev x) | .ptr (some _)=>some (f.ev x) |_=>none
 | .len .str x=>match f.ev x with | .str s=>some (.int .i64 (ahd s.length)) |_=>none
 | .len .slice x=>match f.ev x with | .slice _ n _ _=>some (.int .i64 (ahd n)) |_=>none
 | .len .cap x=>match f.ev x with | .slice none _ _ _=>some (.int .i64 0) | .slice (some _) _ c 0=>some (.int .i64 (ahd c)) |_=>none
 | .len (.arr n) x=>some (.int .i64 (ahd n))
 | .CR u G=>match G with | []=>none |x::r=>aeW u (f.ev x) (r.map f.ev)
 |_=>none
def db (h:AH) (a:Nat×Nat) (n:Nat):Option (List AV):=
 match h.get a.1 with
 |some (.cells c _ _)=>cond (aiv (a.2+n) c.length) (some ((c.drop a.2).take n)) none
 |_=>none
def LU:AV->AV->Option Bool
 | .int k a,.int c b=>cond (IntKind.same k c) (some (Int.same a b)) none
 | .str a,.str b=>some (aD a b)
 |_,_=>none
def C7:Bool->AV->Bool
 |true,.str _=>true
 |false,.int _ _=>true
 |_,_=>false
def findKey (k:AV):List (AV×AV)->Option (Option AV)
 | []=>some none
 |(a,v)::b=>match LU k a with |some true=>some (some v) |some false=>findKey k b |none=>none
def bytesOf:List AV->Option (List UInt8)
 | []=>some []
 | .int .u8 (.ofNat n)::r=>match bytesOf r with |some l=>some (avM n::l) |none=>none
 |_=>none
def aR (op:PH) (f:AF) (h:AH):Option AV:=
 match op with
 | .ng a=>match f.ev a with | .ptr (some a)=>(match h.get a.1 with |some (.cells c _ _)=>c[a.2]? |_=>none) |_=>none
 | .yS n a=>match f.ev a with | .ptr (some a)=>(match db h a n with |some j=>some (.agg j) |none=>none) |_=>none
 | .look z q s m k=>
  match f.ev m with
  | .map (some r)=>
   match h.get r with
   |some (.map p)=>
    cond (C7 s (f.ev k)) (match findKey (f.ev k) p with
    |some (some v)=>some (cond q (.tuple [v,.bool true]) v)
    |some none=>some (cond q (.tuple [z,.bool false]) z)
    |none=>none) none
   |_=>none
  |_=>none
 | .len .map m=>
  match f.ev m with
  | .map (some r)=>match h.get r with |some (.map p)=>some (.int .i64 (ahd p.length)) |_=>none
  |_=>none
 | .conv .bytes x=>
  match f.ev x with
  | .slice none _ _ _=>some (.str [])
  | .slice (some a) n _ _=>match db h a n with |some j=>(match bytesOf j with |some l=>some (.str l) |none=>none) |none=>none
  |_=>none
 | .conv .toU x=>
  match f.ev x with
  | .ptr none=>some (.ptr none)
  | .ptr (some a)=>match h.get a.1 with |some (.cells c _ _)=>cond (ak3 a.2 c.length) (some (.ptr (some a))) none |_=>none
  |_=>none
 | .conv (.ofU u w) x=>
  match f.ev x with
  | .ptr none=>some (.ptr none)
  | .ptr (some a)=>match h.get a.1 with |some (.cells c _ (some (t,true)))=>cond (acK a.2 0&&acK t u&&aiv w c.length) (some (.ptr (some a))) none |_=>none
  |_=>none
 | .peq d x y=>
  match f.ev x,f.ev y with
  | .ptr none,.ptr b=>some (.bool (cond d b.isSome b.isNone))
  | .ptr (some _),.ptr none=>some (.bool d)
  | .ptr (some a),.ptr (some b)=>match h.get a.1 with |some (.cells _ _ _)=>cond (D7 (some a) (some b)) (some (.bool (!d))) none |_=>none
  |_,_=>none
 |_=>none
def aW (op:PH) (f:AF) (id:Nat):Option (AV×AB):=
 match op with
 | .alloc t z=>some (.ptr (some (id,0)),.cells z false (some (t,true)))
 | .box x=>some (.ptr (some (id,0)),.cells (cellsOf (f.ev x)) false none)
 | .BG z a b=>match fill f (rep z a) b with |some d=>some (.slice (some (id,0)) a a 0,.cells d false none) |none=>none
 | .zy z bytes l c=>
  match uK (f.ev l),uK (f.ev c)with
  |some l,some c=>cond (aiv l c&&aiv (c*bytes) 1099511627776&&aiv c 1099511627776) (some (.slice (some (id,0)) l c 0,.cells (rep z c) false none)) none
  |_,_=>none
 | .P2=>some (.map (some id),.map [])
 |_=>none
def K8 (k v:AV):List (AV×AV)->Option (List (AV×AV))
 | []=>some [(k,v)]
 |(a,c)::b=>match LU k a with |some true=>some ((k,v)::b) |some false=>(match K8 k v b with |some r=>some ((a,c)::r) |none=>none) |none=>none
def delKey (k:AV):List (AV×AV)->Option (List (AV×AV))
 | []=>some []
 |(a,c)::b=>match LU k a with |some true=>some b |some false=>(match delKey k b with |some r=>some ((a,c)::r) |none=>none) |none=>none
def aB:List AV->Bool
 | []=>true
 | .agg _::_ | .tuple _::_=>false
 |_::r=>aB r
def bd (h:AH) (a:Nat×Nat) (vs:List AV):Option AH:=
 match h.get a.1 with
 |some (.cells c false b)=>cond (aiv (a.2+vs.length) c.length&&aB vs) (some (h.set a.1 (some (.cells (bu c a.2 vs) false b)))) none
 |_=>none
def eu (h:AH) (c:Nat) (x:AV) (n:Nat):Option (List AV):=
 match x with
 | .slice none _ _ _=>cond (acK n 0) (some []) none
 | .slice (some a) _ _ _=>db h a (n*c)
 | .str s=>some ((s.take n).map λb=> .int .u8 (ahd b.toNat))
 |_=>none
def ja:AV->Option Nat
 | .slice _ n _ _=>some n
 | .str s=>some s.length
 |_=>none
def QH (e:Nat):Option (Nat×Bool)->Option (Nat×Bool)
 |some (t,_)=>cond (acK t e) (some (t,false)) none
 |none=>none
def ew (h:AH) (e:Nat) (z:List AV) (bytes:Nat) (s x:AV):Option (AV×AH):=
 match s,ja x with
 | .slice f b j k,some n=>
  match eu h z.length x n with
  |none=>none
  |some d=>
   cond (aiv (b+n) j)
    (match f with
     |none=>some (.slice none (b+n) j k,h)
     |some a=>match bd h (ba a (b*z.length)) d with |some p=>some (.slice (some a) (b+n) j k,p) |none=>none)
    (cond (aiv ((b+n)*bytes) 1099511627776&&aiv (b+n) 1099511627776&&acK d.length (n*z.length))
     (match f with
      |none=>some (.slice (some (h.next,0)) (b+n) (b+n) z.length,h.new (.cells d false (some (e,true))))
      |some a=>
       match h.get a.1,db h a (b*z.length)with
       |some (.cells c q r),some l=>
        let t:=cond (acK k 0) h (h.set a.1 none)
        cond (acK k 0 ||(acK k z.length&& !q&&aB d)) (some (.slice (some (h.next,0)) (b+n) (b+n) z.length,t.new (.cells (l++d) false (cond (acK k 0) (some (e,true)) (QH e r))))) none
       |_,_=>none)
     none)
 |_,_=>none
def nk (f:AF):List AX->List AV
 | []=> []
 |x::a=>f.ev x::nk f a
abbrev CV:=AV->List AV->AH->Option (AV×AH)
def aZ (cv:CV) (op:PH) (f:AF) (h:AH):Option (AV×AH):=
 match op with
 | .store n a x=>
  match f.ev a with
  | .ptr (some a)=>
   let vs:=cellsOf (f.ev x)
   cond (acK vs.length n) (match bd h a vs with |some q=>some (.undef,q) |none=>none) none
  |_=>none
 | .Q4 A m k v=>
  match f.ev m with
  | .map (some r)=>match h.get r with
   |some (.map D)=>cond (C7 A (f.ev k)) (match K8 (f.ev k) (f.ev v) D with |some j=>some (.undef,h.set r (some (.map j))) |none=>none) none
   |_=>none
  |_=>none
 | .del A m k=>
  match f.ev m with
  | .map (some r)=>match h.get r with
   |some (.map D)=>cond (C7 A (f.ev k)) (match delKey (f.ev k) D with |some j=>some (.tuple [],h.set r (some (.map j))) |none=>none) none
   |_=>none
  |_=>none
 | .append e z bytes s x=>ew h e z bytes (f.ev s) (f.ev x)
 | .sL e z bytes s n=>
  match f.ev s,uK (f.ev n)with
  | .slice none _ _ _,some n=>cond (ak3 0 n&&aiv (n*bytes) 1099511627776&&aiv n 1099511627776) (some (.slice (some (h.next,0)) n n z.length,h.new (.cells (rep z n) false (some (e,true))))) none
  |_,_=>none
 | .copy w d s=>
  match f.ev d,ja (f.ev s)with
  | .slice y F _ _,some G=>
   let n:=cond (aiv G F) G F
   match eu h w (f.ev s) n with
   |none=>none
   |some E=>
    match y with
    |none=>some (.int .i64 (ahd n),h)
    |some a=>match bd h a E with |some q=>some (.int .i64 (ahd n),q) |none=>none
  |_,_=>none
 | .clear z x=>
  match f.ev x with
  | .slice none _ _ _=>some (.tuple [],h)
  | .slice (some a) n _ _=>cond (acK n 0) (some (.tuple [],h)) (match bd h a (rep z n)with |some q=>some (.tuple [],q) |none=>none)
  |_=>none
 | .conv .CL x=>
  match f.ev x with
  | .str s=>some (.slice (some (h.next,0)) s.length s.length 1,h.new (.cells (s.map λb=> .int .u8 (ahd b.toNat)) false none))
  |_=>none
 | .Qo t p n=>
  match f.ev p,uK (f.ev n)with
  | .ptr none,some n=>cond (acK n 0) (some (.str [],h)) none
  | .ptr (some a),some n=>cond (acK n 0) (some (.str [],h))
   (match h.get a.1 with
    |some (.cells c I (some (u,b)))=>cond (acK u t&&aiv n 1099511627776) (match db h a n with
     |some E=>(match bytesOf E with |some l=>some (.str l,h.set a.1 (some (.cells c true (some (u,b))))) |none=>none)
     |none=>none) none
    |_=>none)
  |_,_=>none
 | .call g H=>cv (f.ev g) (nk f H) h
 |_=>none
inductive Cls where
 |P |R |A |E
def cls:PH->Cls
 | .ng _ | .yS _ _ | .look _ _ _ _ _ | .len .map _ | .conv .bytes _ | .conv .toU _ | .conv (.ofU _ _) _ | .peq _ _ _=> .R
 | .alloc _ _ | .box _ | .BG _ _ _ | .zy _ _ _ _ | .P2=> .A
 | .store _ _ _ | .Q4 _ _ _ _ | .del _ _ _ | .append _ _ _ _ _ | .sL _ _ _ _ _ | .copy _ _ _ | .clear _ _ | .conv .CL _ | .Qo _ _ _ | .call _ _=> .E
 |_=> .P
def dQ (cv:CV) (op:PH) (f:AF) (h:AH):Option (AV×AH):=
 match cls op with
 | .P=>match aw op f with |some v=>some (v,h) |none=>none
 | .R=>match aR op f h with |some v=>some (v,h) |none=>none
 | .A=>match aW op f h.next with |some (v,b)=>some (v,h.new b) |none=>none
 | .E=>aZ cv op f h
def aT (f:AF):Option (Nat×Bool)->Bool
 |none=>true
 |some (t,b)=>match f.get t with | .bool c=>c==b |_=>false
def bt (cv:CV):List bU->AF->AH->Option (AF×AH)
 | [],f,h=>some (f,h)
 |o::b,f,h=>
  match aT f o.g with
  |false=>match f.put o.dst .undef with |some a=>bt cv b a h |none=>none
  |true=>
   match dQ cv o.op f h with
   |some (v,c)=>match f.put o.dst v with |some a=>bt cv b a c |none=>none
   |none=>none
def bJ (op:PH) (f:AF) (v:AV) (m:Nat):List (Nat×AH)->Bool
 | []=>true
 |(e,g)::a=>
  match aR op f g with
  |some b=>AV.same b v&&cond (azi m e) true (bJ op f v m a)
  |none=>false
def cW (cv:CV) (ops:List bU):List (Nat×Nat)->AF->AH->List (Nat×AH)->Option (AF×AH)
 | [],f,h,_=>some (f,h)
 |(i,m)::c,f,h,a=>
  match ops[i]? with
  |none=>none
  |some o=>
   match aT f o.g with
   |false=>match f.put o.dst .undef with |some d=>cW cv ops c d h a |none=>none
   |true=>
    match cls o.op with
    | .P=>match aw o.op f with
     |some v=>(match f.put o.dst v with |some d=>cW cv ops c d h a |none=>none)
     |none=>none
    | .R=>match a with
     | []=>none
     |(e,g)::j=>match aR o.op f g with
      |some v=>cond (bJ o.op f v m ((e,g)::j)) (match f.put o.dst v with |some d=>cW cv ops c d h a |none=>none) none
      |none=>none
    | .A=>match aW o.op f h.next with
     |some (v,b)=>(match f.put o.dst v with |some d=>cW cv ops c d (h.new b) a |none=>none)
     |none=>none
    | .E=>match aZ cv o.op f h with
     |some (v,k)=>(match f.put o.dst v with |some d=>cW cv ops c d k ((i,k)::a) |none=>none)
     |none=>none
inductive AE where
 |normal
 |exit (id:Nat)
 |ret
inductive afj where
 |t (i:Nat)
 |c1 (i:Nat)
 |cN (i n:Nat)
structure AFn where
 ntmps:Nat
 res:List afj
 body:dy
structure Env where
 fn:Nat->Option AFn
 vP:Nat->List AV->Option AV
 ext:Nat->Option (List AV->AH->Option (AV×AH))
abbrev XF:=dy->AF->AH->Option (AE×AF×AH)
abbrev CF:=Nat->List AV->AH->Option (AV×AH)
def mh:AF->List Nat->List AV->Option AF
 |f,[],[]=>some f
 |f,p::a,v::vs=>match f.put (some p) v with |some b=>mh b a vs |none=>none
 |_,_,_=>none
def AE.Be:AE->Option dy
 | .normal=>none
 | .exit id=>some (.exit id)
 | .ret=>some .ret
def gA (x:XF) (c:CF) (g:AV) (d:List AV) (h:AH):Option (AV×AH):=
 match g with
 | .func f a b=>c f (a++d++b) h
 | .yield l=>
  match h.get l with
  |some (.loop r)=>
   match mh r.f r.ps d with
   |none=>none
   |some f=>
    match x r.assign f h with
    |some (.normal,p,j)=>
     match j.get l with
     |some (.loop k)=>
      match k.st with
      | .ready=>
       match x r.body p (j.set l (some (.loop {k with st:= .busy})))with
       |some (e,_,n)=>
        match n.get l with
        |some (.loop q)=>some (.bool (match e with | .normal=>true |_=>false),n.set l (some (.loop {q with st:=(match e with | .normal=> .ready |_=> .done),Be:=e.Be})))
        |_=>none
       |none=>none
      |_=>none
     |_=>none
    |_=>none
  |_=>none
 |_=>none
def nt (x:XF) (c:CF):XF:=λp f h=>
 match p with
 | .skip=>some (.normal,f,h)
 | .fail=>none
 | .region n=>match bt (gA x c) n f h with |some (d,k)=>some (.normal,d,k) |none=>none
 | .lN n q=>match cW (gA x c) n q f h [(n.length,h)]with |some (d,k)=>some (.normal,d,k) |none=>none
 | .seq a b=>
  match x a f h with
  |some (.normal,d,k)=>x b d k
  |r=>r
 | .cond v a b=>match f.ev v with | .bool true=>x a f h | .bool false=>x b f h |_=>none
 | .block id b=>
  match x b f h with
  |some (.exit i,d,k)=>cond (acK i id) (some (.normal,d,k)) (some (.exit i,d,k))
  |r=>r
 | .loop b=>
  match x b f h with
  |some (.normal,d,k)=>x (.loop b) d k
  |r=>r
 | .ou g ps aCL body=>
  let l:=h.next
  match f.ev g with
  | .func t u w=>
  (match c t (u++ [.yield l]++w) (h.new (.loop {st:= .ready,Be:=none,f:=f,ps:=ps,assign:=aCL,body:=body}))with
  |some (_,s)=>
   match s.get l with
   |some (.loop r)=>
    match r.st with
    | .busy=>none
    |_=>match r.Be with
     |none=>some (.normal,f,s.set l none)
     |some j=>x j f (s.set l none)
   |_=>none
  |none=>none)
  |_=>none
 | .exit id=>some (.exit id,f,h)
 | .ret=>some (.ret,f,h)
def mE (f:AF) (h:AH):afj->Option AV
 | .t i=>some (f.get i)
 | .c1 i=>match f.get i with | .ptr (some a)=>(match h.get a.1 with |some (.cells c _ _)=>c[a.2]? |_=>none) |_=>none
 | .cN i n=>match f.get i with | .ptr (some a)=>(match db h a n with |some b=>some (.agg b) |none=>none) |_=>none
def fp (f:AF) (h:AH):List afj->Option (List AV)
 | []=>some []
 |r::a=>match mE f h r with |some v=>(match fp f h a with |some l=>some (v::l) |none=>none) |none=>none
def ID (E:Env) (x:XF):CF:=λg a h=>
 match E.vP g a with
 |some v=>some (v,h)
 |none=>
 match E.ext g with
 |some p=>match p a h with |some (v,b)=>cond (aiv h.next b.next) (some (v,b)) none |none=>none
 |none=>
  match E.fn g with
  |none=>none
  |some F=>
   match x F.body (AF.init a F.ntmps) h with
   |some (.normal,f,b) |some (.ret,f,b)=>
    match fp f b F.res with
    |some [v]=>some (v,b)
    |some l=>some (.tuple l,b)
    |none=>none
   |_=>none
structure Fns where
 x:XF
 c:CF
def fns (E:Env) (n:Nat):Fns:=
 Nat.rec ⟨λ_ _ _=>none,λ_ _ _=>none⟩ (λ_ r=>⟨nt r.x r.c,ID E r.x⟩) n
def exec (E:Env) (n:Nat):XF:=(fns E n).x
def Dg (E:Env) (n:Nat):CF:=(fns E n).c
def ahi E c f h:exec E 0 c f h=none:=rfl
def aex E g a h:Dg E 0 g a h=none:=rfl
def Sa E n:exec E (n+1)=nt (exec E n) (Dg E n):=rfl
def Ns E n:Dg E (n+1)=ID E (exec E n):=rfl
end dC
namespace Ls
open dC
open Go
inductive Ty where
 |int (k:IntKind)
 |bool
 |str
 |list (t:Ty)
 |unit
 |pair (a b:Ty)
 |CH
 |bld (e:Nat)
 |ref (t:Ty)
@[reducible] def Ty.Den:Ty->Type
 | .int _=>Int
 | .bool=>Bool
 | .str=>List UInt8
 | .list t=>List t.Den
 | .unit=>Unit
 | .pair a b=>a.Den×b.Den
 | .CH=>Unit
 | .bld _=>Unit
 | .ref t=>t.Den
def Ty.w:Ty->Nat
 | .unit=>0
 | .pair a b=>a.w+b.w
 |_=>1
def Ty.same:Ty->Ty->Bool
 | .int k,.int c=>IntKind.same k c
 | .bool,.bool=>true
 | .str,.str=>true
 | .list a,.list b=>Ty.same a b
 | .unit,.unit=>true
 | .pair a b,.pair d f=>Ty.same a d&&Ty.same b f
 | .CH,.CH=>true
 | .bld e,.bld h=>acK e h
 | .ref a,.ref b=>Ty.same a b
 |_,_=>false
theorem Ty.dG: ∀ {a b},Ty.same a b=true->a=b
 | .int k,b,h=>by cases b<;>simp [Ty.same]at h;rw [IntKind.dG h]
 | .bool,b,h=>by cases b<;>simp [Ty.same]at h;rfl
 | .str,b,h=>by cases b<;>simp [Ty.same]at h;rfl
 | .unit,b,h=>by cases b<;>simp [Ty.same]at h;rfl
 | .CH,b,h=>by cases b<;>simp [Ty.same]at h;rfl
 | .bld e,b,h=>by cases b<;>simp only [Ty.same,reduceCtorEq,ab2]at h;rw [ahv h]
 | .list a,b,h=>by cases b<;>simp [Ty.same]at h;rw [Ty.dG h]
 | .ref a,b,h=>by cases b<;>simp [Ty.same]at h;rw [Ty.dG h]
 | .pair a c,b,h=>by cases b<;>simp [Ty.same]at h;rw [Ty.dG h.1,Ty.dG h.2]
def Ty.asT {α:Type} (t:Ty) (x:t.Den) (u:Ty) (k:u.Den->Option α):Option α:=
 match h:Ty.same t u with
 |true=>k (Ty.dG h▸x)
 |false=>none
def Ty.asL {α:Type} (t:Ty) (x:List t.Den) (u:Ty) (k:List u.Den->Option α):Option α:=
 match h:Ty.same t u with
 |true=>k (Ty.dG h▸x)
 |false=>none
inductive LV where
 |p6
 |val (t:Ty) (x:t.Den)
 |tight (t:Ty) (l:List t.Den)
 |nil
 |own (id:Nat)
 |part (id:Nat) (lo n:Int)
 |oG (id:Nat)
 |buf (id:Nat)
 |ptr (id off:Nat)
 |xO (id i off:Nat)
 |iX (cs:List LV) (off:Nat)
 |func (g:Nat) (first captured:List LV)
 |nilFunc
 |yield (id:Nat)
 |ET (id:Nat)
 |agg (cs:List LV)
 |tuple (vs:List LV)
inductive Co where
 |box
 |own (t:Ty)
 |fz (t:Ty)
 |part (t:Ty)
structure Canon where
 gQ:List Nat
 co:List (Nat×Option Nat×Co)
inductive ia where
 |skip
 |fail
 |region (ops:List bU) (ty:List (Nat×Ty))
 |lN (ops:List bU) (aBm:List (Nat×Nat)) (ty:List (Nat×Ty))
 |seq (a b:ia)
 |cond (c:AX) (a b:ia)
 |block (id:Nat) (b:ia)
 |loop (rs:Canon) (b:ia)
 |exit (id:Nat) (rs:Canon)
 |ret (rs:Canon)
 |canon (rs:Canon) (c:ia)
 |ou (g:AX) (ps:List Nat) (aCL body:ia)
def ia.erase:ia->dy
 | .skip=> .skip
 | .fail=> .fail
 | .region d _=> .region d
 | .lN d f _=> .lN d f
 | .seq a b=> .seq a.erase b.erase
 | .cond c a b=> .cond c a.erase b.erase
 | .block id b=> .block id b.erase
 | .loop _ b=> .loop b.erase
 | .exit id _=> .exit id
 | .ret _=> .ret
 | .canon _ c=>c.erase
 | .ou g h a b=> .ou g h a.erase b.erase
structure LFn where
 n:Nat
 res:List afj
 body:ia
def LFn.erase (F:LFn):AFn:=⟨F.n,F.res,F.body.erase⟩
structure LF where
 n:Nat
 r:List (Nat×LV)
inductive LB where
 |seq (t:Ty) (l:List t.Den)
 |buf (e:Nat) (l:List Int)
 |cells (cs:List LV)
 |loop (st:LoopState) (Be:Option AE) (fr:LF) (ps:List Nat) (aCL body:ia)
 |qW (ks:List Int) (vs:List LV)
 |KU (t:Ty) (l:List (Int×t.Den))
structure St where
 cur:LF
 mR:List LF
 h:List (Option LB)
mutual
def Jq:AV->LV
 | .int k n=> .val (.int k) n
 | .bool b=> .val .bool b
 | .str s=> .val .str s
 | .slice none 0 0 0=> .nil
 | .func g a b=> .func g (yy a) (yy b)
 | .nilFunc=> .nilFunc
 | .nilIface=> .val .CH ()
 | .agg l=> .agg (yy l)
 | .tuple l=> .tuple (yy l)
 |_=> .p6
def yy:List AV->List LV
 | []=> []
 |a::aCL=>Jq a::yy aCL
end
def dN:List (Nat×LV)->Nat->LV
 | [],_=> .p6
 |(j,v)::r,i=>cond (acK j i) v (dN r i)
def oS (f:LF):AX->LV
 | .t i=>dN f.r i
 | .c v=>Jq v
def agq (f:LF):List AX->List LV
 | []=> []
 |x::a=>oS f x::agq f a
def kp:LV->List LV
 | .agg a=>a
 |v=> [v]
def cd:List (Option LB)->Nat->Option LB
 | [],_=>none
 |b::_,0=>b
 |_::h,i+1=>cd h i
def hZ:List (Option LB)->Nat->Option LB->List (Option LB)
 | [],_,_=> []
 |_::h,0,b=>b::h
 |c::h,i+1,b=>c::hZ h i b
mutual
def aE:(t:Ty)->t.Den->List LV
 | .unit,_=> []
 | .pair a b,x=>aE a x.1++aE b x.2
 | .int k,x=> [.val (.int k) x]
 | .bool,x=> [.val .bool x]
 | .str,x=> [.val .str x]
 | .list t,x=> [.val (.list t) x]
 | .CH,x=> [.val .CH ()]
 | .bld _,x=> [.p6]
 | .ref t,x=> [.iX (aE t x) 0]
end
def ready (s:St) (id:Nat):Option LB:=cd s.h id
section
variable {α:Type}
def y5 (h:List (Option LB)) (v:LV) (u:Ty) (k:u.Den->Option α):Option α:=
 match v with
 | .val t x=>t.asT x u k
 | .tight t x=>(Ty.list t).asT x u k
 | .nil=>match u with | .list t=>k [] |_=>none
 | .own id=>match cd h id with |some (.seq t l)=>(Ty.list t).asT l u k |_=>none
 | .part id a n=>match cd h id with |some (.seq t l)=>(Ty.list t).asT ((l.drop a.toNat).take n.toNat) u k |_=>none
 |_=>none
def take (h:List (Option LB)):(u:Ty)->List LV->(u.Den->List LV->Option α)->Option α
 | .unit,d,k=>k () d
 | .pair a b,d,k=>take h a d λx n=>take h b n λy l=>k (x,y) l
 | .int i,c::d,k=>y5 h c (.int i) λx=>k x d
 | .bool,c::d,k=>y5 h c .bool λx=>k x d
 | .str,c::d,k=>y5 h c .str λx=>k x d
 | .list t,c::d,k=>y5 h c (.list t) λx=>k x d
 | .CH,c::d,k=>y5 h c .CH λx=>k x d
 | .bld _,_::_,_=>none
 | .ref t,c::d,k=>
  match c with
  | .iX lvs f=>cond (aiv (f+t.w) lvs.length) (take h t ((lvs.drop f).take t.w) λx j=>match j with | []=>k x d |_::_=>none) none
  | .ptr id f=>match cd h id with |some (.cells lvs)=>cond (aiv (f+t.w) lvs.length) (take h t ((lvs.drop f).take t.w) λx j=>match j with | []=>k x d |_::_=>none) none |_=>none
  |_=>none
 |_,[],_=>none
def J5:Ty->Bool
 | .ref _=>false
 | .pair a b=>J5 a&&J5 b
 |_=>true
def ahC (h:List (Option LB)) (u:Ty) (cs:List LV) (k:u.Den->Option α):Option α:=
 take h u cs λx a=>match a with | []=>k x |_::_=>none
def Oq (h:List (Option LB)) (u:Ty) (cs:List LV) (k:u.Den->Option α):Option α:=
 cond (J5 u) (ahC h u cs k) none
end
mutual
def jX:LV->List Nat
 | .own id | .ptr id _ | .xO id _ _ | .yield id | .part id _ _ | .oG id | .buf id | .ET id=> [id]
 | .iX cs _=>Px cs
 | .func _ a b=>Px a++Px b
 | .agg l | .tuple l=>Px l
 |_=> []
def Px:List LV->List Nat
 | []=> []
 |v::vs=>jX v++Px vs
end
mutual
def ck (i:Nat):LV->LV
 | .own id=>cond (acK id i) .p6 (.own id)
 | .part id lo n=>cond (acK id i) .p6 (.part id lo n)
 | .oG id=>cond (acK id i) .p6 (.oG id)
 | .buf id=>cond (acK id i) .p6 (.buf id)
 | .ptr id o=>cond (acK id i) .p6 (.ptr id o)
 | .xO id j o=>cond (acK id i) .p6 (.xO id j o)
 | .yield id=>cond (acK id i) .p6 (.yield id)
 | .ET id=>cond (acK id i) .p6 (.ET id)
 | .iX cs o=> .iX (nR i cs) o
 | .func g a b=> .func g (nR i a) (nR i b)
 | .agg l=> .agg (nR i l)
 | .tuple l=> .tuple (nR i l)
 |v=>v
def nR (i:Nat):List LV->List LV
 | []=> []
 |v::vs=>ck i v::nR i vs
end
def K3 (i:Nat):List (Nat×LV)->List (Nat×LV)
 | []=> []
 |(j,v)::r=>(j,ck i v)::K3 i r
def ac2 (i:Nat) (f:LF):LF:=⟨f.n,K3 i f.r⟩
def acO (i:Nat):List LF->List LF
 | []=> []
 |f::a=>ac2 i f::acO i a
def jF (i:Nat):Option LB->Option LB
 |some (.cells c)=>some (.cells (nR i c))
 |some (.loop d f h j a b)=>some (.loop d f (ac2 i h) j a b)
 |some (.qW k vs)=>some (.qW k (nR i vs))
 |b=>b
def dh (i:Nat):List (Option LB)->List (Option LB)
 | []=> []
 |b::h=>jF i b::dh i h
def St.ck (i:Nat) (s:St):St:=⟨ac2 i s.cur,acO i s.mR,dh i s.h⟩
def St.drop (i:Nat) (s:St):St:=let a:=s.ck i;⟨a.cur,a.mR,hZ a.h i none⟩
def St.put (s:St) (i:Nat) (b:LB):St:=⟨s.cur,s.mR,hZ s.h i (some b)⟩
def St.new (s:St) (b:LB):St:=⟨s.cur,s.mR,s.h++ [some b]⟩
def St.nx (s:St):Nat:=s.h.length
mutual
def iB:LV->Bool
 | .own _ | .part _ _ _=>true
 | .iX cs _=>Gn cs
 | .func _ a b=>Gn a ||Gn b
 | .agg l | .tuple l=>Gn l
 |_=>false
def Gn:List LV->Bool
 | []=>false
 |v::vs=>iB v ||Gn vs
end
def partOf (lo n:Int):LV->LV
 | .val (.list t) l=> .val (.list t) ((l.drop lo.toNat).take n.toNat)
 |_=> .p6
mutual
def MS (i:Nat) (w:LV):LV->LV
 | .own id=>cond (acK id i) w (.own id)
 | .part id lo n=>cond (acK id i) (partOf lo n w) (.part id lo n)
 | .oG id=>cond (acK id i) .p6 (.oG id)
 | .buf id=>cond (acK id i) .p6 (.buf id)
 | .ptr id o=>cond (acK id i) .p6 (.ptr id o)
 | .xO id j o=>cond (acK id i) .p6 (.xO id j o)
 | .yield id=>cond (acK id i) .p6 (.yield id)
 | .ET id=>cond (acK id i) .p6 (.ET id)
 | .iX cs o=> .iX (Ml i w cs) o
 | .func g a b=> .func g (Ml i w a) (Ml i w b)
 | .agg l=> .agg (Ml i w l)
 | .tuple l=> .tuple (Ml i w l)
 |v=>v
def Ml (i:Nat) (w:LV):List LV->List LV
 | []=> []
 |v::vs=>MS i w v::Ml i w vs
end
def ad3 (i:Nat) (w:LV):List (Nat×LV)->List (Nat×LV)
 | []=> []
 |(j,v)::r=>(j,MS i w v)::ad3 i w r
def ar0 (i:Nat) (w:LV) (f:LF):LF:=⟨f.n,ad3 i w f.r⟩
def ajY (i:Nat) (w:LV):List LF->List LF
 | []=> []
 |f::a=>ar0 i w f::ajY i w a
def NQ (i:Nat) (w:LV):Option LB->Option LB
 |some (.cells c)=>some (.cells (Ml i w c))
 |some (.loop d f h j a b)=>some (.loop d f (ar0 i w h) j a b)
 |some (.qW k vs)=>some (.qW k (Ml i w vs))
 |b=>b
def Gj (i:Nat) (w:LV):List (Option LB)->List (Option LB)
 | []=> []
 |b::h=>NQ i w b::Gj i w h
def GV:List (Nat×LV)->List Nat
 | []=> []
 |(j,v)::r=>cond (iB v) (j::GV r) (GV r)
def T1:List (Nat×LV)->Bool
 | []=>false
 |(_,v)::r=>iB v ||T1 r
def XN:Option LB->Bool
 |some (.cells a)=>Gn a
 |some (.loop _ _ b _ _ _)=>T1 b.r
 |some (.qW _ vs)=>Gn vs
 |_=>false
def RT:List (Option LB)->Nat->List Nat
 | [],_=> []
 |b::h,i=>cond (XN b) (i::RT h (i+1)) (RT h (i+1))
def St.freeze (i:Nat) (s:St):St:=
 match cd s.h i with
 |some (.seq t l)=>⟨ar0 i (.val (.list t) l) s.cur,ajY i (.val (.list t) l) s.mR,hZ (Gj i (.val (.list t) l) s.h) i none⟩
 |_=>s.drop i
def dW {a:Type} (l:List a) (i:Int):Option a:=cond (dD 0 i) (l[i.toNat]?) none
def C4 (i:Int) (n:Nat):Bool:=dD 0 i&&bZ i (n:Int)
def Q3:List LV->Nat->Option LV
 | [],_=>none
 |v::_,0=>some v
 |_::vs,i+1=>Q3 vs i
def azU (cs:List LV) (o n:Nat):Option (List LV):=cond (aiv (o+n) cs.length) (some ((cs.drop o).take n)) none
def Pw:List LV->Nat->LV->List LV
 | [],_,_=> []
 |_::vs,0,x=>x::vs
 |v::vs,i+1,x=>v::Pw vs i x
def Kf:List LV->Nat->List LV->List LV
 |a,_,[]=>a
 |a,o,v::vs=>Kf (Pw a o v) (o+1) vs
def IX:List LV->Bool
 | []=>true
 | .agg _::_ | .tuple _::_ | .p6::_=>false
 |_::r=>IX r
def cP:List LV->List Nat
 | []=> []
 | .own id::vs=>id::cP vs
 | .part id _ _::vs=>id::cP vs
 |_::vs=>cP vs
def fa:List LV->List LV
 | []=> []
 |v::vs=>kp v++fa vs
def qc:List Nat->St->St
 | [],s=>s
 |i::is,s=>qc is (s.freeze i)
def nu:List Nat->St->St
 | [],s=>s
 |i::is,s=>nu is (s.drop i)
def Z6:List (Nat×Ty)->Option Nat->Option Ty
 | [],_=>none
 |_,none=>none
 |(j,t)::r,some d=>cond (acK j d) (some t) (Z6 r (some d))
def tyV (h:List (Option LB)):LV->Option Ty
 | .val t _=>some t
 | .tight t _=>some (.list t)
 | .own id=>match cd h id with |some (.seq t _)=>some (.list t) |_=>none
 | .part id _ _=>match cd h id with |some (.seq t _)=>some (.list t) |_=>none
 |_=>none
def aco (h:List (Option LB)):List LV->Option Ty
 | []=>none
 | [v]=>tyV h v
 |v::vs=>match tyV h v,aco h vs with |some a,some b=>some (.pair a b) |_,_=>none
def acD (a b:Option Ty):Option Ty:=match a with |some t=>some t |none=>b
def ax9 (h:List (Option LB)):LV->Option Ty
 | .val (.list t) _=>some t
 | .val .str _=>some (.int .u8)
 | .tight t _=>some t
 | .own id=>match cd h id with |some (.seq t _)=>some t |_=>none
 | .part id _ _=>match cd h id with |some (.seq t _)=>some t |_=>none
 |_=>none
def dB (b:UInt8):Int:=ahd b.toNat
def dO (s:List UInt8):List Int:=s.map dB
def ofBytes (l:List Int):List UInt8:=l.map λn=>avM n.toNat
def um (l:List Int):Bool:=l.all λn=>dD 0 n
def fits (n bytes:Nat):Bool:=aiv (n*bytes) 1099511627776&&aiv n 1099511627776
def Ps (i:Nat):List Nat->Bool
 | []=>false
 |j::a=>cond (acK i j) true (Ps i a)
def axs (l:List Nat) (m:List Nat):Bool:=match l with | []=>false |i::is=>cond (Ps i m) true (axs is m)
def yK:AX->List Nat
 | .t i=> [i]
 | .c _=> []
def acw:List AX->List Nat
 | []=> []
 |x::a=>yK x++acw a
def aj1:Option AX->List Nat
 |none=> []
 |some x=>yK x
def ag4:List (Nat×Nat×AX)->List Nat
 | []=> []
 |(_,_,x)::r=>yK x++ag4 r
def sV:PH->List Nat
 | .mv x | .un _ x | .conv _ x | .iface _ x | .fld _ _ _ x | .qF _ x | .ext x _ | .GN x | .ng x | .yS _ x | .len _ x | .LG x=>yK x
 | .pick a b c=>yK a++yK b++yK c
 | .build _ h=>ag4 h
 | .bin _ x y | .eqv _ _ x y | .AL _ x y | .FK _ _ x y | .Nq x y | .Zc _ _ _ x y | .peq _ x y | .look _ _ _ x y=>yK x++yK y
 | .Kc _ a b=>acw a++acw b
 | .Aw x d f=>yK x++aj1 d++aj1 f
 | .slice _ x d f j=>yK x++aj1 d++aj1 f++aj1 j
 | .CR _ k=>acw k
 |_=> []
section
variable {α:Type}
def Ta (cs:List LV) (i:Nat) (k:LV->Option α):Option α:=match Q3 cs i with |some v=>k v |none=>none
def al8 (cs:List LV) (o n:Nat) (k:LV->Option α):Option α:=match azU cs o n with |some l=>k (.agg l) |none=>none
def ad2 (v:LV) (k:IntKind->Int->Option α):Option α:=match v with | .val (.int i) n=>k i n |_=>none
def av5 (n:Int):LV:= .val (.int .i64) n
def aix (op:BinOp) (i:IntKind) (a b:Int) (k:LV->Option α):Option α:=
 match op with
 | .add=>k (.val (.int i) (i.wrap (a+b)))
 | .sub=>k (.val (.int i) (i.wrap (a-b)))
 | .mul=>k (.val (.int i) (i.wrap (a*b)))
 | .quo=>cond (Int.same b 0) none (k (.val (.int i) (i.wrap (a.tdiv b))))
 | .rem=>cond (Int.same b 0) none (k (.val (.int i) (a.tmod b)))
 | .eql=>k (.val .bool (Int.same a b))
 | .neq=>k (.val .bool (!Int.same a b))
 | .lss=>k (.val .bool (bZ a b))
 | .leq=>k (.val .bool (dD a b))
 | .gtr=>k (.val .bool (bZ b a))
 | .geq=>k (.val .bool (dD b a))
 |_=>none
def ah9 (op:BinOp) (a b:List UInt8) (k:LV->Option α):Option α:=
 match op with
 | .add=>cond (aiv (a.length+b.length) 9223372036854775807) (k (.val .str (a++b))) none
 | .eql=>k (.val .bool (aD a b))
 | .neq=>k (.val .bool (!aD a b))
 | .lss=>k (.val .bool (CI a b))
 | .geq=>k (.val .bool (!CI a b))
 | .leq=>k (.val .bool (CI a b ||aD a b))
 | .gtr=>k (.val .bool (!(CI a b ||aD a b)))
 |_=>none
def asK (e:LKd) (a b:LV) (k:Bool->Option α):Option α:=
 match e,a,b with
 | .int,.val (.int i) a,.val (.int j) b=>cond (IntKind.same i j) (k (Int.same a b)) none
 | .bool,.val .bool a,.val .bool b=>k (a==b)
 | .str,.val .str a,.val .str b=>k (aD a b)
 |_,_,_=>none
def No:List LKd->List LV->List LV->(Bool->Option α)->Option α
 | [],[],[],k=>k true
 |e::c,a::aCL,b::d,k=>asK e a b λx=>No c aCL d λy=>k (x&&y)
 |_,_,_,_=>none
def eqL (e:EK) (a b:LV) (k:Bool->Option α):Option α:=
 match e,a,b with
 | .bool,.val .bool a,.val .bool b=>k (a==b)
 | .leaves c,.agg a,.agg b=>No c a b k
 | .sn,.nil,.nil=>k true
 | .Ld,.val .CH _,.val .CH _=>k true
 | .EH,.nilFunc,.nilFunc=>k true
 | .EH,.nilFunc,.func _ _ _=>k false
 | .EH,.func _ _ _,.nilFunc=>k false
 |_,_,_=>none
def auh (c:Bool) (a b:LV) (k:LV->Option α):Option α:=
 match a,b with
 | .val t x,.val u y=>Ty.asT u y t λy=>k (.val t (cond c x y))
 |a,b=>cond c (k a) (k b)
def mmL (c:Bool) (i:IntKind) (a:Int):List LV->(LV->Option α)->Option α
 | [],k=>k (.val (.int i) a)
 | .val (.int j) b::r,k=>cond (IntKind.same i j) (mmL c i (cond c (cond (bZ a b) b a) (cond (bZ b a) b a)) r k) none
 |_,_=>none
def Ul (f:LF) (x:Option AX) (a:Int) (b:Int) (k:Int->Option α):Option α:=
 match x with
 |none=>k a
 |some x=>ad2 (oS f x) λ_ i=>cond (dD 0 i&&dD i b) (k i) none
def cut {a:Type} (l:List a) (lo b:Option AX) (i j:Int):List a:=
 match lo,b with
 |none,none=>l
 |some _,none=>l.drop i.toNat
 |none,some _=>l.take j.toNat
 |some _,some _=>(l.take j.toNat).drop i.toNat
def aqD (l:List UInt8) (lo a:Option AX) (i j:Int):List UInt8:=
 match lo,a with
 |none,none=>l
 |some _,none=>l.drop i.toNat
 |none,some _=>l.take j.toNat
 |some _,some _=>(l.drop i.toNat).take (j.toNat-i.toNat)
def aps (cs:List LV) (a:Nat) (b:Bool) (i:Int):Nat->Nat->(LV->Option α)->Option α
 |_,0,_=>none
 |j,n+1,k=>cond (Int.same i (ahd j)) (match b with |true=>al8 cs (j*a) a k |false=>Ta cs (j*a) k) (aps cs a b i (j+1) n k)
def anB (f:LF) (t:Ty) (l:List t.Den) (lo a b:Option AX) (k:LV->Option α):Option α:=
 Ul f a (ahd l.length) (ahd l.length) λj=>Ul f lo 0 j λi=>
  match b with
  |none=>k (.val (.list t) (cut l lo a i j))
  |some m=>ad2 (oS f m) λ_ m=>cond (Int.same m j) (match a with |some _=>k (.tight t (cut l lo a i j)) |none=>none) none
def as5 (f:LF) (id:Nat) (a b:Int) (lo c d:Option AX) (k:LV->Option α):Option α:=
 Ul f c b b λj=>Ul f lo 0 j λi=>
  match d with
  |none=>k (.part id (a+i) (j-i))
  |some _=>none
def anH (s:St) (v:LV) (k:(t:Ty)->List t.Den->St->Option α):Option α:=
 match v with
 | .val (.list t) l=>k t l s
 | .tight t l=>k t l s
 | .own id=>match cd s.h id with |some (.seq t l)=>k t l (s.drop id) |_=>none
 |_=>none
def azS (h:List (Option LB)) (v:LV) (k:Int->Option α):Option α:=
 match v with
 | .val .str s=>k (ahd s.length)
 | .val (.list _) l=>k (ahd l.length)
 | .tight _ l=>k (ahd l.length)
 | .nil=>k 0
 | .own id=>match cd h id with |some (.seq _ l)=>k (ahd l.length) |_=>none
 | .part _ _ n=>k n
 | .buf id=>match cd h id with |some (.buf _ l)=>k (ahd l.length) |_=>none
 |_=>none
def akM (h:List (Option LB)) (v:LV) (t:Ty) (k:List t.Den->Option α):Option α:=
 match v with
 | .val .str s=>Ty.asL (.int .u8) (dO s) t k
 |v=>y5 h v (.list t) k
def QD (h:List (Option LB)) (t:Ty):Nat->List LV->(List t.Den->Option α)->Option α
 |0,[],k=>k []
 |0,_::_,_=>none
 |n+1,b,k=>cond (J5 t) (take h t b λx a=>QD h t n a λl=>k (x::l)) none
def Ng (f:LF):List LV->List (Nat×Nat×AX)->(List LV->Option α)->Option α
 |c,[],k=>k c
 |c,(b,a,x)::d,k=>
  let v:=kp (oS f x)
  cond (acK v.length a&&aiv (b+a) c.length&&IX v) (Ng f (Kf c b v) d k) none
def av7 (z:List LV):Nat->List LV
 |0=> []
 |n+1=>z++av7 z n
abbrev Bx (α:Type):=LV->List LV->St->(LV->St->Option α)->Option α
def mU (op:PH) (s:St) (k:LV->St->Option α):Option α:=
 let f:=s.cur
 match op with
 | .mv x=>k (oS f x) s
 | .pick c a b=>match oS f c with | .val .bool c=>auh c (oS f a) (oS f b) λv=>k v s |_=>none
 | .build z H=>Ng f (yy z) H λq=>k (.agg q) s
 | .bin op x y=>
  match oS f x,oS f y with
  | .val (.int i) a,.val (.int j) b=>cond (IntKind.same i j&& !bz op) (aix op i a b λv=>k v s) none
  | .val .str a,.val .str b=>ah9 op a b λv=>k v s
  |_,_=>none
 | .eqv E e x y=>eqL e (oS f x) (oS f y) λb=>k (.val .bool (cond E (!b) b)) s
 | .un .not x=>match oS f x with | .val .bool b=>k (.val .bool (!b)) s |_=>none
 | .un .neg x=>match oS f x with | .val (.int i) n=>k (.val (.int i) (i.wrap (0-n))) s |_=>none
 | .conv (.int i) x=>match oS f x with | .val (.int _) n=>k (.val (.int i) (i.wrap n)) s |_=>none
 | .conv .str x=>match oS f x with | .val .str a=>k (.val .str a) s |_=>none
 | .Kc g a b=>k (.func g (agq f a) (agq f b)) s
 | .Aw x u A=>
  match oS f x with
  | .val .str a=>Ul f A (ahd a.length) (ahd a.length) λj=>Ul f u 0 j λi=>k (.val .str (aqD a u A i j)) s
  |_=>none
 | .slice d x u A D=>
  match oS f x with
  | .part id F I=>match cd s.h id with |some (.seq t _)=>cond (acK d t.w) (as5 f id F I u A D λv=>k v s) none |_=>none
  |v=>anH s v λt l K=>cond (acK d t.w) (anB f t l u A D λv=>k v K) none
 | .fld p n G x=>
  match oS f x with
  | .agg q=>match G with |true=>al8 q p n λv=>k v s |false=>Ta q p λv=>k v s
  |_=>none
 | .qF p x=>
  match oS f x with
  | .ptr id o=>k (.ptr id (o+p)) s
  | .xO id i o=>k (.xO id i (o+p)) s
  | .iX q o=>k (.iX q (o+p)) s
  |_=>none
 | .AL d x i=>
  ad2 (oS f i) λ_ i=>
  match oS f x with
  | .val (.list t) l=>cond (acK d t.w) ((dW l i).bind λx=>k (.iX (aE t x) 0) s) none
  | .tight t l=>cond (acK d t.w) ((dW l i).bind λx=>k (.iX (aE t x) 0) s) none
  | .own id=>match cd s.h id with |some (.seq t l)=>cond (acK d t.w) (cond (C4 i l.length) (k (.xO id i.toNat 0) s) none) none |_=>none
  | .part id u n=>match cd s.h id with |some (.seq t l)=>cond (acK d t.w) (cond (dD 0 i&&bZ i n) (k (.xO id (u+i).toNat 0) s) none) none |_=>none
  |_=>none
 | .Nq x i=>ad2 (oS f i) λ_ i=>match oS f x with | .val .str a=>(dW a i).bind λb=>k (.val (.int .u8) (dB b)) s |_=>none
 | .Zc len d G x i=>ad2 (oS f i) λ_ i=>match oS f x with | .agg q=>aps q d G i 0 len λv=>k v s |_=>none
 | .ext x i=>match oS f x with | .tuple vs=>Ta vs i λv=>k v s |_=>none
 | .GN x=>match oS f x with | .ptr id o=>k (.ptr id o) s | .xO id i o=>k (.xO id i o) s | .iX q o=>k (.iX q o) s | .func g a b=>k (.func g a b) s |_=>none
 | .len .str x=>match oS f x with | .val .str a=>k (av5 (ahd a.length)) s |_=>none
 | .len .slice x=>match oS f x with | .val .str a=>none |v=>azS s.h v λn=>k (av5 n) s
 | .len (.arr n) x=>k (av5 (ahd n)) s
 | .LG x=>match oS f x with | .buf id=>(match cd s.h id with |some (.buf _ l)=>cond (ak3 0 l.length) (k (.xO id 0 0) s) none |_=>none) |_=>none
 | .CR D L=>match agq f L with | .val (.int i) a::r=>mmL D i a r λv=>k v s |_=>none
 |_=>none
def acS (a:Bool) (z:LV) (n:Int):List Int->List LV->(LV->Option α)->Option α
 | [],[],k=>k (match a with |true=> .tuple [z,.val .bool false] |false=>z)
 |m::b,v::vs,k=>cond (Int.same n m) (k (match a with |true=> .tuple [v,.val .bool true] |false=>v)) (acS a z n b vs k)
 |_,_,_=>none
def arh (n:Int) (x:LV):List Int->List LV->(List Int->List LV->Option α)->Option α
 | [],[],k=>k [n] [x]
 |m::c,v::vs,k=>cond (Int.same n m) (k (n::c) (x::vs)) (arh n x c vs λa b=>k (m::a) (v::b))
 |_,_,_=>none
def EU (op:PH) (s:St) (k:LV->Option α):Option α:=
 let f:=s.cur
 match op with
 | .ng a=>
  match oS f a with
  | .ptr id o=>match cd s.h id with |some (.cells b)=>Ta b o k |_=>none
  | .xO id i o=>match cd s.h id with |some (.seq t l)=>(l[i]?).bind λx=>Ta (aE t x) o k |_=>none
  | .iX b o=>Ta b o k
  |_=>none
 | .yS n a=>
  match oS f a with
  | .ptr id o=>match cd s.h id with |some (.cells b)=>al8 b o n k |_=>none
  | .xO id i o=>match cd s.h id with |some (.seq t l)=>(l[i]?).bind λx=>al8 (aE t x) o n k |_=>none
  | .iX b o=>al8 b o n k
  |_=>none
 | .conv .bytes x=>y5 s.h (oS f x) (.list (.int .u8)) λl=>cond (um l) (k (.val .str (ofBytes l))) none
 | .look z c d m x=>
  match oS f m,oS f x with
  | .ET id,.val (.int i) n=>match cd s.h id with
   |some (.qW j vs)=>cond (!d&&IntKind.same i .u8) (acS c (Jq z) n j vs k) none
   |_=>none
  |_,_=>none
 |_=>none
def af2:Nat:=182
def oE:List LV->Bool
 | .oG _::_=>true
 |_=>false
def Y2 (a b:List LV):Bool:= !oE b ||oE a
def Uw (s:St) (t:Ty) (l:List t.Den) (k:LV->St->Option α):Option α:=k (.own s.nx) (s.new (.seq t l))
def UO (ty:List (Nat×Ty)) (a:Option Nat) (op:PH) (s:St) (k:LV->St->Option α):Option α:=
 let f:=s.cur
 match op with
 | .alloc t z=>
  match Z6 ty a with
  |some (.bld e)=>(match z with | [.ptr none,.slice none 0 0 0]=>cond (acK t af2) (k (.ptr (s.nx+1) 0) ((s.new (.buf e [])).new (.cells [.oG (s.nx+1),.buf s.nx]))) none |_=>none)
  |_=>cond (oE (yy z)) none (k (.ptr s.nx 0) (s.new (.cells (yy z))))
 | .box x=>let v:=kp (oS f x);cond (IX v&& !oE v) (k (.ptr s.nx 0) (s.new (.cells v))) none
 | .BG z b j=>
  Ng f (av7 (yy z) b) j λd=>
  match acD (Z6 ty a) (aco s.h (d.take z.length))with
  |some t=>cond (acK z.length t.w) (QD s.h t b d λl=>Uw (nu (cP d) s) t l k) none
  |none=>none
 | .zy z bytes l c=>
  ad2 (oS f l) λ_ n=>ad2 (oS f c) λ_ m=>
  match acD (Z6 ty a) (aco s.h (yy z))with
  |some t=>cond (acK z.length t.w) (Oq s.h t (yy z) λx=>cond (Int.same n m&&dD 0 n&&fits n.toNat bytes) (Uw s t (List.replicate n.toNat x) k) none) none
  |none=>none
 | .P2=>k (.ET s.nx) (s.new (.qW [] []))
 |_=>none
def SJ (cv:Bx α) (ty:List (Nat×Ty)) (c:Option Nat) (op:PH) (s:St) (k:LV->St->Option α):Option α:=
 let f:=s.cur
 match op with
 | .store n a x=>
  let vs:=kp (oS f x)
  cond (acK vs.length n&&IX vs)
  (match oS f a with
  | .ptr id o=>match cd s.h id with |some (.cells q)=>cond (aiv (o+n) q.length&&Y2 q (Kf q o vs)) (k .p6 (s.put id (.cells (Kf q o vs)))) none |_=>none
  | .xO id i o=>
   match cd s.h id with
   |some (.seq t l)=>
    match acK n t.w&&acK o 0,Ps id (cP vs)with
    |_,true=>none
    |true,false=>Oq s.h t vs λr=>k .p6 ((nu (cP vs) s).put id (.seq t (l.set i r)))
    |false,false=>(l[i]?).bind λx=>cond (aiv (o+n) t.w) (Oq s.h t (Kf (aE t x) o vs) λr=>k .p6 ((nu (cP vs) s).put id (.seq t (l.set i r)))) none
   |_=>none
  |_=>none) none
 | .append e z bytes a x=>
  let v:=oS f x
  match oS f a with
  | .own id=>
   match cd s.h id with
   |some (.seq t l)=>cond (acK z.length t.w) (akM s.h v t λb=>cond (fits (l.length+b.length) bytes) (k (.own id) ((s.ck id).put id (.seq t (l++b)))) none) none
   |_=>none
  | .buf id=>
   match cd s.h id with
   |some (.buf A l)=>cond (acK z.length 1&&acK e A) (akM s.h v (.int .u8) λb=>cond (fits (l.length+b.length) bytes) (k (.buf id) ((s.ck id).put id (.buf A (l++b)))) none) none
   |_=>none
  | .part id D n=>
   match cd s.h id with
   |some (.seq t l)=>cond (acK z.length t.w&&Int.same D 0) (akM s.h v t λb=>cond (ak3 0 b.length&&fits (n.toNat+b.length) bytes) (k (.part id 0 (n+ahd b.length)) ((s.ck id).put id (.seq t (l.take n.toNat++(b++l.drop (n.toNat+b.length)))))) none) none
   |_=>none
  | .tight t l=>cond (acK z.length t.w) (akM s.h v t λb=>cond (ak3 0 b.length&&fits (l.length+b.length) bytes) (Uw s t (l++b) k) none) none
  | .nil=>
   match acD (Z6 ty c) (ax9 s.h v)with
   |some t=>cond (acK z.length t.w) (akM s.h v t λb=>cond (fits b.length bytes) (Uw s t b k) none) none
   |none=>none
  |_=>none
 | .sL e z bytes a n=>
  match oS f a with
  | .nil=>
   ad2 (oS f n) λ_ n=>
   match acD (Z6 ty c) (aco s.h (yy z))with
   |some t=>cond (acK z.length t.w) (Oq s.h t (yy z) λx=>cond (bZ 0 n&&fits n.toNat bytes) (Uw s t (List.replicate n.toNat x) k) none) none
   |none=>none
  |_=>none
 | .copy j d x=>
  match oS f d with
  | .own id=>
   match cd s.h id with
   |some (.seq t l)=>cond (acK j t.w) (akM s.h (oS f x) t λb=>let n:=Nat.min b.length l.length;k (av5 (ahd n)) (s.put id (.seq t (b.take n++l.drop n)))) none
   |_=>none
  |_=>none
 | .conv .CL x=>match oS f x with | .val .str a=>Uw s (.int .u8) (dO a) k |_=>none
 | .Qo t p n=>
  match oS f p with
  | .xO id i o=>
   match cd s.h id with
   |some (.buf e l)=>ad2 (oS f n) λ_ m=>cond (acK i 0&&acK o 0&&acK e t&&bZ 0 m&&dD m (ahd l.length)&&fits m.toNat 1) (cond (um l) (k (.val .str (ofBytes (l.take m.toNat))) (s.drop id)) none) none
   |_=>none
  |_=>none
 | .Q4 E m x v=>
  match oS f m,oS f x with
  | .ET id,.val (.int i) n=>match cd s.h id with
   |some (.qW F vs)=>cond (!E&&IntKind.same i .u8&&IX [oS f v]) (arh n (oS f v) F vs λu y=>k .p6 (s.put id (.qW u y))) none
   |_=>none
  |_,_=>none
 | .call g G=>cv (oS f g) (agq f G) s k
 |_=>none
def opL (cv:Bx α) (ty:List (Nat×Ty)) (a:Option Nat) (op:PH) (s:St) (k:LV->St->Option α):Option α:=
 match cls op with
 | .P=>mU op s k
 | .R=>EU op s λv=>k v s
 | .A=>UO ty a op s k
 | .E=>SJ cv ty a op s k
def St.aaG (s:St) (d:Nat) (v:LV):St:=⟨⟨s.cur.n,(d,v)::s.cur.r⟩,s.mR,s.h⟩
def re (s:St) (d:Option Nat) (v:LV) (k:St->Option α):Option α:=
 match d with
 |none=>k s
 |some d=>cond (ak3 d s.cur.n) (k (s.aaG d v)) none
def acR (s:St) (x:AX) (b:Bool):St:=match x with | .t i=>s.aaG i (.val .bool b) | .c _=>s
def LV.und:LV:= .tuple []
def afA (s:St) (x:AX) (a b:St->Option α):Option α:=
 match oS s.cur x with
 | .val .bool c=>cond c (a (acR s x true)) (b (acR s x false))
 |_=>none
def ah7 (s:St) (t:Nat) (b c:St->Option α) (a:St->Option α):Option α:=
 match dN s.cur.r t with
 | .tuple []=>a s
 |_=>afA s (.t t) b c
def Fg (cv:Bx α) (ty:List (Nat×Ty)):List bU->St->(St->Option α)->Option α
 | [],s,k=>k s
 |o::c,s,k=>
  match o.g with
  |none=>opL cv ty o.dst o.op s λv d=>re d o.dst v λa=>Fg cv ty c a k
  |some (t,b)=>ah7 s t
    (λs=>match b with |true=>opL cv ty o.dst o.op s λv d=>re d o.dst v λa=>Fg cv ty c a k |false=>re s o.dst .und λa=>Fg cv ty c a k)
    (λs=>match b with |false=>opL cv ty o.dst o.op s λv d=>re d o.dst v λa=>Fg cv ty c a k |true=>re s o.dst .und λa=>Fg cv ty c a k)
    (λs=>re s o.dst .und λa=>Fg cv ty c a k)
structure DS where
 ta:List Nat
 wr:List Nat
 nx:Nat
def aod:Option Nat->List Nat
 |none=> []
 |some d=> [d]
def AY (d:DS) (s:St) (op:PH):Bool:=
 match op with
 | .ng a | .yS _ a=>match oS s.cur a with | .iX _ _=>true | .ptr id _ | .xO id _ _=>ak3 id d.nx&& !Ps id d.wr |_=>false
 | .conv .bytes x=>match oS s.cur x with | .val _ _ | .tight _ _ | .nil=>true |_=>false
 | .look _ _ _ m _=>match oS s.cur m with | .ET id=>ak3 id d.nx&& !Ps id d.wr |_=>false
 |_=>false
def upto:Nat->List Nat
 |0=> []
 |n+1=>n::upto n
def anE (h:List (Option LB)) (l:List Nat):List Nat:=match l with | []=> [] |_::_=>RT h 0++l
def hot (a:Nat->Bool) (s:St) (op:PH):Bool:=
 match op with
 | .call g b=>match oS s.cur g with | .func g _ _=>(match cP (fa (agq s.cur b))with | []=> !a g |_::_=>true) |_=>true
 |_=>false
def wrote (b:Nat->Bool) (s:St) (op:PH):List Nat:=
 match op with
 | .store _ a _=>match oS s.cur a with | .ptr id _ | .xO id _ _=> [id] |_=> []
 | .append _ _ _ a _=>match oS s.cur a with | .own id=> [id] | .part id _ _=> [id] | .buf id=> [id] |_=> []
 | .Qo _ p _=>match oS s.cur p with | .xO id _ _=> [id] |_=> []
 | .copy _ a _=>match oS s.cur a with | .own id=> [id] |_=> []
 | .Q4 _ m _ _=>match oS s.cur m with | .ET id=> [id] |_=> []
 | .call g c=>match oS s.cur g with | .func g _ _=>cond (b g) (anE s.h (cP (fa (agq s.cur c)))) (upto s.nx) |_=>upto s.nx
 |_=> []
def pas:PH->Bool
 | .mv _ | .fld _ _ _ _ | .ext _ _ | .AL _ _ _ | .qF _ _ | .GN _=>true
 |_=>false
def ail:LV->Bool
 | .val (.int _) _ | .val .bool _ | .val .str _ | .p6=>true
 |_=>false
def DS.ra (d:DS) (t:Bool) (a:Option Nat):DS:=⟨cond t (aod a++d.ta) d.ta,d.wr,d.nx⟩
def DS.hit (d:DS) (op:PH):Bool:=axs (sV op) d.ta
def EX (cv:Bx α) (h:Nat->Bool) (ty:List (Nat×Ty)) (ops:List bU):List (Nat×Nat)->St->DS->DS->Nat->(St->Option α)->Option α
 | [],s,d,f,j,k=>k s
 |(i,m)::c,s,d,f,j,k=>
  match ops[i]? with
  |none=>none
  |some o=>
   let n:St->Option α:=λs=>
    match cls o.op with
    | .P=>
     match pas o.op with
     |true=>mU o.op s λv l=>re l o.dst v λa=>EX cv h ty ops c a (d.ra (d.hit o.op) o.dst) (f.ra (f.hit o.op) o.dst) j k
     |false=>mU o.op s λv l=>re l o.dst v λa=>EX cv h ty ops c a (d.ra (!ail v) o.dst) (f.ra (!ail v) o.dst) j k
    | .R=>
     let q:= !d.hit o.op&&AY d s o.op
     cond (!f.hit o.op&&AY f s o.op&&(azi m j ||q)) (EU o.op s λv=>re s o.dst v λa=>EX cv h ty ops c a (d.ra (!q) o.dst) f j k) none
    | .A=>UO ty o.dst o.op s λv l=>re l o.dst v λa=>EX cv h ty ops c a (d.ra true o.dst) (f.ra true o.dst) j k
    | .E=>SJ cv ty o.dst o.op s λv l=>re l o.dst v λa=>EX cv h ty ops c a ⟨aod o.dst++cond (hot h s o.op) (GV s.cur.r++d.ta) d.ta,wrote h s o.op++d.wr,d.nx⟩ ⟨[],[],a.nx⟩ i k
   let p:St->Option α:=λs=>re s o.dst .und λa=>EX cv h ty ops c a d f j k
   match o.g with
   |none=>n s
   |some (t,b)=>ah7 s t (λs=>match b with |true=>n s |false=>p s) (λs=>match b with |false=>n s |true=>p s) p
def coC (c:Co) (v:LV) (s:St) (k:LV->St->Option α):Option α:=
 match c with
 | .own t=>
  match v with
  | .nil=>Uw s t [] k
  | .own id=>match cd s.h id with |some (.seq u _)=>cond (Ty.same u t) (k (.own id) s) none |_=>none
  |_=>none
 | .part t=>
  match v with
  | .own id=>match cd s.h id with |some (.seq u l)=>cond (Ty.same u t) (k (.part id 0 (ahd l.length)) s) none |_=>none
  | .part id b n=>match cd s.h id with |some (.seq u _)=>cond (Ty.same u t) (k (.part id b n) s) none |_=>none
  | .val u x=>k (.val u x) s
  |_=>none
 | .box=>
  match v with
  | .ptr id o=>match cd s.h id with |some (.cells a)=>cond (match Px a with | []=>true |_::_=>false) (k (.iX a o) (s.drop id)) none |_=>none
  |_=>none
 | .fz t=>y5 s.h v (.list t) λl=>k (.val (.list t) l) (nu (cP [v]) s)
def ahk:List (Nat×Option Nat×Co)->St->(St->Option α)->Option α
 | [],s,k=>k s
 |(i,none,c)::d,s,k=>coC c (dN s.cur.r i) s λv b=>ahk d (b.aaG i v) k
 |(i,some j,c)::d,s,k=>
  match dN s.cur.r i with
  | .agg l=>Ta l j λv=>coC c v s λf b=>match dN b.cur.r i with | .agg a=>ahk d (b.aaG i (.agg (Pw a j f))) k |_=>none
  | .ptr id _=>
   match cd s.h id with
   |some (.cells l)=>Ta l j λv=>coC c v s λf b=>match cd b.h id with |some (.cells a)=>cond (Y2 a (Pw a j f)) (ahk d (b.put id (.cells (Pw a j f))) k) none |_=>none
   |_=>none
  |_=>none
def agH (r:List (Nat×LV)):List Nat->List (Nat×LV)
 | []=> []
 |i::a=>(i,dN r i)::agH r a
def aj8:List (Nat×LV)->List Nat
 | []=> []
 |(_,v)::r=>jX v++aj8 r
def adr:List LF->List Nat
 | []=> []
 |f::a=>aj8 f.r++adr a
def aoo:Option LB->List Nat
 |some (.cells a)=>Px a
 |some (.loop _ _ b _ _ _)=>aj8 b.r
 |some (.qW _ vs)=>Px vs
 |_=> []
def akz:List (Option LB)->Nat->List Nat->List Nat
 | [],_,m=>m
 |b::h,i,m=>akz h (i+1) (cond (Ps i m) (aoo b++m) m)
def TD:List (Option LB)->Nat->List Nat->List (Option LB)
 | [],_,_=> []
 |b::h,i,m=>
  match cond (Ps i m) b none,TD h (i+1) m with
  |none,[]=> []
  |b,h=>b::h
def arb:List Nat->List Nat->Bool
 | [],_=>true
 |i::is,m=>Ps i m&&arb is m
def L6:List (Option LB)->Nat->List Nat->Bool
 | [],_,_=>true
 |b::h,i,m=>cond (Ps i m) (arb (aoo b) m) true&&L6 h (i+1) m
def gcS (s:St) (k:St->Option α):Option α:=
 let a:=aj8 s.cur.r++adr s.mR
 let m:=akz s.h 0 (akz s.h 0 a)
 cond (arb a m&&L6 s.h 0 m) (k ⟨s.cur,s.mR,TD s.h 0 m⟩) none
def iI (rs:Canon) (s:St) (k:St->Option α):Option α:=
 ahk rs.co s λa=>gcS ⟨⟨a.cur.n,agH a.cur.r rs.gQ⟩,a.mR,a.h⟩ k
structure Spec where
 gs:List (Option Nat)
 t:Ty
 pre:t.Den->Bool
 res:t.Den->LV
 bl:t.Den->List LB
 cc:Bool
def puS (S:Nat->Option Spec) (g:Nat):Bool:=match S g with |some a=> !a.cc |none=>false
abbrev KL (α:Type):=AE->St->Option α
def bnd {a:Type} (K:Nat) (x:a):a:=Nat.rec (motive:=λ_=>a->a) (λy=>y) (λ_ _ y=>y) K x
theorem amg K (x:a):bnd K x=x:=by cases K<;>rfl
def J8 (b:St->(St->Option α)->Option α) (c:St->KL α->Option α) (k:KL α):KL α:=λe a=>match e with | .normal=>b a λd=>c d k | .exit i=>k (.exit i) a | .ret=>k .ret a
noncomputable def rb (n:Nat) (b:St->KL α->Option α) (a:St->(St->Option α)->Option α):St->KL α->Option α:=
 Nat.rec (motive:=λ_=>St->KL α->Option α) (λ_ _=>none) (λ_ c s k=>b s (J8 a c k)) n
def k5 (id:Nat) (k:KL α):KL α:=λe s=>match e with | .normal=>k .normal s | .exit i=>cond (acK i id) (k .normal s) (k (.exit i) s) | .ret=>k .ret s
def vQ (b:St->KL α->Option α) (k:KL α):KL α:=λe a=>match e with | .normal=>b a k | .exit i=>k (.exit i) a | .ret=>k .ret a
def ghost (id:Nat):LF:=⟨1,[(0,.yield id)]⟩
def adE (s:St) (k:Nat->LoopState->Option AE->LF->List Nat->ia->ia->St->Option α):Option α:=
 match s.mR with
 |f::c=>match dN f.r 0 with
  | .yield id=>match cd s.h id with
   |some (.loop d j l n a b)=>k id d j l n a b ⟨s.cur,c,s.h⟩
   |_=>none
  |_=>none
 | []=>none
def YX (k:KL α):LV->St->Option α:=λ_ b=>adE b λid c d _ _ _ _ a=>
 match c with
 | .busy=>none
 |_=>match d with
  |none=>k .normal (a.drop id)
  |some (.exit i)=>k (.exit i) (a.drop id)
  |some .ret=>k .ret (a.drop id)
  |some .normal=>none
def alk (n:Nat) (r:List (Nat×LV)):List Nat->List LV->(List (Nat×LV)->Option α)->Option α
 | [],[],k=>k r
 |p::a,v::vs,k=>cond (ak3 p n) (alk n ((p,v)::r) a vs k) none
 |_,_,_=>none
def amE (k:LV->St->Option α):KL α:=λe n=>adE n λid _ _ d j a b c=>
 match c.mR with
 | []=>none
 |f::l=>
  match e with
  | .normal=>k (.val .bool true) ⟨f,l,hZ c.h id (some (.loop .ready none d j a b))⟩
  | .exit i=>k (.val .bool false) ⟨f,l,hZ c.h id (some (.loop .done (some (.exit i)) d j a b))⟩
  | .ret=>k (.val .bool false) ⟨f,l,hZ c.h id (some (.loop .done (some .ret) d j a b))⟩
def ahI (c:St->KL α->Option α) (k:LV->St->Option α):KL α:=λe f=>
 match e with
 | .normal=>adE f λid j l n p a b d=>
  match j with
  | .ready=>c ⟨d.cur,ghost id::d.mR,hZ d.h id (some (.loop .busy l n p a b))⟩ (amE k)
  |_=>none
 |_=>none
def okK (k:KL α):St->Option α:=λa=>k .normal a
noncomputable def An (cv:Bx α) (f:Nat->Bool) (K:Nat):ia->St->KL α->Option α
 | .skip,s,k=>k .normal s
 | .fail,_,_=>none
 | .region d p,s,k=>Fg cv p d s (okK k)
 | .lN d n p,s,k=>EX cv f p d n s ⟨[],[],s.nx⟩ ⟨[],[],s.nx⟩ d.length (okK k)
 | .seq a b,s,k=>An cv f K a s (vQ (An cv f K b) k)
 | .cond c a b,s,k=>afA s c (λs=>An cv f K a s k) (λs=>An cv f K b s k)
 | .block id b,s,k=>An cv f K b s (k5 id k)
 | .loop j b,s,k=>iI j s λl=>bnd K (rb K (An cv f K b) (iI j) l k)
 | .exit i j,s,k=>iI j s λl=>k (.exit i) l
 | .ret j,s,k=>iI j s λl=>k .ret l
 | .canon j c,s,k=>iI j s λl=>bnd K (An cv f K c l k)
 | .ou g q a b,s,k=>
  match oS s.cur g with
  | .func r x y=>cv (.func r x y) [.yield s.nx] ⟨s.cur,ghost s.nx::s.mR,s.h++ [some (.loop .ready none s.cur q a b)]⟩ (YX k)
  |_=>none
def Un:List (Option Nat)->List LV->Bool
 | [],[]=>true
 |none::a,v::vs=>(match v with | .agg _=>false |_=>true)&&Un a vs
 |some n::a,.agg b::vs=>acK b.length n&&Un a vs
 |_,_=>false
def afp:Ty->Bool
 | .list _=>false
 | .ref _=>false
 | .pair a b=>afp a&&afp b
 |_=>true
mutual
def Ff:LV->Bool
 | .val t _=>afp t
 | .nilFunc=>true
 | .agg l | .tuple l=>ai4 l
 |_=>false
def ai4:List LV->Bool
 | []=>true
 |v::vs=>Ff v&&ai4 vs
end
def avq:List LB->Bool
 | []=>true
 |_::_=>false
mutual
def yQ (n:Nat):LV->LV
 | .own id=> .own (n+id)
 | .part id lo m=> .part (n+id) lo m
 | .agg l=> .agg (GA n l)
 | .tuple l=> .tuple (GA n l)
 |v=>v
def GA (n:Nat):List LV->List LV
 | []=> []
 |v::vs=>yQ n v::GA n vs
end
mutual
def okV:LV->Bool
 | .p6 | .val _ _ | .nil | .nilFunc | .own _ | .part _ _ _=>true
 | .agg l | .tuple l=>awX l
 |_=>false
def awX:List LV->Bool
 | []=>true
 |v::vs=>okV v&&awX vs
end
def ajy:List LB->Bool
 | []=>true
 | .seq _ _::a=>ajy a
 |_::_=>false
def iq:List LB->List (Option LB)
 | []=> []
 |b::a=>some b::iq a
def ack (r:LV) (a:List LB) (s:St) (k:LV->St->Option α):Option α:=k (yQ s.nx r) ⟨s.cur,s.mR,s.h++iq a⟩
def afe (a:Spec) (b:List LV) (s:St) (k:LV->St->Option α):Option α:=
 cond (Un a.gs b)
 (ahC s.h a.t (fa b) λx=>cond (a.pre x)
  (match Ff (a.res x)&&avq (a.bl x)with
   |true=>ack (a.res x) (a.bl x) s k
   |false=>cond (okV (a.res x)&&ajy (a.bl x)&&J5 a.t) (ack (a.res x) (a.bl x) (qc (cP (fa b)) s) k) none) none) none
def amp (a:List LV) (s:St) (k:LV->St->Option α):Option α:=
 match a with
 | [.ptr id 0]=>match cd s.h id with
  |some (.cells (.oG b::_::_))=>cond (acK id b) (k (.tuple []) s) none
  |_=>none
 |_=>none
def axj (s:St) (r:afj) (k:LV->Option α):Option α:=
 match r with
 | .t i=>k (dN s.cur.r i)
 | .c1 i=>match dN s.cur.r i with | .ptr id o=>(match cd s.h id with |some (.cells a)=>Ta a o k |_=>none) |_=>none
 | .cN i n=>match dN s.cur.r i with | .ptr id o=>(match cd s.h id with |some (.cells a)=>al8 a o n k |_=>none) |_=>none
def akl (s:St):List afj->(List LV->Option α)->Option α
 | [],k=>k []
 |r::a,k=>axj s r λv=>akl s a λvs=>k (v::vs)
def anX:List LV->Nat->List (Nat×LV)
 | [],_=> []
 |v::vs,i=>(i,v)::anX vs (i+1)
def single:List LV->LV
 | [v]=>v
 |vs=> .tuple vs
def eF (F:LFn) (k:LV->St->Option α):KL α:=λe s=>
 match e with
 | .exit _=>none
 | .normal | .ret=>akl s F.res λvs=>match s.mR with | []=>none |f::a=>k (single vs) ⟨f,a,s.h⟩
def enter (F:LFn) (a:List LV) (s:St):St:=⟨⟨Nat.max a.length F.n,anX a 0⟩,s.cur::s.mR,s.h⟩
noncomputable def XB (S:Nat->Option Spec) (L:Nat->Option LFn) (K:Nat) (d:Bx α):Bx α:=λg c s k=>
 match g with
 | .func g a b=>
  match S g with
  |some j=>match a,b with | [],[]=>(match j.cc with |true=>amp c s k |false=>afe j c s k) |_,_=>none
  |none=>match L g with
   |some F=>An d (puS S) K F.body (enter F (a++c++b) s) (eF F k)
   |none=>none
 | .yield id=>
  match cd s.h id with
  |some (.loop .ready p f l a b)=>alk f.n f.r l c λr=>An d (puS S) K a ⟨⟨f.n,r⟩,ghost id::s.cur::s.mR,s.h⟩ (ahI (An d (puS S) K b) k)
  |_=>none
 |_=>none
noncomputable def tA (S:Nat->Option Spec) (L:Nat->Option LFn) (K:Nat) (d:Nat):Bx α:=
 Nat.rec (motive:=λ_=>Bx α) (λ_ _ _ _=>none) (λ_ a=>XB S L K a) d
def aI:List (Option Nat)->List LV->List LV
 | [],_=> []
 |none::a,[]=> []
 |none::a,c::b=>c::aI a b
 |some n::a,b=> .agg (b.take n)::aI a (b.drop n)
def aa7 (gs:List (Option Nat)) (v:LV):List LV:=match gs with | [_]=> [v] |_=>match v with | .tuple l=>l |_=> []
def aJ (a:List (Option Nat)) (b:Ty) (k:b.Den->Option c) (v:LV) (s:St):Option c:=
 cond (Un a (aa7 a v)) (Oq s.h b (fa (aa7 a v)) k) none
def ah8 (t:Ty) (k:List t.Den->Option a) (v:LV) (s:St):Option a:=
 match v with
 | .own id=>y5 s.h (.own id) (.list t) k
 | .nil=>k []
 |_=>none
def acE (t:Ty) (k:List t.Den×Int->Option a) (v:LV) (s:St):Option a:=
 match v with
 | .part id b n=>cond (Int.same b 0) (match cd s.h id with |some (.seq u l)=>(Ty.list u).asT l (.list t) (λl=>k (l,n)) |_=>none) none
 | .own id=>y5 s.h (.own id) (.list t) λl=>k (l,ahd l.length)
 |_=>none
def St.empty:St:=⟨⟨0,[]⟩,[],[]⟩
def Spec.val (gs:List (Option Nat)) (t:Ty) (a:List (Option Nat)) (b:Ty) (pre:t.Den->Bool) (y:t.Den->b.Den):Spec:=
 ⟨gs,t,pre,λx=>single (aI a (aE b (y x))),λ_=> [],false⟩
def Spec.own (gs:List (Option Nat)) (t:Ty) (a:Ty) (pre:t.Den->Bool) (y:t.Den->List a.Den):Spec:=
 ⟨gs,t,pre,λ_=> .own 0,λx=> [.seq a (y x)],false⟩
def Spec.part (gs:List (Option Nat)) (t:Ty) (a:Ty) (pre:t.Den->Bool) (y:t.Den->List a.Den×Int):Spec:=
 ⟨gs,t,pre,λx=> .part 0 0 (y x).2,λx=> [.seq a (y x).1],false⟩
def Spec.agZ:Spec:=⟨[],.unit,λ_=>false,λ_=> .p6,λ_=> [],true⟩
noncomputable def asp (S:Nat->Option Spec) (L:Nat->Option LFn) (K d:Nat) (F:LFn) (a:List LV) (k:LV->St->Option α):Option α:=
 An (tA S L K d) (puS S) K F.body (enter F a .empty) (eF F k)
end
end Ls
namespace dC
open Go
structure Sh where
 s:Nat
 R:Nat
abbrev pZ:=Nat->Option (Option (Nat×Sh))
def UR:Value->Bool
 | .agg _ | .tuple _ | .bool _=>false
 |_=>true
mutual
def bT (ρ:pZ):AV->Value->Prop
 | .int k n,v=>v= .int k n
 | .bool b,v=>v= .bool b
 | .str s,v=>v= .string ⟨s.toArray⟩
 | .ptr none,v=>v= .pointer none
 | .ptr (some (i,o)),v=> ∃m,ρ i=some m/\ ∃a,v= .pointer (some a)/\ ∀b s,m=some (b,s)->a=⟨b,o+s.s,none⟩
 | .slice none l c e,v=>v= .slice none 0 0/\l=0/\c=0
 | .slice (some (i,o)) l c e,v=> ∃m,ρ i=some m/\ ∃a c',v= .slice (some a) l c'/\l<=c'/\c<=c'/\(e=0->c'=c)/\ ∀b s,m=some (b,s)->0<c'->a=⟨b,o+s.s,none⟩/\(0<e->o+s.s+c'*e<=s.R)
 | .map none,v=>v= .map none
 | .map (some i),v=> ∃m,ρ i=some m/\UR v=true/\ ∀b s,m=some (b,s)->v= .map (some b)
 | .func f x y,v=> ∃x' y',v= .func (.func f) x' y'/\ca ρ x x'.toList/\ca ρ y y'.toList
 | .yield i,v=> ∃m,ρ i=some m/\ ∃l,v= .func (.yield l) #[] #[]/\ ∀b s,m=some (b,s)->l=b
 | .nilFunc,v=>v= .nilFunc
 | .iface t x,v=> ∃y,v= .iface t y/\bT ρ x y
 | .nilIface,v=>v= .nilIface
 | .agg xs,v=> ∃ys,v= .agg ys/\ca ρ xs ys.toList
 | .tuple xs,v=> ∃ys,v= .tuple ys/\ca ρ xs ys.toList
def ca (ρ:pZ):List AV->List Value->Prop
 | [],[]=>True
 |a::aCL,b::bs=>bT ρ a b/\ca ρ aCL bs
 |_,_=>False
end
def Ext (ρ ρ':pZ):Prop:= ∀i m,ρ i=some m->ρ' i=some m\/ρ' i=some none
theorem Ext.refl ρ:Ext ρ ρ:=λ_ _ h=> .inl h
theorem Ext.trans (h:Ext ρ ρ') (c:Ext ρ' a):Ext ρ a:=λi m e=>by
 rcases h i m e with b |b
 ·exact c i m b
 ·rcases c i none b with d |d<;>exact .inr d
theorem Ext.some_ (h:Ext ρ ρ') (e:ρ i=some m): ∃a,ρ' i=some a/\(a=m\/a=none):=by
 rcases h i m e with b |b
 ·exact⟨m,b,.inl rfl⟩
 ·exact⟨none,b,.inr rfl⟩
mutual
theorem bT.mono {ρ ρ':pZ} (hx:Ext ρ ρ'): ∀(a:AV) (v:Value),bT ρ a v->bT ρ' a v
 | .int k n,v,h=>h
 | .bool b,v,h=>h
 | .str s,v,h=>h
 | .ptr none,v,h=>h
 | .ptr (some (i,o)),v,h=>by
  obtain⟨m,e,a,hv,ha⟩:=h;obtain⟨m',e',hm⟩:=hx.some_ e;exact⟨m',e',a,hv,λb s he=>by rcases hm with rfl |rfl;exact ha b s he;cases he⟩
 | .slice none l c e,v,h=>h
 | .slice (some (i,o)) l c e,v,h=>by
  obtain⟨m,e,a,c',hv,h1,h2,h3,ha⟩:=h;obtain⟨m',e',hm⟩:=hx.some_ e;exact⟨m',e',a,c',hv,h1,h2,h3,λb s he=>by rcases hm with rfl |rfl;exact ha b s he;cases he⟩
 | .map none,v,h=>h
 | .map (some i),v,h=>by
  obtain⟨m,e,hv,ha⟩:=h;obtain⟨m',e',hm⟩:=hx.some_ e;exact⟨m',e',hv,λb s he=>by rcases hm with rfl |rfl;exact ha b s he;cases he⟩
 | .func f x y,v,h=>by
  obtain⟨x',y',hv,h1,h2⟩:=h;exact⟨x',y',hv,ca.mono hx _ _ h1,ca.mono hx _ _ h2⟩
 | .yield i,v,h=>by
  obtain⟨m,e,a,hv,ha⟩:=h;obtain⟨m',e',hm⟩:=hx.some_ e;exact⟨m',e',a,hv,λb s he=>by rcases hm with rfl |rfl;exact ha b s he;cases he⟩
 | .nilFunc,v,h=>h
 | .iface t x,v,h=>by
  obtain⟨y,hv,h1⟩:=h;exact⟨y,hv,bT.mono hx _ _ h1⟩
 | .nilIface,v,h=>h
 | .agg xs,v,h=>by
  obtain⟨y,hv,h1⟩:=h;exact⟨y,hv,ca.mono hx _ _ h1⟩
 | .tuple xs,v,h=>by
  obtain⟨y,hv,h1⟩:=h;exact⟨y,hv,ca.mono hx _ _ h1⟩
theorem ca.mono {ρ ρ':pZ} (hx:Ext ρ ρ'): ∀(a:List AV) (v:List Value),ca ρ a v->ca ρ' a v
 | [],[],h=>trivial
 |a::aCL,b::bs,h=>⟨bT.mono hx _ _ h.1,ca.mono hx _ _ h.2⟩
 | [],_::_,h=>h
 |_::_,[],h=>h
end
theorem ca.length: ∀ {a} {v},ca ρ a v->v.length=a.length
 | [],[],_=>rfl
 |a::aCL,b::c,h=>by simp [ca.length h.2]
 | [],_::_,h=>h.elim
 |_::_,[],h=>h.elim
theorem ca.get: ∀ {a} {v},ca ρ a v-> ∀(i:Nat) x,a[i]? =some x-> ∃y,v[i]? =some y/\bT ρ x y
 | [],[],_,i,x,h=>by simp at h
 |a::aCL,b::d,c,0,x,h=>by simp at h;subst h;exact⟨b,rfl,c.1⟩
 |a::aCL,b::d,c,i+1,x,h=>by simpa using ca.get c.2 i x (by simpa using h)
 | [],_::_,h,_,_,_=>h.elim
 |_::_,[],h,_,_,_=>h.elim
theorem ca.aeG: ∀ {a} {v},v.length=a.length->(∀(i:Nat) x,a[i]? =some x-> ∃y,v[i]? =some y/\bT ρ x y)->ca ρ a v
 | [],[],_,_=>trivial
 |a::aCL,b::k,c,h=>by
  refine⟨?_,ca.aeG (by simpa using c) λi x f=> ?_⟩
  ·obtain⟨y,d,j⟩:=h 0 a rfl;simp at d;subst d;exact j
  ·simpa using h (i+1) x (by simpa using f)
 | [],_::_,c,_=>by simp at c
 |_::_,[],c,_=>by simp at c
theorem ca.append: ∀ {a c} {v d},ca ρ a v->ca ρ c d->ca ρ (a++c) (v++d)
 | [],_,[],_,_,h=>h
 |a::aCL,_,b::j,_,h,f=>⟨h.1,ca.append h.2 f⟩
 | [],_,_::_,_,h,_=>h.elim
 |_::_,_,[],_,h,_=>h.elim
theorem ca.take (h:ca ρ a v) n:ca ρ (a.take n) (v.take n):=by
 refine ca.aeG (by simp [h.length]) λi x b=> ?_
 rw [List.getElem?_take]at b⊢;split at b
 ·rename_i c;simpa [c]using h.get i x b
 ·cases b
theorem ca.drop (h:ca ρ a v) n:ca ρ (a.drop n) (v.drop n):=by
 refine ca.aeG (by simp [h.length]) λi x b=> ?_
 rw [List.getElem?_drop]at b⊢;exact h.get _ x b
theorem ca.set (h:ca ρ a v) i (d:bT ρ x y):ca ρ (a.set i x) (v.set i y):=by
 refine ca.aeG (by simp [h.length]) λj z b=> ?_
 rw [List.getElem?_set]at b⊢;split at b
 ·rename_i c;subst c;split at b
  ·rename_i f;simp at b;subst b;exact⟨y,by simp [h.length,f],d⟩
  ·cases b
 ·rename_i c;simpa [c]using h.get j z b
theorem ca.az5 {α:Type} f g (h: ∀x,bT ρ (f x) (g x)): ∀l:List α,ca ρ (l.map f) (l.map g)
 | []=>trivial
 |x::l=>⟨h x,ca.az5 f g h l⟩
theorem bT.cells (h:bT ρ a v):ca ρ (cellsOf a) v.cells.toList:=by
 cases a with
 |agg q=>obtain⟨y,rfl,j⟩:=h;exact j
 |ptr a=>
  rcases a with _ |⟨i,o⟩
  ·have d:v= .pointer none:=h;subst d;exact⟨rfl,trivial⟩
  ·have d:=h;obtain⟨m,e,x,rfl,p⟩:=h;exact⟨d,trivial⟩
 |slice a l c e=>
  rcases a with _ |⟨i,o⟩
  ·have d:=h;obtain⟨rfl,_,_⟩:=h;exact⟨d,trivial⟩
  ·have d:=h;obtain⟨m,e,x,u,rfl,p⟩:=h;exact⟨d,trivial⟩
 |map a=>
  rcases a with _ |i
  ·have d:=h;have j:v= .map none:=h;subst j;exact⟨d,trivial⟩
  ·have d:=h;obtain⟨m,e,r,p⟩:=h;cases v<;>first |(simp [UR]at r;done) |exact⟨d,trivial⟩
 |func f x y=>have d:=h;obtain⟨z,A,rfl,_⟩:=h;exact⟨d,trivial⟩
 |yield i=>have d:=h;obtain⟨m,e,x,rfl,p⟩:=h;exact⟨d,trivial⟩
 |iface t x=>have d:=h;obtain⟨y,rfl,_⟩:=h;exact⟨d,trivial⟩
 |tuple q=>have d:=h;obtain⟨y,rfl,_⟩:=h;exact⟨d,trivial⟩
 |int k n=>have d:=h;have j:v= .int k n:=h;subst j;exact⟨d,trivial⟩
 |bool b=>have d:=h;have j:v= .bool b:=h;subst j;exact⟨d,trivial⟩
 |str s=>have d:=h;have j:v= .string ⟨s.toArray⟩:=h;subst j;exact⟨d,trivial⟩
 |nilFunc=>have d:=h;have j:v= .nilFunc:=h;subst j;exact⟨d,trivial⟩
 |nilIface=>have d:=h;have j:v= .nilIface:=h;subst j;exact⟨d,trivial⟩
theorem bT.W6 (h:bT ρ (.map (some i)) v) (a:ρ i=some (some (b,s))): ∃m,ρ i=some m/\ ∃r,v= .map (some r)/\ ∀b s,m=some (b,s)->r=b:=by
 obtain⟨m,e,_,c⟩:=h;rw [a]at e;cases e;exact⟨_,a,b,c b s rfl,λ_ _ e=>by cases e;rfl⟩
theorem bT.undef:bT ρ .undef Go.undef:=⟨#[],rfl,trivial⟩
def yE (ρ:pZ) (f:AF) (a:Array Value):Prop:=f.n=a.size/\ ∀t,bT ρ (f.get t) (a.getD t Go.undef)
theorem yE.mono (h:yE ρ f a) (b:Ext ρ ρ'):yE ρ' f a:=⟨h.1,λt=>bT.mono b _ _ (h.2 t)⟩
theorem AF.ajr {f f':AF} (h:f.put d v=some f') t:f'.get t=if d=some t then v else f.get t:=by
 cases d with
 |none=>simp [AF.put]at h;subst h;simp
 |some d=>
  simp only [AF.put]at h;cases b:ak3 d f.n with
  |false=>rw [b]at h;simp at h
  |true=>
   rw [b]at h;simp at h;subst h;simp only [AF.get,PT.mK];by_cases a:t=d
   ·subst a;simp
   ·have: ¬d=t:=λe=>a e.symm
    simp [a,this]
theorem AF.axU {f f':AF} (h:f.put d v=some f'):f'.n=f.n:=by
 cases d with
 |none=>simp [AF.put]at h;subst h;rfl
 |some d=>
  simp only [AF.put]at h;cases a:ak3 d f.n with
  |false=>rw [a]at h;simp at h
  |true=>rw [a]at h;simp at h;subst h;rfl
theorem AF.aue {f f':AF} (h:f.put (some d) v=some f'):d<f.n:=by
 simp only [AF.put]at h;cases a:ak3 d f.n with
 |false=>rw [a]at h;simp at h
 |true=>exact of_decide_eq_true (by simpa [amL]using a)
theorem UY (a:Array Value) d t v u (b:d<a.size):(a.setIfInBounds d v).getD t u=if d=t then v else a.getD t u:=by
 simp only [Array.getD_eq_getD_getElem?,Array.getElem?_setIfInBounds];by_cases h:d=t
 ·subst h;simp [b]
 ·simp [h]
theorem yE.put {a:Act} (h:yE ρ f a.tmps) (b:f.put d v=some f') (j:bT ρ v x):yE ρ f' (a.put d x).tmps:=by
 cases d with
 |none=>simp [AF.put]at b;subst b;simpa [Act.put]using h
 |some d=>
  have k:=AF.aue b;refine⟨by rw [AF.axU b,h.1];simp [Act.put],λt=> ?_⟩;rw [AF.ajr b t];simp only [Act.put];rw [UY _ _ _ _ _ (by rw [<-h.1];exact k)];by_cases c:d=t
  ·subst c;simpa using j
  ·have: ¬(some d=some t):=λe=>c (by simpa using e)
   simp only [c,this,if_false];exact h.2 t
theorem Act.Li (a:Act) (d:Option Nat) v:(a.put d v).defers=a.defers:=by cases d<;>rfl
def am0:AX->Operand->Prop
 | .t i,.tmp j=>i=j
 | .c v,.const x=> ∀a,bT a v x
 | .c v,.func f=>v= .func f [] []
 |_,_=>False
theorem am0.ev {a:Act} (b:am0 x y) (h:yE ρ f a.tmps):bT ρ (f.ev x) (a.eval y):=by
 cases x with
 |t i=>
  cases y with
  |tmp j=>have:i=j:=b;subst this;exact h.2 i
  |_=>exact b.elim
 |c v=>
  cases y with
  |const x=>exact b ρ
  |func g=>have:v= .func g [] []:=b;subst this;exact⟨#[], #[],rfl,trivial,trivial⟩
  |_=>exact b.elim
def Tp:List AX->List Operand->Prop
 | [],[]=>True
 |x::a,y::b=>am0 x y/\Tp a b
 |_,_=>False
theorem Tp.nk {a:Act} (h:yE ρ f a.tmps): ∀ {xs} {c},Tp xs c->ca ρ (xs.map f.ev) (c.map a.eval)
 | [],[],_=>trivial
 |x::xs,y::c,b=>⟨b.1.ev h,Tp.nk h b.2⟩
 | [],_::_,b=>b.elim
 |_::_,[],b=>b.elim
theorem asu f xs:nk f xs=xs.map f.ev:=by induction xs with
 |nil=>rfl
 |cons x xs a=>simp [nk,a]
def azE:Option AX->Option Operand->Prop
 |none,none=>True
 |some x,some y=>am0 x y
 |_,_=>False
structure TI where
 u:TypeDesc
 size:Nat
 bytes:Nat
 zero:List AV
 zv:AV
 plain:Bool
def Ys (P:Program) (t:TypeId) (i:TI):Prop:=
 P.underlying t=some i.u/\(i.plain=true->P.eqGuardType P.depth t=false/\P.stoodInHeld t=false)/\ ∃a z,P.info? t=some a/\a.size=i.size/\a.bytes=i.bytes/\a.zero=some z/\z.cells.size=i.size/\(∀b,ca b i.zero z.cells.toList)/\ ∀b,bT b i.zv z
def VA:TypeDesc->Bool
 | .struct _ | .array _ _=>true
 |_=>false
section
variable {P:Program} {t:TypeId} {i:TI} (h:Ys P t i) (w:World)
include h
theorem Ys.run_underlying:(underlying t).run P w= .ok i.u w:=by
 simp [underlying,program,aa3,ase,apm,h.1,bind,Sem.bind,pure]
theorem Ys.run_typeInfo: ∃a z,(typeInfo t).run P w= .ok a w/\a.size=i.size/\a.bytes=i.bytes/\a.zero=some z/\z.cells.size=i.size/\ ∀ρ,ca ρ i.zero z.cells.toList:=by
 obtain⟨a,z,b,c,d,f,j,k⟩:=h.2.2;exact⟨a,z,by simp [typeInfo,program,aa3,ase,apm,b,bind,Sem.bind,pure],c,d,f,j,k.1⟩
theorem Ys.qS: ∃z,(zeroValue t).run P w= .ok z w/\z.cells.size=i.size/\(∀ρ,ca ρ i.zero z.cells.toList)/\ ∀ρ,bT ρ i.zv z:=by
 obtain⟨a,z,b,k,l,c,d,f,j⟩:=h.2.2;refine⟨z, ?_,d,f,j⟩;simp [zeroValue,typeInfo,program,aa3,ase,apm,b,c,bind,Sem.bind,pure]
theorem Ys.run_sizeOf:(sizeOf t).run P w= .ok i.size w:=by
 obtain⟨a,z,b,c,_⟩:=h.run_typeInfo w;simp [sizeOf,aa3,b,apm,c]
theorem Ys.Hm:(isAgg t).run P w= .ok (VA i.u) w:=by
 simp only [isAgg,aa3,h.run_underlying w,apm];cases i.u<;>rfl
end
mutual
def vOK:AV->Value->Bool
 | .int k n,.int k' n'=>IntKind.same k k'&&Int.same n n'
 | .bool b,.bool b'=>b==b'
 | .str s,.string t=>aD s t.data.toList
 | .ptr none,.pointer none=>true
 | .slice none l c _,.slice none l' c'=>acK l 0&&acK c 0&&acK l' 0&&acK c' 0
 | .map none,.map none=>true
 | .nilFunc,.nilFunc=>true
 | .nilIface,.nilIface=>true
 | .agg xs,.agg ys=>akc xs ys.toList
 | .tuple xs,.tuple ys=>akc xs ys.toList
 |_,_=>false
def akc:List AV->List Value->Bool
 | [],[]=>true
 |x::xs,y::ys=>vOK x y&&akc xs ys
 |_,_=>false
end
mutual
def ado {ρ:pZ} : ∀(a:AV) (v:Value),vOK a v=true->bT ρ a v
 | .int k n,v,h=>by
  cases v<;>simp [vOK]at h;show _=_;rw [IntKind.dG h.1,Int.dG h.2]
 | .bool b,v,h=>by cases v<;>simp [vOK]at h;show _=_;rw [h]
 | .str s,v,h=>by
  cases v<;>simp [vOK]at h;show _=_;rw [dZ]at h;rw [h]
 | .ptr none,v,h=>by
  cases v with
  |pointer a=>cases a<;>simp [vOK]at h;rfl
  |_=>simp [vOK]at h
 | .ptr (some _),v,h=>by cases v<;>simp [vOK]at h
 | .slice none l c e,v,h=>by
  cases v with
  |slice a l' c'=>cases a<;>simp [vOK,agl]at h;obtain⟨⟨⟨h1,h2⟩,h3⟩,h4⟩:=h;subst h1 h2 h3 h4;exact⟨rfl,rfl,rfl⟩
  |_=>simp [vOK]at h
 | .slice (some _) _ _ _,v,h=>by cases v<;>simp [vOK]at h
 | .map none,v,h=>by
  cases v with
  |map a=>cases a<;>simp [vOK]at h;rfl
  |_=>simp [vOK]at h
 | .map (some _),v,h=>by cases v<;>simp [vOK]at h
 | .func _ _ _,v,h=>by cases v<;>simp [vOK]at h
 | .yield _,v,h=>by cases v<;>simp [vOK]at h
 | .nilFunc,v,h=>by cases v<;>simp [vOK]at h;rfl
 | .iface _ _,v,h=>by cases v<;>simp [vOK]at h
 | .nilIface,v,h=>by cases v<;>simp [vOK]at h;rfl
 | .agg xs,v,h=>by
  cases v with
  |agg ys=>exact⟨ys,rfl,Sj _ _ (by simpa [vOK]using h)⟩
  |_=>simp [vOK]at h
 | .tuple xs,v,h=>by
  cases v with
  |tuple ys=>exact⟨ys,rfl,Sj _ _ (by simpa [vOK]using h)⟩
  |_=>simp [vOK]at h
def Sj {ρ:pZ} : ∀(a:List AV) (v:List Value),akc a v=true->ca ρ a v
 | [],[],_=>trivial
 |x::xs,y::ys,h=>by simp [akc]at h;exact⟨ado _ _ h.1,Sj _ _ h.2⟩
 | [],_::_,h=>by simp [akc]at h
 |_::_,[],h=>by simp [akc]at h
end
def uU:AX->Operand->Bool
 | .t i,.tmp j=>acK i j
 | .c v,.const x=>vOK v x
 | .c (.func f [] []),.func g=>acK f g
 |_,_=>false
def cI (h:uU x y=true):am0 x y:=by
 cases x with
 |t i=>
  cases y<;>simp [uU,agl]at h;exact h
 |c v=>
  cases y with
  |const z=>exact λd=>ado _ _ (by simpa [uU]using h)
  |func g=>
   cases v with
   |func f a b=>cases a<;>cases b<;>simp [uU,agl]at h;subst h;rfl
   |_=>simp [uU]at h
  |tmp j=>cases v<;>simp [uU]at h
  |global j=>cases v<;>simp [uU]at h
def afT:List AX->List Operand->Bool
 | [],[]=>true
 |x::a,y::b=>uU x y&&afT a b
 |_,_=>false
def ME: ∀ {xs} {a},afT xs a=true->Tp xs a
 | [],[],_=>trivial
 |x::xs,y::a,h=>by simp [afT]at h;exact⟨cI h.1,ME h.2⟩
 | [],_::_,h=>by simp [afT]at h
 |_::_,[],h=>by simp [afT]at h
def SX:Option AX->Option Operand->Bool
 |none,none=>true
 |some x,some y=>uU x y
 |_,_=>false
def avD: ∀ {x} {y},SX x y=true->azE x y
 |none,none,_=>trivial
 |some x,some y,h=>cI (by simpa [SX]using h)
 |none,some _,h=>by simp [SX]at h
 |some _,none,h=>by simp [SX]at h
abbrev Fu:=PT TI
def yA (P:Program) (tab:Fu):Prop:= ∀t i,tab.get t=some i->Ys P t i
def BinOp.same:BinOp->BinOp->Bool
 | .add,.add | .sub,.sub | .mul,.mul | .quo,.quo | .rem,.rem | .eql,.eql | .neq,.neq | .lss,.lss | .leq,.leq | .gtr,.gtr | .geq,.geq | .and,.and | .or,.or | .xor,.xor | .andNot,.andNot | .shl,.shl | .shr,.shr=>true
 |_,_=>false
def BinOp.dG (h:BinOp.same a b=true):a=b:=by cases a<;>cases b<;>simp_all [BinOp.same]
def UnOp.same:UnOp->UnOp->Bool
 | .neg,.neg | .not,.not=>true
 |_,_=>false
def UnOp.dG (h:UnOp.same a b=true):a=b:=by cases a<;>cases b<;>simp_all [UnOp.same]
def placeOf (tab:Fu) (u:TypeDesc) (k:Nat):Option (Nat×Nat):=
 match u with
 | .struct a=>match a.toList[k]? with |some f=>(match tab.get f.type with |some i=>some (f.offset,i.size) |none=>none) |none=>none
 | .array _ e=>match tab.get e with |some i=>some (k*i.size,i.size) |none=>none
 |_=>none
def QT (tab:Fu):List Field->Bool
 | []=>true
 |f::a=>match tab.get f.type with |some _=>QT tab a |none=>false
def JC (a:Nat->Option (Nat×Nat)):List (Nat×Nat×AX)->List (Nat×Operand)->Bool
 | [],[]=>true
 |(c,b,x)::d,(k,y)::f=>(match a k with |some (o,s)=>acK o c&&acK s b |none=>false)&&uU x y&&JC a d f
 |_,_=>false
def ahq:LKd->TypeDesc->Bool
 | .int,.int _ | .bool,.bool | .str,.string=>true
 |_,_=>false
def Hk (tab:Fu):List LKd->List Field->Nat->Bool
 | [],[],_=>true
 | k :: a, f :: b, o => acK f.offset o && (f.name != "_") && (match tab.get f.type with | some i => ahq k i.u | none => false) && Hk tab a b (o + 1)
 |_,_,_=>false
def Mz (u:TypeDesc):List LKd->Bool
 | []=>true
 |k::a=>ahq k u&&Mz u a
def al3 (tab:Fu) (u:TypeDesc) (a:List LKd):Bool:=
 match u with
 | .struct c=>Hk tab a c.toList 0
 | .array b e=>acK b a.length&&(match tab.get e with |some i=>Mz i.u a&&acK i.size 1 |none=>false)
 |_=>false
def aiU (tab:Fu) (e:EK) (i:TI) (n:Nat):Bool:=
 match e,i.u with
 | .bool,.bool=>true
 | .sn,.slice _=>true
 | .EH,.func _ _ _=>true
 | .Fs,.interface _=>true
 | .Ld,.interface _=>true
 | .ptr,.pointer _=>true
 | .leaves m,u=>i.plain&&al3 tab u m
 |_,_=>false
def isConst:Operand->Bool
 | .const _=>true
 |_=>false
def apY (e:EK) (x y:Operand):Bool:=match e with | .Ld=>isConst x ||isConst y |_=>true
def ef (tab:Fu) (o:Oper) (a:PH):Bool:=
 match a with
 | .fail=>(match o.op with
  | .defer _=>false
  |_=>true)
 | .mv x=>(match o.op with
  | .move y=>uU x y
  | .assign y=>uU x y
  |_=>false)
 | .pick c a b=>(match o.op with
  | .pick T U V=>uU c T&&uU a U&&uU b V
  |_=>false)
 | .alloc Q z=>(match o.op with
  | .alloc t=>match tab.get t with |some i=>AV.mZ z i.zero&&acK t Q |none=>false
  |_=>false)
 | .box x=>(match o.op with
  | .box t y=>uU x y
  |_=>false)
 | .build z W=>(match o.op with
  | .build t Y=>match tab.get t with
    |some i=>AV.mZ z i.zero&&(match i.u with | .struct N=>QT tab N.toList | .array _ e=>(tab.get e).isSome |_=>false)&&JC (placeOf tab i.u) W Y.toList
    |none=>false
  |_=>false)
 | .BG z len W=>(match o.op with
  | .buildSlice t O Y=>match tab.get t with
    |some i=>(match i.u with
     | .slice e=>(match tab.get e with
      |some j=>AV.mZ z j.zero&&acK len O&&aiv (len*j.size) 16777216&&ak3 0 j.size&&JC (λk=>some (k*j.size,j.size)) W Y.toList
      |none=>false)
     |_=>false)
    |none=>false
  |_=>false)
 | .ng x=>(match o.op with
  | .load t y=>match tab.get t with |some i=> !VA i.u&&uU x y |none=>false
  |_=>false)
 | .yS n x=>(match o.op with
  | .load t y=>match tab.get t with |some i=>VA i.u&&acK n i.size&&uU x y |none=>false
  |_=>false)
 | .store n x y=>(match o.op with
  | .store t h r=>match tab.get t with |some i=>acK n i.size&&uU x h&&uU y r |none=>false
  |_=>false)
 | .bin E x y=>(match o.op with
  | .binOp F t h r _=>BinOp.same E F&&uU x h&&uU y r
  |_=>false)
 | .eqv w e x y=>(match o.op with
  | .binOp E t h r _=>match tab.get t with
    |some i=>(match E with | .eql=> !w | .neq=>w |_=>false)&&aiU tab e i 0&&uU x h&&uU y r&&apY e h r
    |none=>false
  |_=>false)
 | .peq w x y=>(match o.op with
  | .binOp E t h r _=>match tab.get t with
    |some i=>(match E with | .eql=> !w | .neq=>w |_=>false)&&(match i.u with | .pointer e=>(tab.get e).isSome |_=>false)&&uU x h&&uU y r
    |none=>false
  |_=>false)
 | .LG x=>(match o.op with
  | .call c=>match c.callee,c.args.toList with
    | .builtin .unsafeSliceData,[y]=>uU x y
    |_,_=>false
  |_=>false)
 | .Qo t p n=>(match o.op with
  | .call c=>match c.callee,c.args.toList,c.argTypes.toList with
    | .builtin .unsafeString,[p',n'],pt::_=>(match tab.get pt,tab.get t with
     |some i,some j=>(match i.u with | .pointer e=>acK e t |_=>false)&&acK j.size 1&&uU p p'&&uU n n'
     |_,_=>false)
    |_,_,_=>false
  |_=>false)
 | .un E x=>(match o.op with
  | .unOp F _ h=>UnOp.same E F&&uU x h
  |_=>false)
 | .conv k x=>(match o.op with
  | .convert s d h=>match tab.get s,tab.get d with
    |some i,some j=>uU x h&&(match k,i.u,j.u with
     | .int k,.int _,.int D=>IntKind.same k D
     | .str,.string,.string=>true
     | .bytes,.slice e,.string=>(match tab.get e with |some l=>(match l.u with | .int .u8=>true |_=>false) |none=>false)
     | .CL,.string,.slice e=>(match tab.get e with |some l=>(match l.u with | .int .u8=>true |_=>false) |none=>false)
     | .toU,.pointer e,.unsafePointer=>(match tab.get e with |some l=>ak3 0 l.size |none=>false)
     | .ofU u sz,.unsafePointer,.pointer e=>acK e u&&(match tab.get e with |some l=>ak3 0 l.size&&acK l.size sz |none=>false)
     |_,_,_=>false)
    |_,_=>false
  |_=>false)
 | .iface t x=>(match o.op with
  | .makeInterface Q h=>acK t Q&&uU x h&&(match tab.get Q with |some i=>(match i.u with | .interface _=>false |_=>true) |none=>false)
  |_=>false)
 | .Kc f a b=>(match o.op with
  | .makeFunc (.func g) U V=>acK f g&&afT a U.toList&&afT b V.toList
  |_=>false)
 | .zy z bytes l c=>(match o.op with
  | .makeSlice t l' T=>match tab.get t with
    |some i=>(match i.u with
     | .slice e=>(match tab.get e with
      |some j=>AV.mZ z j.zero&&acK bytes j.bytes&&ak3 0 j.size&&uU l l'&&uU c T
      |none=>false)
     |_=>false)
    |none=>false
  |_=>false)
 | .Aw x Z hi=>(match o.op with
  | .slice t h G H none=>match tab.get t with |some i=>(match i.u with | .string=>true |_=>false)&&uU x h&&SX Z G&&SX hi H |none=>false
  |_=>false)
 | .slice q x Z hi R=>(match o.op with
  | .slice t h G H va=>match tab.get t with
    |some i=>(match i.u with | .slice e=>(match tab.get e with |some j=>acK q j.size |none=>false) |_=>false)&&uU x h&&SX Z G&&SX hi H&&SX R va
    |none=>false
  |_=>false)
 | .fld I n K x=>(match o.op with
  | .field t h k=>match tab.get t with
    |some i=>(match i.u with
     | .struct N=>(match N.toList[k]? with
      |some f=>(match tab.get f.type with |some j=>acK f.offset I&&acK j.size n&&(VA j.u==K)&&uU x h |none=>false)
      |none=>false)
     |_=>false)
    |none=>false
  |_=>false)
 | .qF I x=>(match o.op with
  | .fieldAddr t h k=>match tab.get t with
    |some i=>(match i.u with
     | .struct N=>(match N.toList[k]? with
      |some f=>(match tab.get f.type with |some j=>acK f.offset I&&ak3 0 j.size&&uU x h |none=>false)
      |none=>false)
     |_=>false)
    |none=>false
  |_=>false)
 | .AL q x y=>(match o.op with
  | .indexAddr t h r=>match tab.get t with
    |some i=>(match i.u with | .slice e=>(match tab.get e with |some j=>acK q j.size |none=>false) |_=>false)&&uU x h&&uU y r
    |none=>false
  |_=>false)
 | .FK len q x y=>(match o.op with
  | .indexAddr t h r=>match tab.get t with
    |some i=>(match i.u with | .array n e=>acK n len&&(match tab.get e with |some j=>acK q j.size |none=>false) |_=>false)&&uU x h&&uU y r
    |none=>false
  |_=>false)
 | .Nq x y=>(match o.op with
  | .index t h r=>match tab.get t with |some i=>(match i.u with | .string=>true |_=>false)&&uU x h&&uU y r |none=>false
  |_=>false)
 | .Zc len q K x y=>(match o.op with
  | .index t h r=>match tab.get t with
    |some i=>(match i.u with | .array n e=>acK n len&&(match tab.get e with |some j=>acK q j.size&&(VA j.u==K) |none=>false) |_=>false)&&uU x h&&uU y r
    |none=>false
  |_=>false)
 | .look z ok A m k=>(match o.op with
  | .lookup t L D vc=>match tab.get t with
    |some i=>(match i.u with
     | .map kt e=>(match tab.get kt,tab.get e with
      |some M,some ie=>(match M.u with | .int _=> !A | .string=>A |_=>false)&&AV.same z ie.zv&&(ok==vc)&&uU m L&&uU k D
      |_,_=>false)
     |_=>false)
    |none=>false
  |_=>false)
 | .P2=>(match o.op with
  | .makeMap t none=>true
  |_=>false)
 | .Q4 A m k v=>(match o.op with
  | .mapUpdate t L D v'=>match tab.get t with
    |some i=>(match i.u with
     | .map kt e=>(match tab.get kt with |some M=>(match M.u with | .int _=> !A | .string=>A |_=>false)&&uU m L&&uU k D&&uU v v' |none=>false)
     |_=>false)
    |none=>false
  | .insert t L D v'=>match tab.get t with
    |some i=>(match i.u with
     | .map kt e=>(match tab.get kt with |some M=>(match M.u with | .int _=> !A | .string=>A |_=>false)&&uU m L&&uU k D&&uU v v' |none=>false)
     |_=>false)
    |none=>false
  |_=>false)
 | .ext x i=>(match o.op with
  | .extract y j=>acK i j&&uU x y
  |_=>false)
 | .GN x=>(match o.op with
  | .nilCheck y=>uU x y
  |_=>false)
 | .call g S=>(match o.op with
  | .call c=>match c.callee with | .value g'=>uU g g'&&afT S c.args.toList |_=>false
  |_=>false)
 | .len k x=>(match o.op with
  | .call c=>match c.callee,c.args.toList,c.argTypes.toList with
    | .builtin .len,[y],[t]=>(match tab.get t with
     |some i=>uU x y&&(match k,i.u with | .str,.string=>true | .slice,.slice _=>true | .map,.map _ _=>true | .arr n,.array m _=>acK n m |_,_=>false)
     |none=>false)
    | .builtin .cap,[y],[t]=>(match tab.get t with
     |some i=>uU x y&&(match k,i.u with | .cap,.slice _=>true |_,_=>false)
     |none=>false)
    |_,_,_=>false
  |_=>false)
 | .append e' z bytes s x=>(match o.op with
  | .call c=>match c.callee,c.args.toList,c.argTypes.toList with
    | .builtin .append,[P,h],[t,u]=>(match tab.get t,tab.get u with
     |some i,some iu=>(match iu.u with | .slice _=>true | .string=>true |_=>false)&&(match i.u with
      | .slice e=>(match tab.get e with
       |some j=>AV.mZ z j.zero&&acK bytes j.bytes&&ak3 0 j.size&&uU s P&&uU x h&&acK e' e
       |none=>false)
      |_=>false)
     |_,_=>false)
    |_,_,_=>false
  |_=>false)
 | .sL e' z bytes s x=>(match o.op with
  | .call c=>match c.callee,c.args.toList,c.argTypes.toList with
    | .builtin .append,[P,h],[t,u]=>(match tab.get t,tab.get u with
     |some i,some iu=>(match iu.u with | .int _=>true |_=>false)&&(match i.u with
      | .slice e=>(match tab.get e with
       |some j=>AV.mZ z j.zero&&acK bytes j.bytes&&ak3 0 j.size&&uU s P&&uU x h&&acK e' e
       |none=>false)
      |_=>false)
     |_,_=>false)
    |_,_,_=>false
  |_=>false)
 | .copy q d s=>(match o.op with
  | .call c=>match c.callee,c.args.toList,c.argTypes.toList with
    | .builtin .copy,[d',P],t::_=>(match tab.get t with
     |some i=>(match i.u with | .slice e=>(match tab.get e with |some j=>acK q j.size&&ak3 0 j.size |none=>false) |_=>false)&&uU d d'&&uU s P
     |none=>false)
    |_,_,_=>false
  |_=>false)
 | .clear z x=>(match o.op with
  | .call c=>match c.callee,c.args.toList,c.argTypes.toList with
    | .builtin .clear,[h],[t]=>(match tab.get t with
     |some i=>(match i.u with | .slice e=>(match tab.get e with |some j=>AV.mZ z j.zero&&ak3 0 j.size |none=>false) |_=>false)&&uU x h
     |none=>false)
    |_,_,_=>false
  |_=>false)
 | .CR R S=>(match o.op with
  | .call c=>match c.callee with
    | .builtin .max=>R&&afT S c.args.toList
    | .builtin .min=> !R&&afT S c.args.toList
    |_=>false
  |_=>false)
 | .del A m k=>(match o.op with
  | .call c=>match c.callee,c.args.toList,c.argTypes.toList with
    | .builtin .delete,[L,D],t::_=>(match tab.get t with
     |some i=>(match i.u with
      | .map kt e=>(match tab.get kt with |some M=>(match M.u with | .int _=> !A | .string=>A |_=>false)&&uU m L&&uU k D |none=>false)
      |_=>false)
     |none=>false)
    |_,_,_=>false
  |_=>false)
def NW (ops:Array Oper):Option (Nat×Bool)->Option (Nat×Bool)->Bool
 |none,none=>true
 |some (t,b),some (j,a)=>(match ops[j]? with |some o=>(match o.dst with |some d=>acK d t |none=>false) |none=>false)&&(b==a)
 |_,_=>false
def alC:Option Nat->Option Nat->Bool
 |none,none=>true
 |some a,some b=>acK a b
 |_,_=>false
def XR (tab:Fu) (b:Array Oper):List bU->List Oper->Bool
 | [],[]=>true
 |a::aCL,o::c=>alC a.dst o.dst&&NW b a.g o.guard&&ef tab o a.op&&XR tab b aCL c
 |_,_=>false
def J7:AX->List Nat
 | .t i=> [i]
 | .c _=> []
def Qz:List AX->List Nat
 | []=> []
 |x::a=>J7 x++Qz a
def abb:Option AX->List Nat
 |some x=>J7 x
 |none=> []
def ajP:List (Nat×Nat×AX)->List Nat
 | []=> []
 |(_,_,x)::a=>J7 x++ajP a
def o8:PH->List Nat
 | .mv x | .box x | .ng x | .yS _ x | .un _ x | .conv _ x | .iface _ x | .fld _ _ _ x | .qF _ x | .ext x _ | .GN x | .len _ x | .clear _ x | .LG x=>J7 x
 | .pick a b c | .Q4 _ a b c=>J7 a++J7 b++J7 c
 | .alloc _ _ | .P2 | .fail=> []
 | .build _ f | .BG _ _ f=>ajP f
 | .store _ a b | .bin _ a b | .eqv _ _ a b | .zy _ _ a b | .AL _ a b | .FK _ _ a b | .Nq a b | .Zc _ _ _ a b | .look _ _ _ a b | .append _ _ _ a b | .sL _ _ _ a b | .peq _ a b | .Qo _ a b | .copy _ a b | .del _ a b=>J7 a++J7 b
 | .Kc _ a b=>Qz a++Qz b
 | .Aw x a b=>J7 x++abb a++abb b
 | .slice _ x a b c=>J7 x++abb a++abb b++abb c
 | .call g d=>J7 g++Qz d
 | .CR _ d=>Qz d
def aqC (o:bU):List Nat:=o8 o.op++(match o.g with |some (t,_)=> [t] |none=> [])
def PV (a:List Nat):List Edge->Nat
 | []=>0
 |e::b=>cond (Region.binds .any e) (2^e.on |||a.getD e.on 0 |||PV a b) (PV a b)
def sd (a:List Nat):List Oper->List Nat
 | []=>a
 |o::b=>sd (a++ [PV a o.after.toList]) b
def acq (i:Nat):List Edge->Bool
 | []=>true
 |e::a=>(cond (Region.binds .any e) (ak3 e.on i) true)&&acq i a
def X1:Nat->List Oper->Bool
 |_,[]=>true
 |i,o::a=>acq i o.after.toList&&X1 (i+1) a
def Of (a:List Nat) (ops:List bU):List (Nat×Nat)->Nat->List Nat->List Nat->Bool
 | [],_,_,_=>true
 |(i,m)::c,b,d,f=>
  (match a[i]? with |some h=>acK m h |none=>false)&& !azi b i&&acK (m&&&b) m&&
  (match ops[i]? with
   |none=>false
   |some o=>
    match cls o.op with
    | .P=>Of a ops c (b |||2^i) d f
    | .R | .A=>Of a ops c (b |||2^i) d (i::f)
    | .E=>d.all (λj=>azi m j)&&f.all (λj=>azi m j)&&Of a ops c (b |||2^i) (i::d) f)
def WH (a:List Nat) (i m:Nat) (b:List Nat):List bU->Nat->Bool
 | [],_=>true
 |o::c,k=>(match o.dst with
   |none=>true
   |some d=> !(b.any (acK d)) ||(azi m k) ||(match a[k]? with |some f=>azi f i |none=>false))&&WH a i m b c (k+1)
def ahT (a:List Nat) (b:List bU):List bU->Nat->Bool
 | [],_=>true
 |o::c,i=>WH a i (a.getD i 0) (aqC o) b 0&&ahT a b c (i+1)
def P5:List bU->List Nat->Bool
 | [],_=>true
 |o::a,seen=>(match o.dst with |none=>P5 a seen |some d=> !(seen.any (acK d))&&P5 a (d::seen))
def aiq (ops:List Oper) (aCL:List bU) (a:List (Nat×Nat)):Bool:=
 let b:=sd [] ops
 X1 0 ops&&acK a.length ops.length&&(List.range ops.length).all (λi=>a.any (λq=>acK i q.1))&&Of b aCL a 0 [] []&&ahT b aCL aCL 0&&P5 aCL []
def LJ:List Nat->List Nat->Bool
 | [],[]=>true
 |a::aCL,b::c=>acK a b&&LJ aCL c
 |_,_=>false
def abd: ∀ {a b},LJ a b=true->a=b
 | [],[],_=>rfl
 |a::aCL,b::c,h=>by simp [LJ,agl]at h;rw [h.1,abd h.2]
 | [],_::_,h=>by simp [LJ]at h
 |_::_,[],h=>by simp [LJ]at h
def mQ:dy->Bool
 | .seq a b=>mQ a&&mQ b
 | .cond _ a b=>mQ a&&mQ b
 | .block _ b=>mQ b
 | .loop b=>mQ b
 | .ou _ _ _ _=>false
 |_=>true
def cOK (tab:Fu):dy->Code->Bool
 | .fail,_=>true
 | .skip,.skip=>true
 | .region aCL,.region _ c false=>XR tab c aCL c.toList
 | .lN aCL f,.region _ c true=>XR tab c aCL c.toList&&aiq c.toList aCL f
 | .seq a b,.seq d h=>cOK tab a d&&cOK tab b h
 | .cond x a b,.cond y d h=>uU x y&&cOK tab a d&&cOK tab b h
 | .block i a,.block j d=>acK i j&&cOK tab a d
 | .loop a,.loop d=>cOK tab a d
 | .ou g l a b,.rangeFunc n k d h=>uU g n&&LJ l k.toList&&cOK tab a d&&cOK tab b h&&mQ a&&mQ b
 | .exit i,.exit j=>acK i j
 | .ret,.ret=>true
 |_,_=>false
def Kl (tab:Fu):List afj->List ResultVar->Bool
 | [],[]=>true
 | .t i::a,.tmp j::b=>acK i j&&Kl tab a b
 | .c1 i::a,.cell j t::b=>acK i j&&(match tab.get t with |some k=> !VA k.u |none=>false)&&Kl tab a b
 | .cN i n::a,.cell j t::b=>acK i j&&(match tab.get t with |some k=>VA k.u&&acK k.size n |none=>false)&&Kl tab a b
 |_,_=>false
def asP (tab:Fu) (a:AFn) (b:Func):Bool:=
 acK a.ntmps b.ntmps && Kl tab a.res b.results.toList && (match b.body with | some c => cOK tab a.body c | none => false) && !(b.name == "runtime.NumGoroutine")
theorem IL: ∀a b,CI a b=Op.bytesLess a b
 | [],[]=>rfl
 |_::_,[]=>rfl
 | [],_::_=>rfl
 |a::x,b::y=>by
  have c:ak3 a.toNat b.toNat=decide (a<b):=by
   rw [Bool.eq_iff_iff];simp [amL,UInt8.lt_iff_toNat_lt]
  have d:acK a.toNat b.toNat=(a==b):=by
   rw [Bool.eq_iff_iff];simp [agl,UInt8.toNat_inj]
  simp only [CI,Op.bytesLess,IL x y,c,d]
theorem LA l:(aoc l.toArray).toList=l:=ByteArray.toList_mk l
theorem jI (l:List UInt8):(aoc l.toArray).size=l.length:=by simp [ByteArray.size]
theorem Y9 (a b:List UInt8):aoc a.toArray++aoc b.toArray=aoc (a++b).toArray:=by
 apply ByteArray.ext;simp
theorem Cb (l:List UInt8) i j:(aoc l.toArray).extract i j=aoc ((l.drop i).take (j-i)).toArray:=by
 apply ByteArray.ext;simp [List.extract_eq_take_drop]
theorem qM a b:aD a b=(a==b):=by
 rw [Bool.eq_iff_iff,dZ];simp
theorem jm a b:Int.same a b=(a==b):=by
 rw [Bool.eq_iff_iff];simp;exact⟨Int.dG,λh=>by subst h;cases a<;>simp [Int.same,agl]⟩
theorem bF {α:Type} {x:Option α} {y} (h:cond b x none=some y):b=true/\x=some y:=by cases b<;>simp_all
section
variable {ρ:pZ} {v:Value}
theorem bT.PS (h:bT ρ (.int k n) v):v= .int k n:=h
theorem bT.Xw (h:bT ρ (.bool b) v):v= .bool b:=h
theorem bT.OA (h:bT ρ (.str s) v):v= .string ⟨s.toArray⟩:=h
theorem anA (h:uK x=some i): ∃k,x= .int k (ahd i):=by
 cases x with
 |int k n=>cases n<;>simp [uK]at h;subst h;exact⟨k,rfl⟩
 |_=>simp [uK]at h
theorem bT.ayg (a:uK x=some i) (h:bT ρ x v): ∃k,v= .int k i:=by
 obtain⟨k,rfl⟩:=anA a;exact⟨k,h⟩
end
section
variable {P:Program} (w:World)
theorem aiL (h:bR op k a b=some v) t:
  ∃x,(binOp op t (.int k a) (.int k b)).run P w= .ok x w/\ ∀ρ,bT ρ v x:=by
 cases op<;>simp only [bR]at h
 case add=>cases h;exact⟨_,by simp [binOp,Op.intArith],λ_=>rfl⟩
 case sub=>cases h;exact⟨_,by simp [binOp,Op.intArith],λ_=>rfl⟩
 case mul=>cases h;exact⟨_,by simp [binOp,Op.intArith],λ_=>rfl⟩
 case quo=>
  cases c:Int.same b 0 with
  |true=>rw [c]at h;simp at h
  |false=>
   rw [c]at h;simp at h;subst h;rw [jm]at c;have d:b≠0:=by simpa using c
   exact⟨_,by simp [binOp,Op.intDiv,d],λ_=>rfl⟩
 case rem=>
  cases c:Int.same b 0 with
  |true=>rw [c]at h;simp at h
  |false=>
   rw [c]at h;simp at h;subst h;rw [jm]at c;have d:b≠0:=by simpa using c
   exact⟨_,by simp [binOp,Op.intDiv,d],λ_=>rfl⟩
 case eql=>cases h;exact⟨.bool (a==b),by simp [binOp,Op.intCmp],λ_=>by show _=_;rw [jm]⟩
 case neq=>cases h;exact⟨.bool (a !=b),by simp [binOp,Op.intCmp],λ_=>by show _=_;rw [jm];rfl⟩
 case lss=>cases h;exact⟨.bool (decide (a<b)),by simp [binOp,Op.intCmp],λ_=>rfl⟩
 case leq=>cases h;exact⟨.bool (decide (a<=b)),by simp [binOp,Op.intCmp],λ_=>rfl⟩
 case gtr=>cases h;exact⟨.bool (decide (b<a)),by simp [binOp,Op.intCmp],λ_=>rfl⟩
 case geq=>cases h;exact⟨.bool (decide (b<=a)),by simp [binOp,Op.intCmp],λ_=>rfl⟩
 case and=>cases h;exact⟨_,by simp [binOp,Op.intBits],λ_=>rfl⟩
 case or=>cases h;exact⟨_,by simp [binOp,Op.intBits],λ_=>rfl⟩
 case xor=>cases h;exact⟨_,by simp [binOp,Op.intBits],λ_=>rfl⟩
 case andNot=>
  cases h;refine⟨.int k (k.wrap ((BitVec.ofInt k.bits a&&& ~~~BitVec.ofInt k.bits b).toNat)),by simp only [binOp,Op.intBits];simp,λ_=> ?_⟩;show _=_;rw [BitVec.toNat_and,BitVec.toNat_not];rfl
 all_goals cases h
theorem adh (h:XW op k a b=some v) t:
  ∃x,(binOp op t (.int k a) (.int k' b)).run P w= .ok x w/\ ∀ρ,bT ρ v x:=by
 cases b with
 |negSucc b=>cases h
 |ofNat y=>
  have d: ¬((ahd y)<0):=ab
  have f:cond (aiv y k.bits) y k.bits=min (ahd y).toNat k.bits:=by
   cases c:aiv y k.bits with
   |true=>have:=ax0 c;simp only [cond_true,Int.ofNat_eq_natCast,aoS];omega
   |false=>
    have: ¬y<=k.bits:=λh=>by rw [Nat.ble_eq_true_of_le h]at c;cases c
    simp only [cond_false,Int.ofNat_eq_natCast,aoS];omega
  cases op<;>simp only [XW]at h
  case shl=>
   cases h;refine⟨.int k (k.wrap (a*2^min (ahd y).toNat k.bits)),by simp only [binOp,Op.shift,if_neg d,acH],λ_=> ?_⟩;show _=_;rw [<-f];congr 2
  case shr=>
   cases h;refine⟨.int k (a.fdiv (2^min (ahd y).toNat k.bits)),by simp only [binOp,Op.shift,if_neg d,acH],λ_=> ?_⟩;show _=_;rw [<-f];congr 2
  all_goals cases h
theorem aii (h:bS op a b=some v) t:
  ∃x,(binOp op t (.string ⟨a.toArray⟩) (.string ⟨b.toArray⟩)).run P w= .ok x w/\ ∀ρ,bT ρ v x:=by
 cases op<;>simp only [bS]at h
 case add=>
  obtain⟨c,d⟩:=bF h;cases d;have f:a.length+b.length<=9223372036854775807:=by simpa [al9]using c
  refine⟨.string (⟨a.toArray⟩++⟨b.toArray⟩), ?_,λ_=> ?_⟩
  ·have j:IntKind.i64.max=9223372036854775807:=rfl;simp only [binOp,azk];rw [if_neg (by rw [jI,jI,j];omega)];rfl
  ·show _=_;rw [Y9]
 case eql=>cases h;exact⟨.bool (a==b),by simp [binOp,azk],λ_=>by show _=_;rw [qM]⟩
 case neq=>cases h;exact⟨.bool (!(a==b)),by simp [binOp,azk],λ_=>by show _=_;rw [qM]⟩
 case lss=>cases h;exact⟨.bool (Op.bytesLess a b),by simp [binOp,azk],λ_=>by show _=_;rw [IL]⟩
 case leq=>cases h;exact⟨.bool (Op.bytesLess a b ||a==b),by simp [binOp,azk],λ_=>by show _=_;rw [IL,qM]⟩
 case gtr=>cases h;exact⟨.bool (!(Op.bytesLess a b ||a==b)),by simp [binOp,azk],λ_=>by show _=_;rw [IL,qM]⟩
 case geq=>cases h;exact⟨.bool (!Op.bytesLess a b),by simp [binOp,azk],λ_=>by show _=_;rw [IL]⟩
 all_goals cases h
theorem ji op t x y a b (l: ∀xs,a= .agg xs->P.eqGuardType P.depth t=false) (j:a= .nilIface->b= .nilIface->(isConst x ||isConst y)=true):
  (eqGuard op t x y a b).run P w= .ok () w:=by
 have c: ∀(o:BinOp) (xs n:Array Value),a= .agg xs->b= .agg n->(o= .eql\/o= .neq)->(eqGuard o t x y a b).run P w= .ok () w:=by
  intro o xs n f h k;subst f h;rcases k with rfl |rfl<;>simp [eqGuard,l xs rfl]
 have d: ∀(o:BinOp),a= .nilIface->b= .nilIface->(o= .eql\/o= .neq)->(eqGuard o t x y a b).run P w= .ok () w:=by
  intro o f h k;have p:=j f h;clear j;subst f h;rcases k with rfl |rfl<;>cases x<;>cases y<;>first |rfl |(simp [isConst]at p)
 clear l j;cases op<;>first |rfl |skip
 all_goals
  cases a<;>cases b<;>first |rfl |exact d _ rfl rfl (.inl rfl) |exact d _ rfl rfl (.inr rfl) |exact c _ _ _ rfl rfl (.inl rfl) |exact c _ _ _ rfl rfl (.inr rfl)
theorem ad0 (h:Ow k x y=some r) (c:bT ρ x x') (f:bT ρ y l) (j:P.underlying t=some u)
  (n:ahq k u=true) d:(akt (d+1) t x' l).run P w= .ok r w:=by
 cases k<;>cases u<;>simp only [ahq,ab2]at n
 ·cases x<;>cases y<;>simp only [Ow]at h<;>try (cases h;done)
  obtain⟨p,q⟩:=bF h;cases q;have:=IntKind.dG p;subst this;have a:=bT.PS c;have b:=bT.PS f;subst a b;rw [run_equalIn_int w d t _ _ _ _ j,jm]
 ·cases x<;>cases y<;>simp only [Ow]at h<;>try (cases h;done)
  cases h;have a:=bT.Xw c;have b:=bT.Xw f;subst a b;rw [run_equalIn_bool' w d t _ _ j]
 ·cases x<;>cases y<;>simp only [Ow]at h<;>try (cases h;done)
  cases h;have a:=bT.OA c;have b:=bT.OA f;subst a b;rw [run_equalIn_string w d t _ _ j,LA,LA,qM]
theorem ahb (h:ahq k u=true):VA u=false:=by cases k<;>cases u<;>simp_all [ahq,VA]
theorem L9 (h:Ys P t i) (c:VA i.u=false) (d:ca ρ cs vs.toList) (f:cs[o]? =some x):
  ∃y,(part t vs o).run P w= .ok y w/\bT ρ x y:=by
 obtain⟨y,j,a⟩:=d.get o x f;refine⟨y, ?_,a⟩;have b:vs[o]? =some y:=by simpa using j
 simp only [part,aa3,h.Hm w,aaX,c,ab2,if_false,b,acH]
theorem TA (h:og (k::p) aCL q=some r):
  ∃a c b d f j,aCL=a::c/\q=b::d/\Ow k a b=some f/\og p c d=some j/\r=(f&&j):=by
 cases aCL with
 |nil=>simp [og]at h
 |cons a c=>
  cases q with
  |nil=>simp [og]at h
  |cons b d=>
   simp only [og]at h;cases l:Ow k a b with
   |none=>rw [l]at h;cases h
   |some f=>
    rw [l]at h;cases f with
    |true=>exact⟨a,c,b,d,true,r,rfl,rfl,l,h,ab⟩
    |false=>
     simp only at h;cases n:og p c d with
     |none=>rw [n]at h;cases h
     |some j=>rw [n]at h;cases h;exact⟨a,c,b,d,false,j,rfl,rfl,l,n,ab⟩
theorem drop_cons {α:Type} {l:List α} {a} {aCL} (h:l.drop o=a::aCL):l[o]? =some a/\l.drop (o+1)=aCL:=by
 constructor
 ·have:=congrArg (·[0]?) h;simpa using this
 ·have:=congrArg (·.drop 1) h;simpa [List.drop_drop]using this
theorem aeH (u:yA P tab) (K:ca ρ aCL xs.toList) (L:ca ρ I M.toList) d:
  ∀z h o r,Hk tab z h o=true->og z (aCL.drop o) (I.drop o)=some r->
   (Op.eqFields (d+1) xs M h).run P w= .ok r w:=by
 intro z;induction z with
 |nil=>
  intro h o r A t;cases h with
  |nil=>
   have:r=true:=by
    generalize aCL.drop o=a at t;generalize I.drop o=b at t;cases a<;>cases b<;>simp [og]at t;exact t
   subst this;rfl
  |cons f h=>simp [Hk]at A
 |cons k z N=>
  intro h o r A t;cases h with
  |nil=>simp [Hk]at A
  |cons f h=>
   simp only [Hk,ae7]at A;obtain⟨⟨⟨D,n⟩,c⟩,p⟩:=A;have q:f.offset=o:=by simpa [agl]using D
   have j : f.name ≠ "_" := by simpa using n
   cases E:tab.get f.type with
   |none=>rw [E]at c;cases c
   |some i=>
    rw [E]at c;have s:=u _ _ E;obtain⟨a,O,b,Q,R,S,F,G,T,H,rfl⟩:=TA t;obtain⟨U,V⟩:=drop_cons F;obtain⟨W,Y⟩:=drop_cons G;have l:=ahb c;obtain⟨x,Z,cx⟩:=L9 (P:=P) w s l K U;obtain⟨y,hy,cy⟩:=L9 (P:=P) w s l L W;have he:=ad0 (P:=P) w T cx cy s.1 c d;simp only [Op.eqFields,j,ne_eq,not_false_eq_true,if_true,aa3,q,Z,hy,aaX,he];cases R with
    |false=>simp
    |true=>
     simp only [Bool.not_true,ab2,if_false,Bool.true_and];exact N h (o+1) S p (by rw [V,Y];exact H)
theorem agy (f:Ys P e i) (A:ca ρ aCL xs.toList) (D:ca ρ z E.toList) d:
  ∀h o r,Mz i.u h=true->og h (aCL.drop o) (z.drop o)=some r->
   (forIn (List.range' o h.length) (none,()) (λj _=>(do
     let a<-part e xs (j*1)
     let b<-part e E (j*1)
     let r<-akt (d+1) e a b
     if(!r)=true then pure (ForInStep.done (some false,()))else pure (ForInStep.yield (none,())):Sem (ForInStep (Option Bool×Unit))))).run P w
    = .ok (if r then none else some false,()) w:=by
 intro h;induction h with
 |nil=>
  intro o r _ l;have:r=true:=by
   generalize aCL.drop o=a at l;generalize z.drop o=b at l;cases a<;>cases b<;>simp [og]at l;exact l
  subst this;simp
 |cons k h F=>
  intro o r n l;simp only [Mz,ae7]at n;obtain⟨a,G,b,H,I,K,p,q,L,s,rfl⟩:=TA l;obtain⟨M,N⟩:=drop_cons p;obtain⟨O,Q⟩:=drop_cons q;have c:=ahb n.1;obtain⟨x,R,S⟩:=L9 (P:=P) w f c A M;obtain⟨y,T,U⟩:=L9 (P:=P) w f c D O;have V:=ad0 (P:=P) w L S U f.1 n.1 d;have t:=F (o+1) K n.2 (by rw [N,Q];exact s);simp only [List.length_cons,List.range'_succ,List.forIn_cons,aa3,Nat.mul_one,R,T,aaX,V];cases I with
  |false=>simp
  |true=>simpa using t
theorem ajN (l:P.underlying t=some (.array a e)) (b:Ys P e i) (n:i.size=1) (p:ca ρ aCL xs.toList) (q:ca ρ s x.toList)
  c (f:a=c.length) r (y:Mz i.u c=true) (z:og c aCL s=some r) d:(akt (d+2) t (.agg xs) (.agg x)).run P w= .ok r w:=by
 have h:=agy (P:=P) w b p q d c 0 r y (by simpa using z);generalize A:d+1=D at h;have j:d+2=D+1:=aa
 rw [j];simp only [akt,aa3,run_underlying l,aaX,b.run_sizeOf w,n];rw [Std.Legacy.Range.forIn_eq_forIn_range'];have k: [:a].size=c.length:=by simp [Std.Legacy.Range.size,f]
 rw [k];simp only [aa3]at h⊢;rw [h];cases r<;>simp
theorem aoh (d:P.underlying t=some (.slice e)) D a b l c f j (h:a=none\/b=none):
  (akt (D+1) t (.slice a l c) (.slice b f j)).run P w= .ok (a.isNone&&b.isNone) w:=by
 rcases h with rfl |rfl
 ·simp only [akt,aa3,run_underlying d,aaX,acH];simp
 ·cases a<;>simp only [akt,aa3,run_underlying d,aaX,acH]<;>simp
theorem ad9 (c:P.underlying t=some (.pointer e)) D a b (h:a=none\/b=none):
  (akt (D+1) t (.pointer a) (.pointer b)).run P w= .ok (a.isNone&&b.isNone) w:=by
 rcases h with rfl |rfl
 ·simp only [akt,aa3,run_underlying c,aaX,acH];simp
 ·cases a<;>simp only [akt,aa3,run_underlying c,aaX,acH]<;>simp
theorem aaD (b:P.underlying t=some (.func ps rs v)) D a x y:
  (akt (D+1) t .nilFunc .nilFunc).run P w= .ok true w/\(akt (D+1) t .nilFunc (.func a x y)).run P w= .ok false w/\(akt (D+1) t (.func a x y) .nilFunc).run P w= .ok false w:=by
 refine⟨?_, ?_, ?_⟩<;>simp only [akt,aa3,run_underlying b,aaX,acH]
theorem NT (a:P.underlying t=some (.interface ms)) D u x:
  (akt (D+1) t .nilIface (.iface u x)).run P w= .ok false w/\(akt (D+1) t (.iface u x) .nilIface).run P w= .ok false w:=by
 refine⟨?_, ?_⟩<;>simp only [akt,aa3,run_underlying a,aaX,acH]
theorem W9 t x y:Op.equal t x y=akt (9999+1) t x y:=rfl
theorem amd (H:yA P tab) {t:TypeId} (ht:tab.get t=some i) (M:aiU tab e i 0=true) (h:yD e x y=some r)
  (E:bT ρ x x') (F:bT ρ y K) op p q (Z:apY e p q=true):
  (eqGuard op t p q x' K).run P w= .ok () w/\(Op.equal t x' K).run P w= .ok r w:=by
 have s:=H _ _ ht;cases e with
 |bool=>
  cases x<;>cases y<;>simp only [yD]at h<;>try (cases h;done)
  cases h;have f:=bT.Xw E;have k:=bT.Xw F;subst f k;refine⟨ji w op t p q _ _ (λ_ h=>by cases h) (λh=>by cases h), ?_⟩;cases n:i.u<;>simp only [aiU,n,ab2]at M;exact run_equalIn_bool' w 9999 t _ _ (n▸s.1)
 |sn=>
  cases n:i.u<;>simp only [aiU,n,ab2]at M;rename_i el;have d:=n▸s.1;cases x with
  |slice a l c e=>
   cases y with
   |slice b l' c' e'=>
    have Q: ∃z A,x'= .slice z l A/\z.isSome=a.isSome:=by
     rcases a with _ |⟨R,S⟩
     ·obtain⟨I,h2,_⟩:=E;exact⟨none,0,by rw [I,h2],rfl⟩
     ·obtain⟨m,_,z,A,I,_⟩:=E;exact⟨some z,A,I,rfl⟩
    have T: ∃z A,K= .slice z l' A/\z.isSome=b.isSome:=by
     rcases b with _ |⟨R,S⟩
     ·obtain⟨I,h2,_⟩:=F;exact⟨none,0,by rw [I,h2],rfl⟩
     ·obtain⟨m,_,z,A,I,_⟩:=F;exact⟨some z,A,I,rfl⟩
    obtain⟨N,xc,rfl,va⟩:=Q;obtain⟨O,yc,rfl,vc⟩:=T;refine⟨ji w op t p q _ _ (λ_ h=>by cases h) (λh=>by cases h), ?_⟩;rcases a with _ |⟨R,S⟩<;>rcases b with _ |⟨bi,bo⟩<;>simp only [yD]at h<;>try (cases h;done)
    all_goals cases h
    all_goals rw [W9,aoh (P:=P) w d 9999 N O _ _ _ _ (by cases N<;>cases O<;>simp_all)]
    all_goals cases N<;>cases O<;>simp_all
   |_=>rcases a with _ |a<;>simp [yD]at h
  |_=>simp [yD]at h
 |EH=>
  cases n:i.u<;>simp only [aiU,n,ab2]at M;have d:=n▸s.1;cases x<;>cases y<;>simp only [yD]at h<;>try (cases h;done)
  ·cases h;obtain⟨U,x2,rfl,_⟩:=E;have k:K= .nilFunc:=F;subst k;exact⟨ji w op t p q _ _ (λ_ h=>by cases h) (λh=>by cases h),(aaD (P:=P) w d 9999 _ _ _).2.2⟩
  ·cases h;obtain⟨U,x2,rfl,_⟩:=F;have f:x'= .nilFunc:=E;subst f;exact⟨ji w op t p q _ _ (λ_ h=>by cases h) (λh=>by cases h),(aaD (P:=P) w d 9999 _ _ _).2.1⟩
  ·cases h;have f:x'= .nilFunc:=E;have k:K= .nilFunc:=F;subst f k;exact⟨ji w op t p q _ _ (λ_ h=>by cases h) (λh=>by cases h),(aaD (P:=P) w d 9999 (.func 0) #[] #[]).1⟩
 |Fs=>
  cases n:i.u<;>simp only [aiU,n,ab2]at M;have d:=n▸s.1;cases x<;>cases y<;>simp only [yD]at h<;>try (cases h;done)
  ·cases h;obtain⟨U,rfl,_⟩:=E;have k:K= .nilIface:=F;subst k;exact⟨ji w op t p q _ _ (λ_ h=>by cases h) (λh=>by cases h),(NT (P:=P) w d 9999 _ _).2⟩
  ·cases h;obtain⟨U,rfl,_⟩:=F;have f:x'= .nilIface:=E;subst f;exact⟨ji w op t p q _ _ (λ_ h=>by cases h) (λ_ h=>by cases h),(NT (P:=P) w d 9999 _ _).1⟩
 |Ld=>
  cases n:i.u<;>simp only [aiU,n,ab2]at M;have d:=n▸s.1;cases x<;>cases y<;>simp only [yD]at h<;>try (cases h;done)
  ·cases h;obtain⟨U,rfl,_⟩:=E;have k:K= .nilIface:=F;subst k;exact⟨ji w op t p q _ _ (λ_ h=>by cases h) (λh=>by cases h),(NT (P:=P) w d 9999 _ _).2⟩
  ·cases h;obtain⟨U,rfl,_⟩:=F;have f:x'= .nilIface:=E;subst f;exact⟨ji w op t p q _ _ (λ_ h=>by cases h) (λ_ h=>by cases h),(NT (P:=P) w d 9999 _ _).1⟩
  ·cases h;have f:x'= .nilIface:=E;have k:K= .nilIface:=F;subst f k;refine⟨ji w op t p q _ _ (λ_ h=>by cases h) (λ_ _=>Z), ?_⟩;have hq: ∀D,(akt (D+1) t .nilIface .nilIface).run P w= .ok true w:=λD=>by
    simp only [akt,aa3,run_underlying d,aaX,acH]
   exact hq 9999
 |ptr=>
  cases n:i.u<;>simp only [aiU,n,ab2]at M;have d:=n▸s.1;cases x with
  |ptr a=>
   cases y with
   |ptr b=>
    have vd: ∃z,x'= .pointer z/\z.isSome=a.isSome:=by
     rcases a with _ |⟨R,S⟩
     ·exact⟨none,E,rfl⟩
     ·obtain⟨m,_,z,I,_⟩:=E;exact⟨some z,I,rfl⟩
    have ve: ∃z,K= .pointer z/\z.isSome=b.isSome:=by
     rcases b with _ |⟨R,S⟩
     ·exact⟨none,F,rfl⟩
     ·obtain⟨m,_,z,I,_⟩:=F;exact⟨some z,I,rfl⟩
    obtain⟨N,rfl,va⟩:=vd;obtain⟨O,rfl,vc⟩:=ve;refine⟨ji w op t p q _ _ (λ_ h=>by cases h) (λh=>by cases h), ?_⟩;rcases a with _ |⟨R,S⟩<;>rcases b with _ |⟨bi,bo⟩<;>simp only [yD]at h<;>try (cases h;done)
    all_goals cases h
    all_goals rw [W9,ad9 (P:=P) w d 9999 N O (by cases N<;>cases O<;>simp_all)]
    all_goals cases N<;>cases O<;>simp_all
   |_=>rcases a with _ |a<;>simp [yD]at h
  |_=>simp [yD]at h
 |leaves ks=>
  simp only [aiU,ae7]at M;obtain⟨vf,L⟩:=M;obtain⟨hg,vg⟩:=s.2.1 vf;cases x with
  |agg aCL=>
   cases y with
   |agg bs=>
    simp only [yD]at h;obtain⟨xs,rfl,V⟩:=E;obtain⟨ys,rfl,W⟩:=F;refine⟨ji w op t p q _ _ (λ_ _=>hg) (λh=>by cases h), ?_⟩;cases n:i.u<;>simp only [al3,n,ab2]at L
    ·rename_i vj e;simp only [ae7]at L;obtain⟨Y,G⟩:=L;cases he:tab.get e with
     |none=>rw [he]at G;cases G
     |some j=>
      rw [he]at G;simp only [ae7]at G;exact ajN (P:=P) w (n▸s.1) (H _ _ he) (by simpa [agl]using G.2) V W ks (by simpa [agl]using Y) r G.1 h 9998
    ·rename_i fs;have d:P.underlying t=some (.struct (P.fieldsOf t)):=by
      have:=n▸s.1;rw [this];simp [Program.fieldsOf,this]
     have vh:P.fieldsOf t=fs:=by
      have:=n▸s.1;simp [Program.fieldsOf,this]
     show(akt (9999+1) t (.agg xs) (.agg ys)).run P w= .ok r w;rw [run_equalIn_agg w 9999 t xs ys d vg,vh];exact aeH (P:=P) w H V W 9998 ks fs.toList 0 r L (by simpa using h)
   |_=>simp [yD]at h
  |_=>simp [yD]at h
end
theorem adH: ∀d xs cs (vs:Array Value) b k,ca ρ cs vs.toList->ca ρ xs d->
  ca ρ (bu cs (b+k) xs) ((d.zipIdx k).foldl (λcs p=>cs.setIfInBounds (b+p.2) p.1) vs).toList
 | [],[],cs,vs,b,k,h,_=>h
 |y::d,x::xs,cs,vs,b,k,h,c=>by
  simp only [List.zipIdx_cons,List.foldl_cons,bu];exact adH d xs (cs.set (b+k) x) (vs.setIfInBounds (b+k) y) b (k+1) (by simpa using h.set (b+k) c.1) c.2
 | [],_::_,_,_,_,_,_,c=>c.elim
 |_::_,[],_,_,_,_,_,c=>c.elim
theorem I1 {a:Act} (hf:yE ρ f a.tmps) b: ∀ps v cs cs' vs,
  JC b ps v=true->fill f cs ps=some cs'->ca ρ cs vs.toList->
  ∃l,Instr.fill b vs (v.map λp=>(p.1,a.eval p.2))=some l/\ca ρ cs' l.toList
 | [],[],cs,cs',vs,_,h,z=>by simp [fill]at h;subst h;exact⟨vs,rfl,z⟩
 |(A,q,x)::ps,(k,y)::v,cs,cs',vs,c,h,z=>by
  simp only [JC,ae7]at c;obtain⟨⟨d,D⟩,n⟩:=c;cases E:b k with
  |none=>rw [E]at d;cases d
  |some M=>
   obtain⟨o,s⟩:=M;rw [E]at d;simp only [ae7,agl]at d;obtain⟨rfl,rfl⟩:o=A/\s=q:=⟨by simpa using d.1,by simpa using d.2⟩;simp only [fill]at h;obtain⟨F,N⟩:=bF h;simp only [ae7,agl,al9]at F;have r:=bT.cells ((cI D).ev hf);have G:=r.length;have H:=z.length;have I:(a.eval y).cells.size=s:=by rw [<-ahG,G];exact F.1
   have K:vs.size=cs.length:=by rw [<-ahG,H]
   have t: ¬((decide ((a.eval y).cells.size≠s) ||decide (o+(a.eval y).cells.size>vs.size))=true):=by
    simp [I,K];exact F.2
   have j:=adH (a.eval y).cells.toList (cellsOf (f.ev x)) cs vs o 0 z r;have L:((a.eval y).cells.toList.zipIdx 0).foldl (λ(cs:Array Value) (p:Value×Nat)=>cs.setIfInBounds (o+p.2) p.1) vs
     =(a.eval y).cells.zipIdx.foldl (λcs p=>cs.setIfInBounds (o+p.2) p.1) vs:=by
    rw [<-Array.foldl_toList,Array.toList_zipIdx]
   rw [L]at j;obtain⟨l,O,u⟩:=I1 hf b ps v _ cs' _ n N j;refine⟨l, ?_,u⟩;simp only [azg,Instr.fill,E];rw [if_neg t];exact O
 | [],_::_,_,_,_,c,_,_=>by simp [JC]at c
 |_::_,[],_,_,_,c,_,_=>by simp [JC]at c
section
variable {P:Program} (w:World) {tab:Fu} (aBl:yA P tab)
include aBl
theorem aer: ∀b,QT tab b=true-> ∃ps,(b.mapM λf=>(do pure (f.offset,<-sizeOf f.type):Sem (Nat×Nat))).run P w= .ok ps w/\
  ∀k:Nat,ps[k]? =(match b[k]? with |some f=>(match tab.get f.type with |some i=>some (f.offset,i.size) |none=>none) |none=>none)
 | [],_=>⟨[],ab,ab⟩
 |f::b,h=>by
  simp only [QT]at h;cases c:tab.get f.type with
  |none=>rw [c]at h;cases h
  |some i=>
   rw [c]at h;obtain⟨ps,d,j⟩:=aer b h;refine⟨(f.offset,i.size)::ps, ?_,λk=> ?_⟩
   ·simp only [List.mapM_cons,aa3,(aBl _ _ c).run_sizeOf w,aaX,acH,d]
   ·cases k with
    |zero=>simp [c]
    |succ k=>simpa using j k
theorem aly {a:Act} (hf:yE ρ f a.tmps) {t:TypeId} (N:tab.get t=some i) (O:z=i.zero) {s:Array (Nat×Operand)}
  (d:(match i.u with | .struct E=>QT tab E.toList | .array _ e=>(tab.get e).isSome |_=>false)=true) (n:JC (placeOf tab i.u) ps s.toList=true) (h:fill f z ps=some cs):
  ∃x,(Instr.build t (s.map λ(i,x)=>(i,a.eval x))).run P w= .ok x w/\bT ρ (.agg cs) x:=by
 have r:=aBl _ _ N;obtain⟨Q,G,q,_,_,v,R,H⟩:=r.run_typeInfo w;have y:ca ρ z G.cells.toList:=by subst O;exact H ρ
 have c:(s.map λ(i,x)=>(i,a.eval x)).toList=s.toList.map λp=>(p.1,a.eval p.2):=ab
 cases A:i.u<;>rw [A]at d<;>simp only [ab2]at d
 ·rename_i S e;cases I:tab.get e with
  |none=>rw [I]at d;simp at d
  |some j=>
   have b:placeOf tab i.u=λk=>some (k*j.size,j.size):=by funext k;simp [placeOf,A,I]
   rw [b]at n;obtain⟨l,K,L⟩:=I1 hf _ ps s.toList z cs G.cells n h y;refine⟨.agg l, ?_,⟨l,rfl,L⟩⟩;simp only [Instr.build,zeroValue,aa3,q,aaX,v,acH,r.run_underlying w,A,(aBl _ _ I).run_sizeOf w,c,K]
 ·rename_i E;obtain⟨F,M,T⟩:=aer (P:=P) w aBl E.toList d;have b:placeOf tab i.u=λk:Nat=>F[k]? :=by funext k;rw [T k,A];rfl
  rw [b]at n;obtain⟨l,K,L⟩:=I1 hf _ ps s.toList z cs G.cells n h y;refine⟨.agg l, ?_,⟨l,rfl,L⟩⟩;have U:(E.mapM λ(f:Field)=>(do pure (f.offset,<-sizeOf f.type):Sem (Nat×Nat))).run P w= .ok F.toArray w:=by
   rw [Array.mapM_eq_mapM_toList];simp only [Sem.run_map,M,aaX]
  have D:(λk:Nat=>F.toArray[k]?)=λk:Nat=>F[k]? :=by funext k;simp
  simp only [Instr.build,zeroValue,aa3,q,aaX,v,acH,r.run_underlying w,A,c];rw [U];simp only [aaX,D,K,acH]
theorem Tz {t:TypeId} (l:tab.get t=some i) (p:n=i.size) (j:VA i.u=d) (k:ca ρ cs vs.toList)
  (h:Bn d n cs b=some v): ∃x,(part t vs b).run P w= .ok x w/\bT ρ v x:=by
 have c:=aBl _ _ l;cases d with
 |true=>
  simp only [Bn]at h;obtain⟨r,q⟩:=bF h;cases q;refine⟨.agg (vs.extract b (b+n)), ?_,⟨_,rfl, ?_⟩⟩
  ·simp only [part,aa3,c.Hm w,aaX,j,if_true,c.run_sizeOf w,acH,p]
  ·have:(vs.extract b (b+n)).toList=(vs.toList.drop b).take n:=by simp [List.extract_eq_take_drop]
   rw [this];exact(k.drop b).take n
 |false=>
  simp only [Bn]at h;exact L9 (P:=P) w c j k h
end
theorem aem w c: ∀k x b x' v,aeW c x k=some v->bT ρ x x'->ca ρ k b->
  ∃y,(b.foldlM (if c then Builtin.max2 else Builtin.min2) x').run P w= .ok y w/\bT ρ v y
 | [],x,[],x',v,h,n,_=>by simp [aeW]at h;subst h;exact⟨x',ab,n⟩
 |y::k,x,u::b,x',v,h,n,d=>by
  simp only [aeW]at h;cases j:mm c x y with
  |none=>rw [j]at h;cases h
  |some z=>
   rw [j]at h;have A: ∃l,((if c then Builtin.max2 else Builtin.min2) x' u).run P w= .ok l w/\bT ρ z l:=by
    cases x<;>cases y<;>simp only [mm]at j<;>try (cases j;done)
    cases j;have p:=bT.PS n;have q:=bT.PS d.1;subst p q;cases c
    ·simp only [if_false,ab2];exact⟨_,rfl,by show arN _ _=arN _ _;simp [bZ,cond_eq_ite]⟩
    ·simp only [if_true];exact⟨_,rfl,by show arN _ _=arN _ _;simp [bZ,cond_eq_ite]⟩
   obtain⟨l,s,t⟩:=A;obtain⟨r,D,E⟩:=aem (P:=P) w c k z b l v h t d.2;exact⟨r,by simp only [List.foldlM_cons,aa3,s,aaX,D],E⟩
 | [],_,_::_,_,_,_,_,d=>d.elim
 |_::_,_,[],_,_,_,_,d=>d.elim
theorem AT {ρ:pZ} {P:Program} (w:World) {f:AF} {a:Act} (hf:yE ρ f a.tmps) {x:Option AX} {y:Option Operand} (p:SX x y=true) {d c m:Nat} (h:bound x f d c=some m):
  match y with
  |none=>m=d
  |some y=> ∀b j,c<=b->(avN (a.eval y) b j).run P w= .ok m w:=by
 have q:=avD p;cases x with
 |none=>
  cases y with
  |none=>simp [bound]at h;exact h.symm
  |some y=>exact q.elim
 |some x=>
  cases y with
  |none=>exact q.elim
  |some y=>
   simp only [bound]at h;have r:=am0.ev (show am0 x y from q) hf;intro b j z;cases s:f.ev x with
   |int k n=>
    rw [s]at h r;cases n with
    |ofNat i=>
     simp only at h;obtain⟨t,u⟩:=bF h;cases u;have A:m<=c:=by simpa [al9]using t
     have v:=bT.PS r;have l:(0:Int)<=ahd m/\ahd m<=(b:Int):=⟨Int.natCast_nonneg m,by show(m:Int)<=b;omega⟩;rw [v];simp only [avN,asIntOf,aa3,acH,aaX];rw [if_pos l];rfl
    |negSucc i=>simp at h
   |_=>rw [s]at h;simp at h
theorem MD b o s n:(⟨b,o+s,none⟩:Addr).add n=⟨b,o+n+s,none⟩:=by
 unfold Addr.add;split
 ·subst_vars;simp
 ·simp;omega
section
variable {P:Program} {tab:Fu} (aBl:yA P tab) {ρ:pZ} {f:AF} {a:Act} (hf:yE ρ f a.tmps) (w:World)
include aBl hf
theorem alF (L:ef tab o (.slice q x lo hi G)=true) (k:aw (.slice q x lo hi G) f=some v):
  ∃y,(execOp a.eval o).run P w= .ok (.value y) w/\bT ρ v y:=by
 cases vm:o.op<;>simp only [ef,vm,ab2]at L;rename_i t x' vh va p;cases ht:tab.get t with
 |none=>rw [ht]at L;cases L
 |some i=>
  rw [ht]at L;simp only [ae7]at L;obtain⟨⟨⟨⟨hu,hx⟩,vn⟩,vc⟩,vd⟩:=L;have vx:=aBl _ _ ht;cases vo:i.u<;>rw [vo]at hu<;>simp only [ab2]at hu;rename_i e;cases he:tab.get e with
  |none=>rw [he]at hu;cases hu
  |some j=>
   rw [he]at hu;have vz:q=j.size:=by simpa [agl]using hu
   have v0:=aBl _ _ he;have vj:=(cI hx).ev hf;simp only [aw]at k;cases vp:f.ev x with
   |slice H N n ex=>
    rw [vp]at k vj;simp only at k;cases d:bound G f n n with
    |none=>rw [d]at k;cases k
    |some m=>
     rw [d]at k;simp only at k;have ve: ∃A D,a.eval x'= .slice A N D/\N<=D/\n<=D/\(ex=0->D=n)/\(H=none->A=none/\D=0/\N=0/\n=0)/\
       (∀ai ao,H=some (ai,ao)-> ∃a',A=some a'/\ ∃mm,ρ ai=some mm/\ ∀b s,mm=some (b,s)->0<D->a'=⟨b,ao+s.s,none⟩/\(0<ex->ao+s.s+D*ex<=s.R)):=by
      rcases H with _ |⟨ai,ao⟩
      ·obtain⟨E,F,h3⟩:=vj;exact⟨none,0,by rw [E,F],aa,aa,λ_=>h3.symm,λ_=>⟨rfl,rfl,F,h3⟩,λ_ _ h=>by cases h⟩
      ·obtain⟨mm,hm,a',D,E,F,h3,h4,h5⟩:=vj;exact⟨some a',D,E,F,h3,h4,(λh=>by cases h),λwd we h=>by cases h;exact⟨a',rfl,mm,hm,h5⟩⟩
     obtain⟨A,D,hA,hl,v1,v2,vf,T⟩:=ve;have hM: ∃M,(match p.map a.eval with
        |some v=>avN v D .slice3Acap
        |none=>pure D:Sem Nat).run P w= .ok M w/\m<=M/\(G=none->M=D/\m=n)/\(G.isSome=true->M=m/\p.isSome=true):=by
      have O:=AT (P:=P) w hf vd d;cases p with
      |none=>
       have U:G=none:=by cases G with |none=>rfl |some _=>simp [SX]at vd
       subst U;simp only at O;exact⟨D,rfl,aa,λ_=>⟨rfl,O⟩,λh=>by cases h⟩
      |some y=>
       have I:G.isSome=true:=by cases G with |none=>simp [SX]at vd |some _=>rfl
       exact⟨m,O D _ v1,afK _,λh=>(by rw [h]at I;cases I),λ_=>⟨rfl,rfl⟩⟩
     obtain⟨M,V,wf,Q,W⟩:=hM;cases c:nA G hi f N n m with
     |none=>rw [c]at k;cases k
     |some S=>
      rw [c]at k;simp only at k;have hH:(match va.map a.eval,p.map a.eval with
        |some v,some _=>avN v M .slice3B
        |some v,none=>avN v M .sliceAcap
        |none,none=>pure N
        | none, some _ => stuck "Slice: max without high" : Sem Nat).run P w = .ok S w ∧ S ≤ M ∧ (S ≤ N ∨ S ≤ m) := by
       cases G with
       |none=>
        have U:p=none:=by cases p with |none=>rfl |some _=>simp [SX]at vd
        subst U;simp only [nA]at c;obtain⟨v3,wg⟩:=Q rfl;have O:=AT (P:=P) w hf vc c;cases va with
        |none=>
         simp only at O;subst O;exact⟨rfl,aa,.inl (afK _)⟩
        |some y=>
         refine⟨O M _ aa, ?_⟩;have:S<=n:=by
          cases hi with
          |none=>simp [SX]at vc
          |some z=>
           simp only [bound]at c;split at c
           ·obtain⟨E,F⟩:=bF c;cases F;simpa [al9]using E
           ·cases c
         exact⟨aa,.inr aa⟩
       |some z=>
        obtain⟨v3,I⟩:=W rfl;cases p with
        |none=>cases I
        |some zz=>
         cases hi with
         |none=>simp [nA]at c
         |some wh=>
          simp only [nA]at c;have O:=AT (P:=P) w hf vc c;cases va with
          |none=>simp [SX]at vc
          |some y=>
           refine⟨O M _ aa, ?_⟩;have:S<=m:=by
            simp only [bound]at c;split at c
            ·obtain⟨E,F⟩:=bF c;cases F;simpa [al9]using E
            ·cases c
           exact⟨aa,.inr this⟩
      obtain⟨Y,wi,wj⟩:=hH;cases r:bound lo f 0 S with
      |none=>rw [r]at k;cases k
      |some l=>
       rw [r]at k;simp only at k;have hL:(match vh.map a.eval with
         |some v=>avN v S (if(p.map a.eval).isSome then .slice3C else .sliceB)
         |none=>pure 0:Sem Nat).run P w= .ok l w/\l<=S:=by
        have O:=AT (P:=P) w hf vn r;cases vh with
        |none=>simp only at O;subst O;exact⟨rfl,aa⟩
        |some y=>
         refine⟨O S _ (afK _), ?_⟩;cases lo with
         |none=>simp [SX]at vn
         |some z=>
          simp only [bound]at r;split at r
          ·obtain⟨E,F⟩:=bF r;cases F;simpa [al9]using E
          ·cases r
       obtain⟨Z,wk⟩:=hL;have vq:(execOp a.eval o).run P w= .ok (.value (.slice (if M=l then A else A.map (·.add (l*q))) (S-l) (M-l))) w:=by
        clear c d r Q W T vf;cases p<;>cases va<;>cases vh<;>simp only [axD,avL,Option.isSome_some,aut,ab2,if_false,if_true,acH,run_stuck,Result.ok.injEq,and_true,reduceCtorEq]at V Y Z<;>(try subst V)<;>(try subst Y)<;>(try subst Z)<;>
         simp only [execOp,vm,Instr.sliceAt,aa3,vx.run_underlying w,vo,aaX,hA,Instr.slice,axV,if_true,Bool.true_eq_false,acH,v0.run_sizeOf w,vz,axD,avL,Option.isSome_some,aut,ab2,if_false, *]
       refine⟨_,vq, ?_⟩;rcases H with _ |⟨ai,ao⟩
       ·obtain⟨v4,v5,wl,v6⟩:=vf rfl;simp only at k;cases k;have v7:M=0:=by
         cases G with
         |none=>exact(Q rfl).1.trans v5
         |some z=>
          have:=(W rfl).1;have v8:m<=n:=by
           simp only [bound]at d;split at d
           ·obtain⟨E,F⟩:=bF d;cases F;simpa [al9]using E
           ·cases d
          omega
        have v9:S=0:=aa
        have vr:l=0:=aa
        have wb:m=0:=aa
        subst v4;show _/\_/\_;refine⟨?_,aa,aa⟩;simp [v7,vr,v9]
       ·obtain⟨a',rfl,mm,hm,vg⟩:=T ai ao rfl;simp only at k;obtain⟨vt,k⟩:=bF k;cases k;have vk:ex=0\/ex=q:=by simpa [agl]using vt
        refine⟨mm,hm,(if M=l then a' else a'.add (l*q)),M-l, ?_,aa,aa, ?_, ?_⟩
        ·split<;>simp_all
        ·intro vu;cases G with
         |none=>
          simp only [afN]at vu;obtain⟨E,F⟩:=Q rfl;have:=v2 vu;omega
         |some z=>
          have:=(W rfl).1;omega
        ·intro b s vv wc;have wa: ¬M=l:=aa
         have K:0<D:=by
          cases G with
          |none=>have:=(Q rfl).1;omega
          |some z=>
           have E:=(W rfl).1;have v8:m<=n:=by
            simp only [bound]at d;split at d
            ·obtain⟨E,F⟩:=bF d;cases F;simpa [al9]using E
            ·cases d
           omega
         refine⟨by rw [if_neg wa,(vg b s vv K).1,MD],λvl=> ?_⟩;cases G with
         |some z=>simp [afN]at vl
         |none=>
          simp only [afN]at vl⊢;have vw:=(Q rfl).1;have E:=(vg b s vv K).2 vl;rcases vk with h0 |h0
          ·omega
          ·subst h0;have:l*ex+(M-l)*ex=M*ex:=by rw [<-Nat.add_mul];congr 1;omega
           rw [vw]at this⊢;simp only [vw]at*;omega
   |_=>rw [vp]at k;simp at k
end
section
variable {P:Program} {tab:Fu} (aBl:yA P tab) {ρ:pZ} {f:AF} {a:Act} (hf:yE ρ f a.tmps) (w:World) {o:Oper}
include aBl hf
theorem vW {t:TypeId} {b:TI->Bool} (h:(match tab.get t with |some i=>b i |none=>false)=true): ∃i,tab.get t=some i/\Ys P t i/\b i=true:=by
 cases c:tab.get t with
 |none=>simp_all
 |some i=>rw [c]at h;exact⟨i,rfl,aBl _ _ c,h⟩
theorem awJ (b:ef tab o (.mv x)=true) (d:aw (.mv x) f=some v): ∃y,(execOp a.eval o).run P w= .ok (.value y) w/\bT ρ v y:=by
 cases d;simp only [ef]at b;split at b
 ·rename_i y c;exact⟨a.eval y,by simp only [execOp,c,acH],(cI b).ev hf⟩
 ·rename_i y c;exact⟨a.eval y,by simp only [execOp,c,acH],(cI b).ev hf⟩
 ·cases b
theorem ar3 (d:ef tab o (.pick c x y)=true) (k:aw (.pick c x y) f=some v): ∃y,(execOp a.eval o).run P w= .ok (.value y) w/\bT ρ v y:=by
 simp only [ef]at d;split at d
 ·rename_i r s t h;simp only [ae7]at d;have n:=(cI d.1.1).ev hf;have p:=(cI d.1.2).ev hf;have q:=(cI d.2).ev hf;simp only [aw]at k;cases l:f.ev c with
  |bool b=>
   rw [l]at k n;have j:=bT.Xw n;cases b<;>cases k
   ·exact⟨_,by simp only [execOp,h,j];rfl,q⟩
   ·exact⟨_,by simp only [execOp,h,j];rfl,p⟩
  |_=>simp_all
 ·cases d
theorem aoA (b:ef tab o (.build z ps)=true) (d:aw (.build z ps) f=some v): ∃y,(execOp a.eval o).run P w= .ok (.value y) w/\bT ρ v y:=by
 simp only [ef]at b;split at b
 ·rename_i t n h;cases j:tab.get t with
  |none=>rw [j]at b;cases b
  |some i=>
   rw [j]at b;simp only [ae7]at b;simp only [aw]at d;cases c:fill f z ps with
   |none=>rw [c]at d;cases d
   |some p=>
    rw [c]at d;cases d;obtain⟨x,k,l⟩:=aly (P:=P) w aBl hf j (AV.qn _ _ b.1.1) b.1.2 b.2 c;exact⟨x,by simp only [execOp,h,aa3,k,aaX,acH],l⟩
 ·cases b
theorem asJ (b:ef tab o (.bin op x y)=true) (j:aw (.bin op x y) f=some v): ∃y,(execOp a.eval o).run P w= .ok (.value y) w/\bT ρ v y:=by
 simp only [ef]at b;split at b
 ·rename_i K t G H O l;simp only [ae7]at b;have p:=BinOp.dG b.1.1;subst p;have E:=(cI b.1.2).ev hf;have F:=(cI b.2).ev hf;simp only [aw]at j;split at j
  ·rename_i k m I n q u;rw [q]at E;rw [u]at F;have c:=bT.PS E;have d:=bT.PS F;cases z:bz op with
   |true=>
    rw [z,cond_true]at j;obtain⟨r,A,D⟩:=adh (P:=P) (k':=I) w j t;exact⟨r,by simp only [execOp,l,c,d,aa3,ji (P:=P) w op t G H (.int k m) (.int I n) (λ_ h=>by cases h) (λh=>by cases h),A,aaX,acH],D ρ⟩
   |false=>
   rw [z,cond_false]at j;obtain⟨L,M⟩:=bF j;have:=IntKind.dG L;subst this;obtain⟨r,A,D⟩:=aiL (P:=P) w M t;exact⟨r,by simp only [execOp,l,c,d,aa3,ji (P:=P) w op t G H (.int k m) (.int k n) (λ_ h=>by cases h) (λh=>by cases h),A,aaX,acH],D ρ⟩
  ·rename_i s N q u;rw [q]at E;rw [u]at F;have c:=bT.OA E;have d:=bT.OA F;obtain⟨r,A,D⟩:=aii (P:=P) w j t;exact⟨r,by simp only [execOp,l,c,d,aa3,ji (P:=P) w op t G H (.string ⟨s.toArray⟩) (.string ⟨N.toArray⟩) (λ_ h=>by cases h) (λh=>by cases h),A,aaX,acH],D ρ⟩
  ·cases j
 ·cases b
theorem aeO (h:yD e x y=some r) (d:bT ρ x x') (l:bT ρ y k) t:
  binOp .eql t x' k=(do pure (.bool (<-Op.equal t x' k)))/\binOp .neq t x' k=(do pure (.bool (!(<-Op.equal t x' k)))):=by
 cases e with
 |bool=>
      cases x<;>cases y<;>simp only [yD]at h<;>try (cases h;done)
      have b:=bT.Xw d;have n:=bT.Xw l;subst b n;exact⟨rfl,rfl⟩
 |sn=>
  cases x with
  |slice p _ _ _=>cases p with
   |none=>obtain⟨rfl,_⟩:=d;exact⟨rfl,rfl⟩
   |some p=>obtain⟨m,_,q,c,rfl,_⟩:=d;exact⟨rfl,rfl⟩
  |_=>simp [yD]at h
 |EH=>
  cases x<;>cases y<;>simp only [yD]at h<;>try (cases h;done)
  ·obtain⟨s,E,rfl,_⟩:=d;exact⟨rfl,rfl⟩
  ·have b:x'= .nilFunc:=d;subst b;exact⟨rfl,rfl⟩
  ·have b:x'= .nilFunc:=d;subst b;exact⟨rfl,rfl⟩
 |Fs=>
  cases x<;>cases y<;>simp only [yD]at h<;>try (cases h;done)
  ·obtain⟨s,rfl,_⟩:=d;exact⟨rfl,rfl⟩
  ·have b:x'= .nilIface:=d;subst b;exact⟨rfl,rfl⟩
 |Ld=>
  cases x<;>cases y<;>simp only [yD]at h<;>try (cases h;done)
  ·obtain⟨s,rfl,_⟩:=d;exact⟨rfl,rfl⟩
  ·have b:x'= .nilIface:=d;subst b;exact⟨rfl,rfl⟩
  ·have b:x'= .nilIface:=d;subst b;exact⟨rfl,rfl⟩
 |ptr=>
  cases x with
  |ptr p=>
   cases y with
   |ptr q=>
    have u: ∃j,x'= .pointer j:=by
     rcases p with _ |⟨A,D⟩
     ·exact⟨none,d⟩
     ·obtain⟨m,_,j,v,_⟩:=d;exact⟨some j,v⟩
    have z: ∃j,k= .pointer j:=by
     rcases q with _ |⟨A,D⟩
     ·exact⟨none,l⟩
     ·obtain⟨m,_,j,v,_⟩:=l;exact⟨some j,v⟩
    obtain⟨F,rfl⟩:=u;obtain⟨G,rfl⟩:=z;exact⟨rfl,rfl⟩
   |_=>rcases p with _ |p<;>simp [yD]at h
  |_=>simp [yD]at h
 |leaves H=>
  cases x with
  |agg I=>obtain⟨s,rfl,_⟩:=d;exact⟨rfl,rfl⟩
  |_=>simp [yD]at h
theorem avy (b:ef tab o (.eqv d e x y)=true) (h:aw (.eqv d e x y) f=some v): ∃y,(execOp a.eval o).run P w= .ok (.value y) w/\bT ρ v y:=by
 simp only [ef]at b;split at b
 ·rename_i p t A D G j;cases l:tab.get t with
  |none=>rw [l]at b;cases b
  |some i=>
   rw [l]at b;simp only [ae7]at b;obtain⟨b,n⟩:=b;have q:=(cI b.1.2).ev hf;have s:=(cI b.2).ev hf;simp only [aw]at h;cases k:yD e (f.ev x) (f.ev y)with
   |none=>rw [k]at h;cases h
   |some r=>
    rw [k]at h;cases h;obtain⟨u,z⟩:=amd (P:=P) w aBl l b.1.1.2 k q s p A D n;obtain⟨E,F⟩:=aeO aBl hf k q s t;have c:=b.1.1.1;cases p<;>simp only [ab2]at c
    ·have:d=false:=by simpa using c
     subst this;exact⟨.bool r,by simp only [execOp,j,aa3,u,E,z,aaX,acH],rfl⟩
    ·have:d=true:=by simpa using c
     subst this;exact⟨.bool (!r),by simp only [execOp,j,aa3,u,F,z,aaX,acH],rfl⟩
 ·cases b
theorem axh (c:ef tab o (.un op x)=true) (d:aw (.un op x) f=some v): ∃y,(execOp a.eval o).run P w= .ok (.value y) w/\bT ρ v y:=by
 simp only [ef]at c;split at c
 ·rename_i r t s p;simp only [ae7]at c;have j:=UnOp.dG c.1;subst j;have q:=(cI c.2).ev hf;cases op<;>simp only [aw]at d
  ·cases h:f.ev x with
   |int k n=>
    rw [h]at d q;cases d;have l:=bT.PS q;exact⟨.int k (k.wrap (0-n)),by simp only [execOp,p,l,Op.unary,Op.intArith,aa3,aaX,acH],rfl⟩
   |_=>rw [h]at d;cases d
  ·cases d
  ·cases h:f.ev x with
   |bool b=>
    rw [h]at d q;cases d;have l:=bT.Xw q;exact⟨.bool (!b),by simp only [execOp,p,l,Op.unary,aa3,aaX,acH],rfl⟩
   |_=>rw [h]at d;cases d
  ·cases d
 ·cases c
theorem arO (b:ef tab o (.conv k x)=true) (c:aw (.conv k x) f=some v): ∃y,(execOp a.eval o).run P w= .ok (.value y) w/\bT ρ v y:=by
 simp only [ef]at b;split at b
 ·rename_i s d H r;cases E:tab.get s with
  |none=>rw [E]at b;cases b
  |some i=>
   cases G:tab.get d with
   |none=>rw [E,G]at b;cases b
   |some j=>
    rw [E,G]at b;simp only [ae7]at b;have F:=(cI b.1).ev hf;have t:=aBl _ _ E;have z:=aBl _ _ G;cases k with
    |int k=>
     simp only [aw]at c;cases h:f.ev x with
     |int I n=>
      rw [h]at c F;cases c;have q:=bT.PS F;have p:=b.2;cases A:i.u<;>rw [A]at p<;>(try (simp only [ab2]at p;done))<;>
      cases D:j.u<;>rw [D]at p<;>(try (simp only [ab2]at p;done));have:=IntKind.dG p;subst this;exact⟨.int k (k.wrap n),by simp only [execOp,r,q,convert,aa3,t.run_underlying w,z.run_underlying w,A,D,Conv.intToInt,aaX,acH],rfl⟩
     |_=>rw [h]at c;cases c
    |str=>
     simp only [aw]at c;cases h:f.ev x with
     |str l=>
      rw [h]at c F;cases c;have q:=bT.OA F;have p:=b.2;cases A:i.u<;>rw [A]at p<;>(try (simp only [ab2]at p;done))<;>
      cases D:j.u<;>rw [D]at p<;>(try (simp only [ab2]at p;done));exact⟨.string ⟨l.toArray⟩,by simp only [execOp,r,q,convert,aa3,t.run_underlying w,z.run_underlying w,A,D,aaX,acH],rfl⟩
     |_=>rw [h]at c;cases c
    |bytes=>simp [aw]at c
    |CL=>simp [aw]at c
    |toU=>simp [aw]at c
    |ofU u K=>simp [aw]at c
 ·cases b
theorem amv (b:ef tab o (.iface t x)=true) (h:aw (.iface t x) f=some v): ∃y,(execOp a.eval o).run P w= .ok (.value y) w/\bT ρ v y:=by
 simp only [ef]at b;split at b
 ·rename_i k l d;simp only [ae7]at b;have n:t=k:=by simpa [agl]using b.1.1
  subst n;have p:=(cI b.1.2).ev hf;obtain⟨i,_,q,j⟩:=vW aBl hf b.2;simp only [aw]at h;cases h;refine⟨.iface t (a.eval l), ?_,⟨_,rfl,p⟩⟩;cases c:i.u<;>rw [c]at j<;>simp only [ab2]at j<;>
   simp only [execOp,d,Instr.makeInterface,aa3,q.run_underlying w,c,aaX,acH]
 ·cases b
theorem an5 (b:ef tab o (.Kc g xs k)=true) (j:aw (.Kc g xs k) f=some v): ∃y,(execOp a.eval o).run P w= .ok (.value y) w/\bT ρ v y:=by
 simp only [ef]at b;split at b
 ·rename_i l c d h;simp only [ae7]at b;have n:g=l:=by simpa [agl]using b.1.1
  subst n;simp only [aw]at j;cases j;refine⟨.func (.func g) (c.map a.eval) (d.map a.eval),by simp only [execOp,h,Instr.makeFunc,aa3,aaX,acH],⟨_,_,rfl, ?_, ?_⟩⟩
  ·simpa using Tp.nk hf (ME b.1.2)
  ·simpa using Tp.nk hf (ME b.2)
 ·cases b
theorem alD (b:ef tab o (.Aw x lo K)=true) (c:aw (.Aw x lo K) f=some v): ∃y,(execOp a.eval o).run P w= .ok (.value y) w/\bT ρ v y:=by
 simp only [ef]at b;split at b
 ·rename_i t N D E j;cases F:tab.get t with
  |none=>rw [F]at b;cases b
  |some i=>
   rw [F]at b;simp only [ae7]at b;obtain⟨⟨⟨L,G⟩,H⟩,I⟩:=b;have M:=(cI G).ev hf;have k:=aBl _ _ F;cases d:i.u<;>rw [d]at L<;>simp only [ab2]at L;simp only [aw]at c;cases r:f.ev x with
   |str s=>
    rw [r]at c M;simp only at c;have n:=bT.OA M;cases p:bound K f s.length s.length with
    |none=>rw [p]at c;cases c
    |some h=>
     rw [p]at c;simp only at c;cases q:bound lo f 0 h with
     |none=>rw [q]at c;cases c
     |some l=>
      rw [q]at c;cases c;have z:=AT (P:=P) w hf I p;have A:=AT (P:=P) w hf H q;refine⟨.string ((aoc s.toArray).extract l h), ?_,by show _=_;rw [Cb]⟩;cases E<;>cases D<;>simp only at z A
      ·subst z A;simp only [execOp,j,Instr.sliceAt,aa3,k.run_underlying w,d,n,aaX,Instr.slice,axV,avL,aut,ab2,if_false,acH,jI]
      ·subst z;simp only [execOp,j,Instr.sliceAt,aa3,k.run_underlying w,d,n,aaX,Instr.slice,axV,avL,axD,aut,ab2,if_false,acH,jI,A _ _ (afK _)]
      ·subst A;simp only [execOp,j,Instr.sliceAt,aa3,k.run_underlying w,d,n,aaX,Instr.slice,axV,avL,axD,aut,ab2,if_false,acH,jI,z _ _ (afK _)]
      ·simp only [execOp,j,Instr.sliceAt,aa3,k.run_underlying w,d,n,aaX,Instr.slice,axV,avL,axD,aut,ab2,if_false,acH,jI,z _ _ (afK _),A _ _ (afK _)]
   |_=>rw [r]at c;cases c
 ·cases b
theorem avC (c:ef tab o (.fld l n agg x)=true) (h:aw (.fld l n agg x) f=some v): ∃y,(execOp a.eval o).run P w= .ok (.value y) w/\bT ρ v y:=by
 simp only [ef]at c;split at c
 ·rename_i t R k r;obtain⟨i,_,K,b⟩:=vW aBl hf c;cases p:i.u<;>rw [p]at b<;>simp only [ab2]at b;rename_i H;cases s:H.toList[k]? with
  |none=>rw [s]at b;cases b
  |some z=>
   rw [s]at b;simp only at b;cases d:tab.get z.type with
   |none=>rw [d]at b;cases b
   |some j=>
    rw [d]at b;simp only [ae7,agl]at b;obtain⟨⟨⟨L,M⟩,N⟩,A⟩:=b;have I:=(cI A).ev hf;simp only [aw]at h;cases q:f.ev x with
    |agg S=>
     rw [q]at h I;simp only at h;obtain⟨vs,D,E⟩:=I;have F:z.offset=l:=by simpa using L
     subst F;obtain⟨y,O,Q⟩:=Tz (P:=P) w aBl d (by simpa using M.symm) (by simpa using N) E h;have G:H[k]? =some z:=by simpa using s
     exact⟨y,by simp only [execOp,r,Instr.field,aa3,K.run_underlying w,p,aaX,G,D,asAgg,acH,O],Q⟩
    |_=>rw [q]at h;cases h
 ·cases c
theorem aom (d:ef tab o (.qF h x)=true) (n:aw (.qF h x) f=some v): ∃y,(execOp a.eval o).run P w= .ok (.value y) w/\bT ρ v y:=by
 simp only [ef]at d;split at d
 ·rename_i t U k z;obtain⟨i,_,L,c⟩:=vW aBl hf d;cases q:i.u<;>rw [q]at c<;>simp only [ab2]at c;rename_i I;cases A:I.toList[k]? with
  |none=>rw [A]at c;cases c
  |some D=>
   rw [A]at c;simp only at c;cases l:tab.get D.type with
   |none=>rw [l]at c;cases c
   |some j=>
    rw [l]at c;simp only [ae7,agl]at c;obtain⟨⟨M,N⟩,E⟩:=c;have K:=(cI E).ev hf;have F:=aBl _ _ l;have hne: ¬j.size=0:=by
                   have:0<j.size:=by simpa [amL]using N
                   omega
    simp only [aw]at n;cases r:f.ev x with
    |ptr p=>
     rw [r]at n K;rcases p with _ |⟨V,W⟩
     ·cases n
     ·cases n;obtain⟨m,O,Q,R,S⟩:=K;have G:D.offset=h:=by simpa using M
      have H:I[k]? =some D:=by simpa using A
      refine⟨.pointer (some (Q.add h)), ?_,⟨m,O,_,rfl,λb s T=>by rw [S b s T,MD]⟩⟩;simp only [execOp,z,Instr.fieldAt,aa3,L.run_underlying w,q,aaX,H,R,Instr.sureAddr,acH,fieldPlace,F.run_sizeOf w,hne,if_false,G]
    |_=>rw [r]at n;cases n
 ·cases d
theorem Ho (h:uU x y=true) (b:uK (f.ev x)=some i): ∃k,a.eval y= .int k i:=
 bT.ayg b ((cI h).ev hf)
theorem aoa (d:ef tab o (.AL c x y)=true) (z:aw (.AL c x y) f=some v): ∃y,(execOp a.eval o).run P w= .ok (.value y) w/\bT ρ v y:=by
 simp only [ef]at d;split at d
 ·rename_i t Z y' A;obtain⟨i,_,M,h⟩:=vW aBl hf d;simp only [ae7]at h;obtain⟨⟨h,D⟩,E⟩:=h;cases q:i.u<;>rw [q]at h<;>simp only [ab2]at h;rename_i e;cases F:tab.get e with
  |none=>rw [F]at h;cases h
  |some j=>
   rw [F]at h;have G:c=j.size:=by simpa [agl]using h
   have L:=(cI D).ev hf;have H:=aBl _ _ F;simp only [aw]at z;split at z
   ·rename_i p r N ex l I O;obtain⟨Q,R⟩:=bF z;cases R;obtain⟨k,K⟩:=Ho aBl hf E O;rw [I]at L;obtain⟨pi,po⟩:=p;obtain⟨m,S,T,c',U,hl,_,_,V⟩:=L;have W:l<r:=by simpa [amL]using Q
    have n:(0:Int)<=(l:Int)/\(l:Int)<(r:Int):=aa
    refine⟨.pointer (some (T.add (l*c))), ?_,⟨m,S,_,rfl,λb s Y=>by rw [(V b s Y aa).1,MD]⟩⟩;simp only [execOp,A,Instr.indexAt,aa3,K,asIntOf,acH,aaX,M.run_underlying w,q,U];rw [if_pos n];simp only [aa3,H.run_sizeOf w,aaX,acH,aoS,G]
   ·cases z
 ·cases d
theorem al7 (h:ef tab o (.FK r d x y)=true) (A:aw (.FK r d x y) f=some v): ∃y,(execOp a.eval o).run P w= .ok (.value y) w/\bT ρ v y:=by
 simp only [ef]at h;split at h
 ·rename_i t x' y' D;obtain⟨i,_,Q,c⟩:=vW aBl hf h;simp only [ae7]at c;obtain⟨⟨c,E⟩,F⟩:=c;cases z:i.u<;>rw [z]at c<;>simp only [ab2]at c;rename_i n e;simp only [ae7]at c;obtain⟨G,c⟩:=c;have H:n=r:=by simpa [agl]using G
  subst H;cases I:tab.get e with
  |none=>rw [I]at c;cases c
  |some j=>
   rw [I]at c;have K:d=j.size:=by simpa [agl]using c
   have O:=(cI E).ev hf;have L:=aBl _ _ I;simp only [aw]at A;split at A
   ·rename_i p l M H;obtain⟨R,S⟩:=bF A;cases S;obtain⟨k,N⟩:=Ho aBl hf F H;rw [M]at O;obtain⟨pi,po⟩:=p;obtain⟨m,T,U,V,W⟩:=O;have Y:l<n:=by simpa [amL]using R
    have q:(0:Int)<=(l:Int)/\(l:Int)<(n:Int):=aa
    refine⟨.pointer (some (U.add (l*d))), ?_,⟨m,T,_,rfl,λb s Z=>by rw [W b s Z,MD]⟩⟩;simp only [execOp,D,Instr.indexAt,Instr.sureAddr,aa3,N,asIntOf,acH,aaX,Q.run_underlying w,z,V];rw [if_pos q];simp only [aa3,L.run_sizeOf w,aaX,acH,aoS,K]
   ·cases A
 ·cases h
theorem arI (c:ef tab o (.Nq x y)=true) (h:aw (.Nq x y) f=some v): ∃y,(execOp a.eval o).run P w= .ok (.value y) w/\bT ρ v y:=by
 simp only [ef]at c;split at c
 ·rename_i t L M q;obtain⟨i,_,F,l⟩:=vW aBl hf c;simp only [ae7]at l;obtain⟨⟨l,r⟩,z⟩:=l;cases n:i.u<;>rw [n]at l<;>simp only [ab2]at l;have E:=(cI r).ev hf;simp only [aw]at h;split at h
  ·rename_i s d A G;obtain⟨k,D⟩:=Ho aBl hf z G;rw [A]at E;have H:=bT.OA E;cases p:s[d]? with
   |none=>rw [p]at h;cases h
   |some b=>
    rw [p]at h;cases h;have j:(0:Int)<=(d:Int):=aa
    have I:(aoc s.toArray)[d]? =some b:=by
     have K:d<s.length:=(List.getElem?_eq_some_iff.1 p).1;rw [getElem?_pos _ _ (by simpa [jI]using K)];simp only [ByteArray.getElem_eq_getElem_data];have:=(List.getElem?_eq_some_iff.1 p).2;simp [this]
    refine⟨.int .u8 b.toNat, ?_,rfl⟩;simp only [execOp,q,Instr.index,aa3,D,asIntOf,acH,aaX,F.run_underlying w,n,H,j,if_true,aoS,I]
  ·cases h
 ·cases c
theorem aqN (c:ef tab o (.Zc p d A x y)=true) (s:aw (.Zc p d A x y) f=some v): ∃y,(execOp a.eval o).run P w= .ok (.value y) w/\bT ρ v y:=by
 simp only [ef]at c;split at c
 ·rename_i t W Y D;obtain⟨i,_,Q,b⟩:=vW aBl hf c;simp only [ae7]at b;obtain⟨⟨b,E⟩,F⟩:=b;cases q:i.u<;>rw [q]at b<;>simp only [ab2]at b;rename_i n e;simp only [ae7]at b;obtain⟨G,b⟩:=b;have H:n=p:=by simpa [agl]using G
  subst H;cases z:tab.get e with
  |none=>rw [z]at b;cases b
  |some j=>
   rw [z]at b;simp only [ae7,agl]at b;have r:d=j.size:=by simpa using b.1
   have N:=(cI E).ev hf;have I:=aBl _ _ z;simp only [aw]at s;split at s
   ·rename_i Z h K H;obtain⟨R,S⟩:=bF s;obtain⟨k,L⟩:=Ho aBl hf F H;rw [K]at N;obtain⟨vs,T,M⟩:=N;have U:h<n:=by simpa [amL]using R
    have l:(0:Int)<=(h:Int)/\(h:Int)<(n:Int):=aa
    obtain⟨y,O,V⟩:=Tz (P:=P) w aBl z r (by simpa using b.2) M S;refine⟨y, ?_,V⟩;rw [r]at O;simp only [execOp,D,Instr.index,aa3,L,asIntOf,acH,aaX,Q.run_underlying w,q,T];rw [if_pos l];simp only [aa3,I.run_sizeOf w,aaX,acH,aoS,O]
   ·cases s
 ·cases c
theorem au8 (b:ef tab o (.ext x i)=true) (c:aw (.ext x i) f=some v): ∃y,(execOp a.eval o).run P w= .ok (.value y) w/\bT ρ v y:=by
 simp only [ef]at b;split at b
 ·rename_i y j h;simp only [ae7]at b;have k:i=j:=by simpa [agl]using b.1
  subst k;have p:=(cI b.2).ev hf;simp only [aw]at c;cases d:f.ev x with
  |tuple t=>
   rw [d]at c p;obtain⟨vs,q,l⟩:=p;obtain⟨z,r,s⟩:=l.get i v c;have n:vs[i]? =some z:=by simpa using r
   exact⟨z,by simp only [execOp,h,Instr.extract,q,n,aa3,acH,aaX],s⟩
  |_=>rw [d]at c;cases c
 ·cases b
theorem ar2 (j:ef tab o (.GN x)=true) (h:aw (.GN x) f=some v): ∃y,(execOp a.eval o).run P w= .ok (.value y) w/\bT ρ v y:=by
 simp only [ef]at j;split at j
 ·rename_i y q;have k:=(cI j).ev hf;simp only [aw]at h;cases n:f.ev x with
  |ptr p=>
   rw [n]at h k;rcases p with _ |⟨t,u⟩
   ·cases h
   ·cases h;have d:=k;obtain⟨m,s,z,r,_⟩:=k;exact⟨a.eval y,by simp only [execOp,q,r,acH],d⟩
  |func g b c=>
   rw [n]at h k;cases h;have d:=k;obtain⟨A,D,r,_⟩:=k;exact⟨a.eval y,by simp only [execOp,q,r,acH],d⟩
  |yield l=>
   rw [n]at h k;cases h;have d:=k;obtain⟨m,s,E,r,_⟩:=k;exact⟨a.eval y,by simp only [execOp,q,r,acH],d⟩
  |_=>rw [n]at h;cases h
 ·cases j
theorem avo (q:ef tab o (.len k x)=true) (d:aw (.len k x) f=some v): ∃y,(execOp a.eval o).run P w= .ok (.value y) w/\bT ρ v y:=by
 simp only [ef]at q;split at q
 ·rename_i c R;split at q
  ·rename_i y t E z F;obtain⟨i,_,O,K⟩:=vW aBl hf q;simp only [ae7]at K;have I:=(cI K.1).ev hf;have G:c.args= #[y]:=by rw [<-ajC];exact z
   have L:c.argTypes= #[t]:=by rw [<-ajC];exact F
   have h: ∀r,(∀H,a.eval y=H->(Builtin.len_ #[t] o.type #[H]).run P w= .ok r w)->(execOp a.eval o).run P w= .ok (.value r) w:=by
    intro r T;have:=T _ rfl;simp only [execOp,R,resolve,E,aa3,acH,aaX,invoke,builtin,G,L];simp [this]
   have D:=K.2;cases k with
   |str=>
    cases b:i.u<;>rw [b]at D<;>simp only [ab2]at D;simp only [aw]at d;cases j:f.ev x with
    |str s=>
     rw [j]at d I;cases d;have U:=bT.OA I;exact⟨goInt (aoc s.toArray).size,h _ λH l=>by subst l;simp [Builtin.len_,O.run_underlying w,b,U],by show _=_;rw [jI];rfl⟩
    |_=>rw [j]at d;cases d
   |slice=>
    cases b:i.u<;>rw [b]at D<;>simp only [ab2]at D;simp only [aw]at d;cases j:f.ev x with
    |slice p M cap V=>
     rw [j]at d I;cases d;have W: ∃A Q,a.eval y= .slice A M Q:=by
      rcases p with _ |⟨pi,po⟩
      ·obtain⟨N,S,_⟩:=I;exact⟨none,0,by rw [N,S]⟩
      ·obtain⟨m,_,Z,Q,N,_⟩:=I;exact⟨some Z,Q,N⟩
     obtain⟨A,Q,U⟩:=W;exact⟨goInt M,h _ λH l=>by subst l;simp [Builtin.len_,O.run_underlying w,b,U],rfl⟩
    |_=>rw [j]at d;cases d
   |map=>simp [aw]at d
   |cap=>cases b:i.u<;>rw [b]at D<;>simp only [ab2]at D
   |arr n=>
    cases b:i.u<;>rw [b]at D<;>simp only [ab2]at D;have hn:=D;simp only [aw]at d;cases d;have Y:=(show n=_ by simpa [agl]using hn);exact⟨goInt n,h _ λH l=>by simp [Builtin.len_,O.run_underlying w,b,Y],rfl⟩
  ·rename_i y t E z F;obtain⟨i,_,O,K⟩:=vW aBl hf q;simp only [ae7]at K;have I:=(cI K.1).ev hf;have G:c.args= #[y]:=by rw [<-ajC];exact z
   have L:c.argTypes= #[t]:=by rw [<-ajC];exact F
   have h: ∀r,(∀H,a.eval y=H->(Builtin.cap_ #[t] o.type #[H]).run P w= .ok r w)->(execOp a.eval o).run P w= .ok (.value r) w:=by
    intro r T;have:=T _ rfl;simp only [execOp,R,resolve,E,aa3,acH,aaX,invoke,builtin,G,L];simp [this]
   have D:=K.2;cases k with
   |cap=>
    cases b:i.u<;>rw [b]at D<;>simp only [ab2]at D;simp only [aw]at d;cases j:f.ev x with
    |slice p M cap V=>
     rw [j]at d I;rcases p with _ |⟨pi,po⟩
     ·cases d;obtain⟨N,S,_⟩:=I;exact⟨goInt 0,h _ λH l=>by subst l;simp [Builtin.cap_,O.run_underlying w,b,N],rfl⟩
     ·cases V with
      |zero=>
       cases d;obtain⟨m,_,Z,Q,N,_,_,S,_⟩:=I;have:=S rfl;subst this;exact⟨goInt Q,h _ λH l=>by subst l;simp [Builtin.cap_,O.run_underlying w,b,N],rfl⟩
      |succ V=>cases d
    |_=>rw [j]at d;cases d
   |_=>cases b:i.u<;>rw [b]at D<;>simp only [ab2]at D
  ·cases q
 ·cases q
theorem aox (d:ef tab o (.LG x)=true) (h:aw (.LG x) f=some v): ∃y,(execOp a.eval o).run P w= .ok (.value y) w/\bT ρ v y:=by
 simp only [ef]at d;split at d
 ·rename_i c z;split at d
  ·rename_i y n k;have A:=(cI d).ev hf;have q:c.args= #[y]:=by rw [<-ajC];exact k
   have j: ∀r,(∀u,a.eval y=u->(Builtin.unsafeSliceData_ c.argTypes o.type #[u]).run P w= .ok r w)->(execOp a.eval o).run P w= .ok (.value r) w:=by
    intro r L;have:=L _ rfl;simp only [execOp,z,resolve,n,aa3,acH,aaX,invoke,builtin,q];simp [this]
   simp only [aw]at h;cases t:f.ev x with
   |slice p M D R=>
    rw [t]at h A;rcases p with _ |⟨S,T⟩
    ·cases h;obtain⟨E,U,_⟩:=A;exact⟨.pointer none,j _ λu l=>by subst l;rw [E];rfl,rfl⟩
    ·obtain⟨N,h⟩:=bF h;cases h;have I:0<D:=by simpa [amL]using N
     obtain⟨m,O,F,K,E,_,Q,_,G⟩:=A;refine⟨.pointer (some F),j _ λu l=> ?_,m,O,F,rfl,λb s e=>(G b s e aa).1⟩;subst l;have H:K≠0:=aa
     rw [E];show((if K≠0 then pure (Value.pointer (some F))else _:Sem Value)).run P w=_;rw [if_pos H];rfl
   |_=>rw [t]at h;cases h
  ·cases d
 ·cases d
theorem aj4 (d:ef tab o (.CR u xs)=true) (n:aw (.CR u xs) f=some v): ∃y,(execOp a.eval o).run P w= .ok (.value y) w/\bT ρ v y:=by
 simp only [ef]at d;split at d
 ·rename_i c p;simp only [aw]at n;cases xs with
  |nil=>cases n
  |cons x xs=>
   simp only at n;split at d
   ·rename_i h;simp only [ae7]at d;obtain⟨rfl,l⟩:=d;have j:=Tp.nk hf (ME l);cases b:c.args.toList with
    |nil=>rw [b]at j;exact j.elim
    |cons y s=>
     rw [b]at j;obtain⟨r,q,t⟩:=aem (P:=P) w true _ _ _ _ _ n j.1 j.2;refine⟨r, ?_,t⟩;have k:(c.args.map a.eval).toList=a.eval y::s.map a.eval:=by simp [b]
     simp only [if_true]at q;simp only [execOp,p,resolve,h,aa3,acH,aaX,invoke,builtin,Builtin.max_,k,q]
   ·rename_i h;simp only [ae7,Bool.not_eq_true']at d;obtain⟨rfl,l⟩:=d;have j:=Tp.nk hf (ME l);cases b:c.args.toList with
    |nil=>rw [b]at j;exact j.elim
    |cons y s=>
     rw [b]at j;obtain⟨r,q,t⟩:=aem (P:=P) w false _ _ _ _ _ n j.1 j.2;refine⟨r, ?_,t⟩;have k:(c.args.map a.eval).toList=a.eval y::s.map a.eval:=by simp [b]
     simp only [ab2,if_false]at q;simp only [execOp,p,resolve,h,aa3,acH,aaX,invoke,builtin,Builtin.min_,k,q]
   ·cases d
 ·cases d
theorem ad5 (b:ef tab o op=true) (d:aw op f=some v): ∃y,(execOp a.eval o).run P w= .ok (.value y) w/\bT ρ v y:=by
 cases op with
 |mv x=>exact awJ aBl hf w b d
 |pick c x y=>exact ar3 aBl hf w b d
 |build z u=>exact aoA aBl hf w b d
 |bin op x y=>exact asJ aBl hf w b d
 |eqv j e x y=>exact avy aBl hf w b d
 |un op x=>exact axh aBl hf w b d
 |conv k x=>exact arO aBl hf w b d
 |iface t x=>exact amv aBl hf w b d
 |Kc g x y=>exact an5 aBl hf w b d
 |Aw x p q=>exact alD aBl hf w b d
 |slice s x p q A=>exact alF aBl hf w b d
 |fld h n r x=>exact avC aBl hf w b d
 |qF h x=>exact aom aBl hf w b d
 |AL s x i=>exact aoa aBl hf w b d
 |FK l s x i=>exact al7 aBl hf w b d
 |Nq x i=>exact arI aBl hf w b d
 |Zc l s g x i=>exact aqN aBl hf w b d
 |ext x i=>exact au8 aBl hf w b d
 |GN x=>exact ar2 aBl hf w b d
 |len k x=>exact avo aBl hf w b d
 |CR m D=>exact aj4 aBl hf w b d
 |LG x=>exact aox aBl hf w b d
 |_=>simp [aw]at d
end
def Ck (ρ:pZ):List (AV×AV)->List MapEntry->Prop
 | [],[]=>True
 |(k,v)::b,e::a=>bT ρ k e.key/\bT ρ v e.val/\Ck ρ b a
 |_,_=>False
theorem Ck.mono (b:Ext ρ ρ'): ∀ {c} {a},Ck ρ c a->Ck ρ' c a
 | [],[],_=>trivial
 |(k,v)::c,e::a,h=>⟨h.1.mono b,h.2.1.mono b,Ck.mono b h.2.2⟩
 | [],_::_,h=>h.elim
 |_::_,[],h=>h.elim
def acx (tab:Fu):Option dy->Option Code->Prop
 |none,none=>True
 |some a,some b=>cOK tab a b=true
 |_,_=>False
def alX (fr:Nat×Nat) (R:Nat):Prop:= ∀a,a<R-> ¬(fr.1<=a/\a<fr.2)
structure ap9 (tab:Fu) (ρ:pZ) (l:atq) (l':Loop):Prop where
 st:l'.state=l.st
 Be:acx tab l.Be l'.pending
 f:yE ρ l.f l'.tmps
 ps:l'.params.toList=l.ps
 assign:cOK tab l.assign l'.assign=true
 body:cOK tab l.body l'.body=true
 nrA:mQ l.assign=true
 nrB:mQ l.body=true
structure l8 (ρ:pZ) (c:List AV) (ro:Bool) (arr:Array Value) (fr:Nat×Nat) (s:Sh):Prop where
 size:arr.size=s.R
 fit:s.s+c.length<=s.R
 get: ∀i x,c[i]? =some x-> ∃v,arr[i+s.s]? =some v/\bT ρ x v
 free:ro=false->alX fr s.R
theorem l8.mono (a:Ext ρ ρ') (h:l8 ρ c b arr fr s):l8 ρ' c b arr fr s:=
 ⟨h.size,h.fit,λi x d=>let⟨v,f,j⟩:=h.get i x d;⟨v,f,bT.mono a _ _ j⟩,h.free⟩
def asb (el:Option (Nat×Bool)) (e:Nat) (s:Sh):Prop:= ∀t z,el=some (t,z)->e=t/\(z=true->s.s=0)
theorem asb.none_:asb none e s:=λ_ _ h=>by cases h
def AB.Rel (tab:Fu) (ρ:pZ) (ob:AB) (a:Obj) (s:Sh):Prop:=
 match ob with
 | .cells c k n=> ∃d e h,a= .cells d e h/\l8 ρ c k d h s/\asb n e s
 | .map p=> ∃f b,a= .map f b/\Ck ρ p f.toList
 | .loop l=> ∃j,a= .loop j/\ap9 tab ρ l j
theorem AB.Rel.mono (d:Ext ρ ρ') {ob:AB} (h:ob.Rel tab ρ j s):ob.Rel tab ρ' j s:=by
 cases ob with
 |cells c u v=>obtain⟨k,e,p,b,a,q⟩:=h;exact⟨k,e,p,b,a.mono d,q⟩
 |map x=>obtain⟨n,r,b,a⟩:=h;exact⟨n,r,b,a.mono d⟩
 |loop l=>obtain⟨t,b,a⟩:=h;exact⟨t,b,⟨a.st,a.Be,a.f.mono d,a.ps,a.assign,a.body,a.nrA,a.nrB⟩⟩
theorem AH.mK (H:AH) i j b:(H.set i b).get j=if i=j then b else H.get j:=by
 simp only [AH.get,AH.set,PT.mK];by_cases h:i=j
 ·subst h;simp
 ·have: ¬j=i:=λe=>h e.symm
  simp [h,this]
theorem AH.rm (H:AH) b j:(H.new b).get j=if H.next=j then some b else H.get j:=AH.mK H H.next j (some b)
@[simp] theorem AH.aei (H:AH) i b:(H.set i b).next=H.next:=rfl
@[simp] theorem AH.akr (H:AH) b:(H.new b).next=H.next+1:=rfl
def pZ.put (ρ:pZ) (i:Nat) (m:Option (Nat×Sh)):pZ:=λj=>if j=i then some m else ρ j
theorem pZ.kL (ρ:pZ) i m:ρ.put i m i=some m:=by simp [pZ.put]
theorem pZ.Av (ρ:pZ) m (h:j≠i):ρ.put i m j=ρ j:=by simp [pZ.put,h]
theorem Ext.RU (h:ρ i=none) m:Ext ρ (ρ.put i m):=λj n a=>by
 by_cases e:j=i
 ·subst e;rw [h]at a;cases a
 ·left;rw [pZ.Av _ _ e];exact a
theorem Ext.kill ρ i:Ext ρ (ρ.put i none):=λj n a=>by
 by_cases e:j=i
 ·subst e;right;exact pZ.kL _ _ _
 ·left;rw [pZ.Av _ _ e];exact a
def qZ (w:World) (b:Nat) (o:Obj):World:= {w with heap:=w.heap.setIfInBounds b o}
def n9 (w:World) (o:Obj):World:= {w with heap:=w.heap.push o}
theorem rM w b a o (h:b<w.heap.size):(qZ w b o).heap[a]? =if b=a then some o else w.heap[a]? :=by
 simp only [qZ,Array.getElem?_setIfInBounds];by_cases e:b=a
 ·subst e;simp [h]
 ·simp [e]
theorem Nd w b o:(qZ w b o).heap.size=w.heap.size:=by simp [qZ]
theorem aq1 w b o o':qZ (qZ w b o) b o'=qZ w b o':=by
 simp only [qZ];congr 1;apply Array.ext_getElem?;intro i;simp only [Array.getElem?_setIfInBounds,Array.size_setIfInBounds];split<;>simp_all
theorem agK w b o (h:w.heap[b]? =some o):qZ w b o=w:=by
 simp only [qZ];have:w.heap.setIfInBounds b o=w.heap:=by
  apply Array.ext_getElem?;intro i;simp only [Array.getElem?_setIfInBounds];split
  ·rename_i e;subst e;have:=(Array.getElem?_eq_some_iff.1 h).1;simp [this,h.symm]
  ·rfl
 rw [this]
theorem tg w o (h:b<w.heap.size):(n9 w o).heap[b]? =w.heap[b]? :=by
 show(w.heap.push o)[b]? =_;rw [Array.getElem?_push,if_neg (Nat.ne_of_lt h)]
theorem Ot w o:(n9 w o).heap[w.heap.size]? =some o:=by
 show(w.heap.push o)[w.heap.size]? =_;rw [Array.getElem?_push,if_pos rfl]
theorem gl {w:World} (h:w.heap[b]? =some o):b<w.heap.size:=(Array.getElem?_eq_some_iff.1 h).1
structure Vt (tab:Fu) (ρ:pZ) (H:AH) (w:World):Prop where
 obj: ∀i ob,H.get i=some ob-> ∃b s o,ρ i=some (some (b,s))/\w.heap[b]? =some o/\ob.Rel tab ρ o s
 inj: ∀i j ob ob' b s s',H.get i=some ob->H.get j=some ob'->ρ i=some (some (b,s))->ρ j=some (some (b,s'))->i=j
 PU: ∀i ob,H.get i=some ob->i<H.next
def Own (ρ:pZ) (H:AH) (b:Nat):Prop:= ∃i a s,H.get i=some a/\ρ i=some (some (b,s))
def Fy:Nat:=3
def aud:List Int:=[1,10,100,1000,10000,100000,1000000,10000000,100000000,1000000000,10000000000,100000000000,1000000000000,10000000000000,100000000000000,1000000000000000,10000000000000000,100000000000000000,1000000000000000000,10000000000000000000]
def ae4:Option Obj->Prop
 |some (.cells a _ _)=>a=(aud.map λz=>arN .u64 z).toArray
 |_=>False
def ac8 (ρ:pZ) (H:AH) (w:World):Prop:=ae4 w.heap[Fy]? /\ ¬Own ρ H Fy
structure vR (tab:Fu) (ρ:pZ) (H:AH) (w:World):Prop extends Vt tab ρ H w where
 lay:ac8 ρ H w
def uM (ρ:pZ) (H H':AH):Prop:= ∀i,H.next<=i->i<H'.next->ρ i=none
structure Gu (ρ:pZ) (H:AH) (w:World) (ρ':pZ) (H':AH) (w':World):Prop where
 size:w.heap.size<=w'.heap.size
 ext:Ext ρ ρ'
 next:H.next<=H'.next
 out: ∀i,H'.next<=i->ρ' i=ρ i
 gQ: ∀b,b<w.heap.size-> ¬Own ρ H b->w'.heap[b]? =w.heap[b]?
 own: ∀b,b<w.heap.size->Own ρ' H' b->Own ρ H b
 stay: ∀i m,H.get i=none->ρ i=some m->ρ' i=some m
 live: ∀i ob,H'.get i=some ob->(∃ob',H.get i=some ob')\/ρ i=none
 low: ∀i,i<H.next->ρ i=none->ρ' i=none
 os:w'.os=w.os
 output:w'.output=w.output
 tape:w'.tape=w.tape
 fix: ∀i c b s,H.get i=some (.cells c true none)->ρ i=some (some (b,s))->w'.heap[b]? =w.heap[b]? /\H'.get i=some (.cells c true none)/\ρ' i=some (some (b,s))
theorem Gu.refl ρ H w:Gu ρ H w ρ H w:=⟨afK _,.refl _,afK _,λ_ _=>rfl,λ_ _ _=>rfl,λ_ _ h=>h,λ_ _ _ h=>h,λ_ a h=> .inl ⟨a,h⟩,λ_ _ h=>h,rfl,rfl,rfl,λ_ _ _ _ h b=>⟨rfl,h,b⟩⟩
theorem Gu.trans {ρ ρ' j:pZ} {H H' n:AH} {w w' p:World} (h:Gu ρ H w ρ' H' w') (a:Gu ρ' H' w' j n p):Gu ρ H w j n p where
 size:=avK h.size a.size
 ext:=h.ext.trans a.ext
 next:=avK h.next a.next
 out i f:=(a.out i f).trans (h.out i (avK a.next f))
 gQ b l u:=(a.gQ b (Nat.lt_of_lt_of_le l h.size) λd=>u (h.own b l d)).trans (h.gQ b l u)
 own b l d:=h.own b l (a.own b (Nat.lt_of_lt_of_le l h.size) d)
 stay i m f k:=by
  have v:=h.stay i m f k;refine a.stay i m ?_ v;cases x:H'.get i with
  |none=>rfl
  |some r=>
   rcases h.live i r x with⟨q,d⟩ |d
   ·rw [f]at d;cases d
   ·rw [k]at d;cases d
 live i r f:=by
  rcases a.live i r f with⟨q,d⟩ |d
  ·exact h.live i q d
  ·right;cases k:ρ i with
   |none=>rfl
   |some m=>
    rcases h.ext i m k with t |t<;>rw [d]at t<;>cases t
 low i f k:=a.low i (Nat.lt_of_lt_of_le f h.next) (h.low i f k)
 os:=a.os.trans h.os
 output:=a.output.trans h.output
 tape:=a.tape.trans h.tape
 fix i c b s f k:=by
  obtain⟨y,z,A⟩:=h.fix i c b s f k;obtain⟨D,E,F⟩:=a.fix i c b s z A;exact⟨D.trans y,E,F⟩
theorem Gu.drew ρ H w n:Gu ρ H w ρ H {w with drawn:=n} :=
 ⟨afK _,.refl _,afK _,λ_ _=>rfl,λ_ _ _=>rfl,λ_ _ h=>h,λ_ _ _ h=>h,λ_ a h=> .inl ⟨a,h⟩,λ_ _ h=>h,rfl,rfl,rfl,λ_ _ _ _ h b=>⟨rfl,h,b⟩⟩
theorem vR.drew (h:vR tab ρ H w) n:vR tab ρ H {w with drawn:=n} :=⟨⟨h.obj,h.inj,h.PU⟩,h.lay⟩
theorem ae4.lt {w:World} (h:ae4 w.heap[Fy]?):Fy<w.heap.size:=by
 cases a:w.heap[Fy]? with
 |none=>rw [a]at h;exact h.elim
 |some o=>exact gl a
theorem ac8.frm (h:ac8 ρ H w) (a:Gu ρ H w ρ' H' w'):ac8 ρ' H' w':=
 ⟨by rw [a.gQ _ h.1.lt h.2];exact h.1,λb=>h.2 (a.own _ h.1.lt b)⟩
theorem ac8.sub (h:ac8 ρ H w) (a:Own ρ' H' Fy->Own ρ H Fy):ac8 ρ' H' w:=⟨h.1,λk=>h.2 (a k)⟩
theorem uM.left (h:uM ρ H a) (b:H'.next<=a.next):uM ρ H H':=λi c d=>h i c (Nat.lt_of_lt_of_le d b)
theorem uM.right (h:uM ρ H a) (b:Gu ρ H w ρ' H' w'):uM ρ' H' a:=λi c d=>
 (b.out i c).trans (h i (avK b.next c) d)
section
variable {tab:Fu} {ρ:pZ} {H:AH} {w:World}
theorem Vt.at_ (h:Vt tab ρ H w) (c:H.get i=some ob) (d:ρ i=some (some (b,s))): ∃o,w.heap[b]? =some o/\ob.Rel tab ρ o s:=by
 obtain⟨k,l,o,a,f,j⟩:=h.obj i ob c;rw [d]at a;cases a;exact⟨o,f,j⟩
theorem Vt.upd (h:Vt tab ρ H w) (A: ∀c,ob≠ .cells c true none) (f:H.get i=some ob) (t:ρ i=some (some (b,s))) (u:ob'.Rel tab ρ o' s):
  Vt tab ρ (H.set i (some ob')) (qZ w b o')/\Gu ρ H w ρ (H.set i (some ob')) (qZ w b o'):=by
 obtain⟨o,S,_⟩:=h.at_ f t;have l:=gl S;refine⟨⟨λj v a=> ?_,λj k p T U r V a O=> ?_,λj p a=> ?_⟩,⟨by rw [Nd];exact afK _,.refl _,afK _,λ_ _=>rfl,λq D E=> ?_,λq D ⟨j,p,P,a,d⟩=> ?_,λ_ _ _ h=>h,λj p a=> ?_,λ_ _ h=>h,rfl,rfl,rfl,λj c q r a d=> ?_⟩⟩
 ·rw [AH.mK]at a;by_cases e:i=j
  ·subst e;simp only [if_true,akU]at a;subst a;exact⟨b,s,o',t,by rw [rM _ _ _ _ l];simp,u⟩
  ·simp only [e,if_false]at a;obtain⟨q,r,W,z,F,Y⟩:=h.obj j v a;refine⟨q,r,W,z, ?_,Y⟩;rw [rM _ _ _ _ l];by_cases Q:b=q
   ·subst Q;exact absurd (h.inj i j ob v b s r f a t z) e
   ·simp [Q,F]
 ·rw [AH.mK]at a O;intro z F;have n: ∀x G,(if i=x then some ob' else H.get x)=some G-> ∃o,H.get x=some o:=λx G R=>by
   by_cases e:i=x
   ·subst e;exact⟨ob,f⟩
   ·simp only [e,if_false]at R;exact⟨G,R⟩
  obtain⟨I,K⟩:=n j p a;obtain⟨L,M⟩:=n k T O;exact h.inj j k I L U r V K M z F
 ·rw [AH.mK]at a;by_cases e:i=j
  ·subst e;exact h.PU i ob f
  ·simp only [e,if_false]at a;exact h.PU j p a
 ·rw [rM _ _ _ _ l];by_cases e:b=q
  ·subst e;exact absurd ⟨i,ob,s,f,t⟩ E
  ·simp [e]
 ·rw [AH.mK]at a;by_cases e:i=j
  ·subst e;exact⟨i,ob,P,f,d⟩
  ·simp only [e,if_false]at a;exact⟨j,p,P,a,d⟩
 ·rw [AH.mK]at a;by_cases e:i=j
  ·subst e;exact .inl ⟨ob,f⟩
  ·simp only [e,if_false]at a;exact .inl ⟨p,a⟩
 ·have y: ¬i=j:=λe=>by subst e;rw [f]at a;cases a;exact A _ rfl
  have N: ¬b=q:=λe=>by subst e;exact y (h.inj i j _ _ b s r f a t d)
  exact⟨by rw [rM _ _ _ _ l,if_neg N],by rw [AH.mK,if_neg y];exact a,d⟩
theorem Vt.drop (h:Vt tab ρ H w) (z: ∀c,ob≠ .cells c true none) (t:H.get i=some ob) (x:ρ i=some (some (b,s))):
  Vt tab ρ (H.set i none) (qZ w b o')/\Gu ρ H w ρ (H.set i none) (qZ w b o'):=by
 obtain⟨o,M,_⟩:=h.at_ t x;have n:=gl M;have a: ∀j A,(H.set i none).get j=some A->H.get j=some A/\i≠j:=λj A y=>by
  rw [AH.mK]at y;by_cases e:i=j
  ·subst e;simp at y
  ·simp only [e,if_false]at y;exact⟨y,e⟩
 refine⟨⟨λj p d=> ?_,λj k f I N r O d P=>h.inj j k f I N r O (a j f d).1 (a k I P).1,λj f d=>h.PU j f (a j f d).1⟩,
  ⟨by rw [Nd];exact afK _,.refl _,afK _,λ_ _=>rfl,λq D E=> ?_,λq D ⟨j,f,Q,d,l⟩=>⟨j,f,Q,(a j f d).1,l⟩,λ_ _ _ h=>h,λj f d=> .inl ⟨f,(a j f d).1⟩,λ_ _ h=>h,rfl,rfl,rfl,λj c q r d l=> ?_⟩⟩
 ·obtain⟨u,F⟩:=a j p d;obtain⟨q,r,R,K,S,T⟩:=h.obj j p u;refine⟨q,r,R,K, ?_,T⟩;rw [rM _ _ _ _ n];by_cases L:b=q
  ·subst L;exact absurd (h.inj i j ob p b s r t u x K) F
  ·simp [L,S]
 ·rw [rM _ _ _ _ n];by_cases e:b=q
  ·subst e;exact absurd ⟨i,ob,s,t,x⟩ E
  ·simp [e]
 ·have v: ¬i=j:=λe=>by subst e;rw [t]at d;cases d;exact z _ rfl
  have G: ¬b=q:=λe=>by subst e;exact v (h.inj i j _ _ b s r t d x l)
  exact⟨by rw [rM _ _ _ _ n,if_neg G],by rw [AH.mK,if_neg v];exact d,l⟩
theorem Vt.new (h:Vt tab ρ H w) (D:ρ H.next=none) (y:ob.Rel tab ρ o s):
  Vt tab (ρ.put H.next (some (w.heap.size,s))) (H.new ob) (n9 w o)/\Gu ρ H w (ρ.put H.next (some (w.heap.size,s))) (H.new ob) (n9 w o):=by
 have l:Ext ρ (ρ.put H.next (some (w.heap.size,s))):=Ext.RU D _;have n: ∀j d,H.get j=some d-> ∃f r t,ρ j=some (some (f,r))/\w.heap[f]? =some t/\d.Rel tab ρ t r/\f<w.heap.size/\j≠H.next:=λj d a=>by
  obtain⟨f,r,t,q,p,E⟩:=h.obj j d a;exact⟨f,r,t,q,p,E,gl p,Nat.ne_of_lt (h.PU j d a)⟩
 refine⟨⟨λj d a=> ?_,λj k d F O r L a u q p=> ?_,λj d a=> ?_⟩,
  ⟨by show w.heap.size<=(w.heap.push o).size;simp,l,ab,λj a=>pZ.Av _ _ (by simp at a;omega),λf z P=>tg _ _ z,λf z ⟨j,d,Q,a,b⟩=> ?_,λj m a b=>by rw [pZ.Av _ _ (λe=>by subst e;rw [D]at b;cases b)];exact b,λj d a=> ?_,λj a b=>by rw [pZ.Av _ _ aa];exact b,rfl,rfl,rfl,λj c f r a b=>by
   obtain⟨R,L,S,v,M,N,G,x⟩:=n j _ a;rw [b]at v;cases v;exact⟨tg _ _ G,by rw [AH.rm,if_neg (λe=>x e.symm)];exact a,by rw [pZ.Av _ _ x];exact b⟩⟩⟩
 ·rw [AH.rm]at a;by_cases e:H.next=j
  ·subst e;simp only [if_true,akU]at a;subst a;exact⟨w.heap.size,s,o,pZ.kL _ _ _,Ot _ _,y.mono l⟩
  ·simp only [e,if_false]at a;obtain⟨f,r,t,q,p,E,T,U⟩:=n j d a;exact⟨f,r,t,by rw [pZ.Av _ _ U];exact q,by rw [tg _ _ T];exact p,E.mono l⟩
 ·rw [AH.rm]at a u;by_cases e:H.next=j
  ·by_cases A:H.next=k
   ·omega
   ·subst e;simp only [A,if_false]at u;obtain⟨f,I,t,v,M,N,G,x⟩:=n k F u;rw [pZ.kL]at q;rw [pZ.Av _ _ x,v]at p;cases q;cases p;omega
  ·simp only [e,if_false]at a;obtain⟨f,I,t,v,M,N,G,x⟩:=n j d a;rw [pZ.Av _ _ x]at q;by_cases A:H.next=k
   ·subst A;rw [pZ.kL]at p;rw [v]at q;cases q;cases p;omega
   ·simp only [A,if_false]at u;obtain⟨R,V,S,W,Y,Z,va,K⟩:=n k F u;rw [pZ.Av _ _ K]at p;exact h.inj j k d F O r L a u q p
 ·rw [AH.rm]at a;simp only [AH.akr];by_cases e:H.next=j
  ·omega
  ·simp only [e,if_false]at a;have:=h.PU j d a;omega
 ·rw [AH.rm]at a;by_cases e:H.next=j
  ·subst e;rw [pZ.kL]at b;cases b;omega
  ·simp only [e,if_false]at a;rw [pZ.Av _ _ (λh=>e h.symm)]at b;exact⟨j,d,Q,a,b⟩
 ·rw [AH.rm]at a;by_cases e:H.next=j
  ·subst e;exact .inr D
  ·simp only [e,if_false]at a;exact .inl ⟨d,a⟩
theorem Vt.move (h:Vt tab ρ H w) (N: ∀c,ob≠ .cells c true none) (p:H.get i=some ob) (y:ρ i=some (some (b,s))) (O:ρ H.next=none)
  (K:ob'.Rel tab ((ρ.put i none).put H.next (some (b,s'))) o' s'):
  Vt tab ((ρ.put i none).put H.next (some (b,s'))) ((H.set i none).new ob') (qZ w b o')/\Gu ρ H w ((ρ.put i none).put H.next (some (b,s'))) ((H.set i none).new ob') (qZ w b o'):=by
 obtain⟨o,Y,_⟩:=h.at_ p y;have t:=gl Y;have P:=h.PU i ob p;have Q:(ρ.put i none) H.next=none:=by rw [pZ.Av _ _ aa];exact O
 have z:Ext ρ ((ρ.put i none).put H.next (some (b,s'))):=(Ext.kill ρ i).trans (Ext.RU Q _);have get: ∀j f,((H.set i none).new ob').get j=some f->(j=H.next/\f=ob')\/(j≠H.next/\j≠i/\H.get j=some f):=λj f d=>by
  rw [AH.rm,AH.mK,AH.aei]at d;by_cases e:H.next=j
  ·simp only [e,if_true,akU]at d;exact .inl ⟨e.symm,d.symm⟩
  ·by_cases I:i=j
   ·simp [e,I]at d
   ·simp only [e,I,if_false]at d;exact .inr ⟨λh=>e h.symm,λh=>I h.symm,d⟩
 have l: ∀j,j≠H.next->j≠i->((ρ.put i none).put H.next (some (b,s'))) j=ρ j:=λj q n=>by rw [pZ.Av _ _ q,pZ.Av _ _ n]
 refine⟨⟨λj f d=> ?_,λj k f M Z A U d V q n=> ?_,λj f d=> ?_⟩,
  ⟨by rw [Nd];exact afK _,z,ab,λj d=>l j (by simp at d;omega) (by simp at d;omega),λD R S=> ?_,λD R ⟨j,f,sj,d,a⟩=> ?_,λj m d a=>by rw [l j (λe=>by subst e;rw [O]at a;cases a) (λe=>by subst e;rw [p]at d;cases d)];exact a,λj f d=> ?_,λj d a=>by rw [l j aa (λe=>by subst e;rw [y]at a;cases a)];exact a,rfl,rfl,rfl,λj c D A d a=> ?_⟩⟩
 ·rcases get j f d with⟨rfl,rfl⟩ |⟨q,n,W⟩
  ·exact⟨b,s',o',pZ.kL _ _ _,by rw [rM _ _ _ _ t];simp,K⟩
  ·obtain⟨D,A,o1,u,v,r⟩:=h.obj j f W;refine⟨D,A,o1,by rw [l j q n];exact u, ?_,r.mono z⟩;rw [rM _ _ _ _ t];by_cases I:b=D
   ·subst I;exact absurd (h.inj j i f ob b A s W p u y) n
   ·simp [I,v]
 ·rcases get j f d with⟨rfl,rfl⟩ |⟨u,v,r⟩
  ·rcases get k M V with⟨rfl,rfl⟩ |⟨E,x,F⟩
   ·rfl
   ·rw [pZ.kL]at q;cases q;rw [l k E x]at n;exact absurd (h.inj k i M ob b U s F p n y) x
  ·rcases get k M V with⟨rfl,rfl⟩ |⟨E,x,F⟩
   ·rw [pZ.kL]at n;cases n;rw [l j u v]at q;exact absurd (h.inj j i f ob b A s r p q y) v
   ·rw [l j u v]at q;rw [l k E x]at n;exact h.inj j k f M Z A U r F q n
 ·rcases get j f d with⟨rfl,rfl⟩ |⟨u,v,r⟩
  ·simp
  ·have:=h.PU j f r;simp;omega
 ·rw [rM _ _ _ _ t];by_cases e:b=D
  ·subst e;exact absurd ⟨i,ob,s,p,y⟩ S
  ·simp [e]
 ·rcases get j f d with⟨rfl,rfl⟩ |⟨u,v,r⟩
  ·rw [pZ.kL]at a;cases a;exact⟨i,ob,s,p,y⟩
  ·rw [l j u v]at a;exact⟨j,f,sj,r,a⟩
 ·rcases get j f d with⟨rfl,rfl⟩ |⟨u,v,r⟩
  ·exact .inr O
  ·exact .inl ⟨f,r⟩
 ·have G: ¬i=j:=λe=>by subst e;rw [p]at d;cases d;exact N _ rfl
  have T: ¬b=D:=λe=>by subst e;exact G (h.inj i j _ _ b s A p d y a)
  have L:j≠H.next:=Nat.ne_of_lt (h.PU j _ d);exact⟨by rw [rM _ _ _ _ t,if_neg T],by rw [AH.rm,AH.aei,if_neg (λe=>L e.symm),AH.mK,if_neg G];exact d,by rw [l j L (λe=>G e.symm)];exact a⟩
theorem vR.upd (h:vR tab ρ H w) (d: ∀c,ob≠ .cells c true none) (j:H.get i=some ob) (k:ρ i=some (some (b,s))) (a:ob'.Rel tab ρ o' s):
  vR tab ρ (H.set i (some ob')) (qZ w b o')/\Gu ρ H w ρ (H.set i (some ob')) (qZ w b o'):=by
 obtain⟨l,f⟩:=h.toVt.upd d j k a;exact⟨⟨l,h.lay.frm f⟩,f⟩
theorem vR.drop (h:vR tab ρ H w) (a: ∀c,ob≠ .cells c true none) (f:H.get i=some ob) (j:ρ i=some (some (b,s))):
  vR tab ρ (H.set i none) (qZ w b o')/\Gu ρ H w ρ (H.set i none) (qZ w b o'):=by
 obtain⟨k,d⟩:=h.toVt.drop (o':=o') a f j;exact⟨⟨k,h.lay.frm d⟩,d⟩
theorem vR.new (h:vR tab ρ H w) (c:ρ H.next=none) (a:ob.Rel tab ρ o s):
  vR tab (ρ.put H.next (some (w.heap.size,s))) (H.new ob) (n9 w o)/\Gu ρ H w (ρ.put H.next (some (w.heap.size,s))) (H.new ob) (n9 w o):=by
 obtain⟨d,b⟩:=h.toVt.new c a;exact⟨⟨d,h.lay.frm b⟩,b⟩
theorem vR.move (h:vR tab ρ H w) (d: ∀c,ob≠ .cells c true none) (j:H.get i=some ob) (k:ρ i=some (some (b,s))) (l:ρ H.next=none)
  (a:ob'.Rel tab ((ρ.put i none).put H.next (some (b,s'))) o' s'):
  vR tab ((ρ.put i none).put H.next (some (b,s'))) ((H.set i none).new ob') (qZ w b o')/\Gu ρ H w ((ρ.put i none).put H.next (some (b,s'))) ((H.set i none).new ob') (qZ w b o'):=by
 obtain⟨n,f⟩:=h.toVt.move d j k l a;exact⟨⟨n,h.lay.frm f⟩,f⟩
end
section
variable {P:Program}
theorem ajc {w:World} (h:w.heap[b]? =some (.cells arr el fr)) o:w.cell? ⟨b,o,none⟩=arr[o]? :=by
 simp [World.cell?,h]
theorem arY {w:World} (h:w.heap[b]? =some (.cells arr el fr)) o:w.frozen? ⟨b,o,none⟩=(fr.1<=o&&o<fr.2):=by
 simp [World.frozen?,h]
theorem run_load (h:w.cell? a=some v):(load a).run P w= .ok v w:=by
 simp [load,ase,h]
theorem ae5 (h:w.heap[r]? =some o) (a: ∀c e f,o≠ .cells c e f):(getObj r).run P w= .ok o w:=by
 cases o<;>first |(simp only [getObj,ase,h];done) |exact absurd rfl (a _ _ _)
theorem afF (h:w.heap[r]? =some o) (a: ∀c e f,o≠ .cells c e f):(setObj r o').run P w= .ok () (qZ w r o'):=by
 cases o<;>first |(simp only [setObj,ase,h];rfl) |exact absurd rfl (a _ _ _)
theorem run_newObj o:(newObj o).run P w= .ok w.heap.size (n9 w o):=rfl
theorem R3 b o n:(⟨b,o,none⟩:Addr).add n=⟨b,o+n,none⟩:=by
 simp only [Addr.add];split
 ·subst_vars;rfl
 ·rfl
theorem QV: ∀cs i b,(∀j x,cs[j]? =some x-> ∃v,w.cell? (a.add (i+j))=some v/\bT ρ x v)->
  ∃vs,(loadCellsFrom a i cs.length b).run P w= .ok (b++vs.toArray) w/\ca ρ cs vs
 | [],i,b,_=>⟨[],by simp [loadCellsFrom],trivial⟩
 |x::cs,i,b,h=>by
  obtain⟨v,d,f⟩:=h 0 x rfl;obtain⟨vs,k,c⟩:=QV cs (i+1) (b.push v) λj y l=>by
   have:=h (j+1) y (by simpa using l);rwa [show i+1+j=i+(j+1) by omega]
  refine⟨v::vs, ?_,f,c⟩;simp only [List.length_cons,loadCellsFrom,aa3,run_load (P:=P) (by simpa using d),aaX,k];simp
theorem zX (b:cs.length=n) (h: ∀j x,cs[j]? =some x-> ∃v,w.cell? (a.add j)=some v/\bT ρ x v):
  ∃vs,(loadCells a n).run P w= .ok vs w/\ca ρ cs vs.toList:=by
 obtain⟨vs,c,d⟩:=QV (P:=P) (a:=a) cs 0 #[] (λj x f=>by simpa using h j x f);subst b;exact⟨vs.toArray,by rw [loadCells,c];simp,by simpa using d⟩
end
section
variable {tab:Fu} {ρ:pZ} {H:AH} {w:World} (hs:vR tab ρ H w)
include hs
theorem vR.adw (a:H.get i=some (.cells c d el)) (f:ρ i=some (some (b,s))):
  ∃arr e fr,w.heap[b]? =some (.cells arr e fr)/\l8 ρ c d arr fr s/\asb el e s:=by
 obtain⟨o,h,arr,e,fr,j,k,l⟩:=hs.at_ a f;subst j;exact⟨arr,e,fr,h,k,l⟩
theorem vR.auM (a:H.get i=some (.cells c d el)) (f:ρ i=some (some (b,s))):
  ∃arr e fr,w.heap[b]? =some (.cells arr e fr)/\l8 ρ c d arr fr s:=by
 obtain⟨arr,e,fr,h,j,_⟩:=hs.adw a f;exact⟨arr,e,fr,h,j⟩
theorem vR.live (a:H.get i=some ob): ∃b s,ρ i=some (some (b,s)):=by
 obtain⟨b,s,_,h,_⟩:=hs.obj i ob a;exact⟨b,s,h⟩
theorem vR.asq (a:H.get i=some (.cells c p el)) (d:ρ i=some (some (b,s))) (f:c[o]? =some x):
  ∃v,w.cell? ⟨b,o+s.s,none⟩=some v/\bT ρ x v:=by
 obtain⟨h,el,q,j,k⟩:=hs.auM a d;obtain⟨v,l,n⟩:=k.get o x f;exact⟨v,by rw [ajc j];exact l,n⟩
theorem vR.ai3 (a:db H (i,o) n=some cs) (k:ρ i=some (some (b,s))):
  cs.length=n/\ ∀j x,cs[j]? =some x-> ∃v,w.cell? ((⟨b,o+s.s,none⟩:Addr).add j)=some v/\bT ρ x v:=by
 simp only [db]at a;cases f:H.get i with
 |none=>rw [f]at a;cases a
 |some l=>
  rw [f]at a;cases l with
  |cells c u y=>
   obtain⟨p,q⟩:=bF a;cases q;have r:o+n<=c.length:=by simpa [al9]using p
   refine⟨by simp;omega,λj x d=> ?_⟩;rw [List.getElem?_take,List.getElem?_drop]at d;split at d
   ·obtain⟨v,t,h⟩:=hs.asq f k d;exact⟨v,by rw [R3,show o+s.s+j=o+j+s.s by omega];exact t,h⟩
   ·cases d
  |map=>cases a
  |loop=>cases a
theorem GQ (a:db H (i,o) n=some cs): ∃b s,ρ i=some (some (b,s)):=by
 simp only [db]at a;cases c:H.get i with
 |none=>rw [c]at a;cases a
 |some d=>exact hs.live c
end
theorem bytes_beq (a b:List UInt8):(aoc a.toArray==aoc b.toArray)=(a==b):=by
 show(a.toArray==b.toArray)=_;simp
theorem TQ (v:bT ρ k k') u j (d:C7 j k=true) (p:(match u with | .int _=> !j | .string=>j |_=>false)=true):
  ∀s a i r,Ck ρ s a->findKey k s=some r->
  ∃t,anp u k' a i=some t/\(match r,t with |none,none=>True |some x,some (_,y)=>bT ρ x y |_,_=>False)
 | [],[],i,r,_,h=>by simp [findKey]at h;subst h;exact⟨none,rfl,trivial⟩
 |(z,L)::s,e::a,i,r,l,h=>by
  obtain⟨n,A,f⟩:=l;simp only [findKey]at h;cases b:LU k z with
  |none=>rw [b]at h;cases h
  |some q=>
   rw [b]at h;have c:azh u k' e.key=some q:=by
    cases u<;>try (cases p;done)
    ·have:j=false:=by simpa using p
     subst this;cases k<;>simp only [C7,ab2]at d;cases z<;>simp only [LU]at b<;>try (cases b;done)
     obtain⟨F,G⟩:=bF b;cases G;have:=IntKind.dG F;subst this;have D:=bT.PS v;have E:=bT.PS n;rw [D,E];simp only [azh,if_true,jm]
    ·have:j=true:=by simpa using p
     subst this;cases k<;>simp only [C7,ab2]at d;cases z<;>simp only [LU]at b<;>try (cases b;done)
     cases b;have D:=bT.OA v;have E:=bT.OA n;rw [D,E];simp only [azh,qM];rename_i M;rw [bytes_beq]
   cases q with
   |true=>
    simp at h;subst h;exact⟨some (i,e.val),by simp [anp,c],A⟩
   |false=>
    obtain⟨t,I,K⟩:=TQ v u j d p s a (i+1) r f h;exact⟨t,by simp [anp,c,I],K⟩
 | [],_::_,_,_,l,_=>l.elim
 |_::_,[],_,_,l,_=>l.elim
def aaU (b:Bool) (u:TypeDesc):Bool:=match u with | .int _=> !b | .string=>b |_=>false
theorem yV (b:P.underlying kt=some u) (j:bT ρ k k') (c:C7 d k=true) (h:aaU d u=true) e:
  (Instr.checkKey e 10000 kt k').run P w= .ok () w:=by
 unfold Instr.checkKey;simp only [aa3,run_underlying b];cases u<;>simp only [aaU,ab2]at h
 ·rfl
 ·rfl
theorem TE: ∀ {cs} {l} {vs},bytesOf cs=some l->ca ρ cs vs-> ∃d:List Int,vs=d.map (arN .u8)/\l=d.map λn=>avM n.toNat
 | [],l,[],h,_=>by simp [bytesOf]at h;subst h;exact⟨[],rfl,rfl⟩
 |c::cs,l,v::vs,h,b=>by
  cases c with
  |int k n=>
   cases k<;>try (simp [bytesOf]at h;done)
   cases n with
   |ofNat n=>
    simp only [bytesOf]at h;cases j:bytesOf cs with
    |none=>simp_all
    |some s=>
     rw [j]at h;cases h;obtain⟨d,p,q⟩:=TE j b.2;have r:=bT.PS b.1;exact⟨ahd n::d,by rw [r,p];rfl,by rw [q];rfl⟩
   |negSucc n=>simp [bytesOf]at h
  |_=>simp [bytesOf]at h
 | [],_,_::_,_,b=>b.elim
 |_::_,_,[],_,b=>b.elim
theorem aoC: ∀(l:List Int) s,l.foldl (λ(r:ByteArray) n=>r.push (avM n.toNat)) ⟨s.toArray⟩=⟨(s++l.map λn=>avM n.toNat).toArray⟩
 | [],s=>ab
 |n::l,s=>by
  simp only [List.foldl_cons];have:(aoc s.toArray).push (avM n.toNat)=⟨(s++ [avM n.toNat]).toArray⟩:=by
   simp [ByteArray.push]
  rw [this,aoC l];simp
theorem run_shape (h:w.heap[b]? =some (.cells arr e fr)):(Go.shape b).run P w= .ok (some (e,arr.size)) w:=by
 simp [World.shape?,h]
theorem acZ (h:w.heap[b]? =some (.cells arr e fr)):(Conv.seenAt ⟨b,o,none⟩).run P w= .ok ⟨b,o,none⟩ w:=by
 simp only [Conv.seenAt,viewAt,aa3,run_shape h];rfl
theorem aj7 (h:w.heap[b]? =some (.cells arr e fr)):(cellsIn b).run P w= .ok (some arr.size) w:=by
 simp only [cellsIn,aa3,run_shape h,aaX];rfl
theorem amM (c:P.cellsOf t≠0) (d:1<=n):liesAt P P.depth t n 0 t 1=true:=by
 have b:P.depth=(2*(P.types.size+Made.depth)+1)+1:=rfl;rw [b];simp [liesAt,rowAt,c,sameLayout,d,b]
theorem aeR (h:Ys P t i):P.cellsOf t=i.size:=by
 obtain⟨_,_,b,z,c,d,_⟩:=h;simp [Program.cellsOf,c,d]
section
variable {P:Program} {tab:Fu} (aBl:yA P tab) {ρ:pZ} {f:AF} {a:Act} (hf:yE ρ f a.tmps) {H:AH} {w:World} (hs:vR tab ρ H w) {o:Oper}
include aBl hf hs
theorem aoG (d:ef tab o (.ng x)=true) (h:aR (.ng x) f H=some v): ∃y,(execOp a.eval o).run P w= .ok (.value y) w/\bT ρ v y:=by
 cases j:o.op<;>simp only [ef,j,ab2]at d;rename_i t y;cases n:tab.get t with
 |none=>rw [n]at d;cases d
 |some i=>
  rw [n]at d;simp only [ae7,Bool.not_eq_true']at d;have u:=(cI d.2).ev hf;have q:=aBl _ _ n;simp only [aR]at h;cases k:f.ev x with
  |ptr p=>
   rw [k]at h u;rcases p with _ |⟨D,M⟩
   ·cases h
   ·simp only at h;cases l:H.get D with
    |none=>rw [l]at h;cases h
    |some E=>
     rw [l]at h;cases E with
     |cells c N=>
      obtain⟨b,s,z⟩:=hs.live l;obtain⟨m,A,O,F,G⟩:=u;rw [z]at A;cases A;obtain⟨I,K,L⟩:=hs.asq l z h;have r:=G b s rfl;refine⟨I, ?_,L⟩;simp only [execOp,j,Instr.loadAt,aa3,F,Instr.sureAddr,acH,aaX,loadVar,q.Hm w,d.1,ab2,if_false];rw [run_load (P:=P) (by rw [r];exact K)];rfl
     |map=>cases h
     |loop=>cases h
  |_=>rw [k]at h;cases h
theorem ama (c:ef tab o (.yS n x)=true) (d:aR (.yS n x) f H=some v): ∃y,(execOp a.eval o).run P w= .ok (.value y) w/\bT ρ v y:=by
 cases h:o.op<;>simp only [ef,h,ab2]at c;rename_i t y;cases r:tab.get t with
 |none=>rw [r]at c;cases c
 |some i=>
  rw [r]at c;simp only [ae7]at c;obtain⟨⟨j,u⟩,z⟩:=c;have I:n=i.size:=by simpa [agl]using u
  have E:=(cI z).ev hf;have k:=aBl _ _ r;simp only [aR]at d;cases l:f.ev x with
  |ptr p=>
   rw [l]at d E;rcases p with _ |⟨K,L⟩
   ·cases d
   ·simp only at d;cases q:db H (K,L) n with
    |none=>rw [q]at d;cases d
    |some S=>
     rw [q]at d;cases d;obtain⟨b,s,F⟩:=GQ hs q;obtain⟨m,G,T,M,N⟩:=E;rw [F]at G;cases G;obtain⟨O,A⟩:=hs.ai3 q F;have D:=N b s rfl;obtain⟨vs,Q,R⟩:=zX (P:=P) O A;refine⟨.agg vs, ?_,vs,rfl,R⟩;simp only [execOp,h,Instr.loadAt,aa3,M,Instr.sureAddr,acH,aaX,loadVar,k.Hm w,j,if_true,k.run_sizeOf w];rw [D,<-I,Q];rfl
  |_=>rw [l]at d;cases d
theorem aqI (c:ef tab o (.look z F ks m k)=true) (h:aR (.look z F ks m k) f H=some v): ∃y,(execOp a.eval o).run P w= .ok (.value y) w/\bT ρ v y:=by
 cases G:o.op<;>simp only [ef,G,ab2]at c;rename_i t m' k' Z;cases ht:tab.get t with
 |none=>rw [ht]at c;cases c
 |some i=>
  rw [ht]at c;simp only at c;have va:=aBl _ _ ht;cases I:i.u<;>rw [I]at c<;>simp only [ab2]at c;rename_i kt e;cases j:tab.get kt with
  |none=>rw [j]at c;cases c
  |some ik=>
   cases he:tab.get e with
   |none=>rw [j,he]at c;cases c
   |some ie=>
    rw [j,he]at c;simp only [ae7]at c;obtain⟨⟨⟨⟨hu,hz⟩,K⟩,hm⟩,hk⟩:=c;have n:F=Z:=by simpa using K
    subst n;have L:=(cI hm).ev hf;have M:=(cI hk).ev hf;have N:=(aBl _ _ j).1;obtain⟨zv,vc,_,_,vd⟩:=(aBl _ _ he).qS w;have O:bT ρ z zv:=by rw [AV.dG _ _ hz];exact vd ρ
    simp only [aR]at h;cases Q:f.ev m with
    |map r=>
     rw [Q]at h L;cases r with
     |none=>cases h
     |some r=>
      simp only at h;cases V:H.get r with
      |none=>rw [V]at h;cases h
      |some ob=>
       rw [V]at h;cases ob with
       |map es=>
        obtain⟨h1,A⟩:=bF h;obtain⟨b,s,hr⟩:=hs.live V;obtain⟨mm,R,rr,hv,ve⟩:=L.W6 hr;rw [hr]at R;cases R;obtain⟨vh,S,vf,vg,D,T⟩:=hs.at_ V hr;subst D;cases E:findKey (f.ev k) es with
        |none=>rw [E]at A;cases A
        |some q=>
         rw [E]at A;obtain⟨W,g1,Y⟩:=TQ M ik.u ks h1 hu es vf.toList 0 q T E;have l: ∀(y:Value) (d:Bool),(match W with |some (_,v)=>(v,true) |none=>(zv,false))=(y,d)->
           (execOp a.eval o).run P w= .ok (.value (if F then .tuple #[y,.bool d]else y)) w:=by
          intro y d U;simp only [execOp,G,Instr.lookup,aa3,va.run_underlying w,I,aaX,hv,ve b s rfl,ao9 S,acH,
           yV (P:=P) (w:=w) N M h1 hu,avO (P:=P) (w:=w) N g1]
          cases W with
          |none=>cases U;simp only [aa3,vc,aaX,acH]
          |some p=>obtain⟨pi,pv⟩:=p;cases U;simp only [aa3,acH,aaX]
         cases q with
         |none=>
          cases W with
          |some _=>exact Y.elim
          |none=>
           simp only at A;cases A;refine⟨_,l _ _ rfl, ?_⟩;cases F
           ·exact O
           ·exact⟨_,rfl,O,rfl,trivial⟩
         |some x=>
          cases W with
          |none=>exact Y.elim
          |some p=>
           obtain⟨pi,pv⟩:=p;simp only at A;cases A;refine⟨_,l _ _ rfl, ?_⟩;cases F
           ·exact Y
           ·exact⟨_,rfl,Y,rfl,trivial⟩
       |cells=>cases h
       |loop=>cases h
    |_=>rw [Q]at h;cases h
theorem akZ (d:ef tab o (.len .map x)=true) (j:aR (.len .map x) f H=some v): ∃y,(execOp a.eval o).run P w= .ok (.value y) w/\bT ρ v y:=by
 simp only [ef]at d;split at d
 ·rename_i c M;split at d
  ·rename_i y t n k z;obtain⟨i,_,U,D⟩:=vW aBl hf d;simp only [ae7]at D;have V:=(cI D.1).ev hf;have E:c.args= #[y]:=by rw [<-ajC];exact k
   have N:c.argTypes= #[t]:=by rw [<-ajC];exact z
   have W:=D.2;cases F:i.u<;>rw [F]at W<;>simp only [ab2]at W;simp only [aR]at j;cases G:f.ev x with
   |map r=>
    rw [G]at j V;cases r with
    |none=>cases j
    |some r=>
     simp only at j;cases l:H.get r with
     |none=>rw [l]at j;cases j
     |some Z=>
      rw [l]at j;cases Z with
      |map Y=>
       cases j;obtain⟨b,s,O⟩:=hs.live l;obtain⟨mm,I,rr,hv,Q⟩:=V.W6 O;rw [O]at I;cases I;obtain⟨va,K,R,S,A,L⟩:=hs.at_ l O;subst A;have hl:R.size=Y.length:=by
        have: ∀(a:List (AV×AV)) (b:List MapEntry),Ck ρ a b->b.length=a.length:=by
         intro a;induction a with
         |nil=>intro b h;cases b with |nil=>rfl |cons=>exact h.elim
         |cons p ps ih=>intro b h;cases b with |nil=>exact h.elim |cons q qs=>simp [ih qs h.2.2]
        rw [<-ahG];exact this _ _ L
       refine⟨goInt Y.length, ?_,rfl⟩;have T:=Q b s rfl;subst T;simp only [execOp,M,resolve,n,aa3,acH,aaX,invoke,builtin,E,N];simp [Builtin.len_,U.run_underlying w,F,hv,ao9 K,hl]
      |cells=>cases j
      |loop=>cases j
   |_=>rw [G]at j;cases j
  ·rename_i y t n k z;obtain⟨i,_,U,D⟩:=vW aBl hf d;simp at D
  ·cases d
 ·cases d
theorem asl (h:ef tab o (.conv .toU x)=true) (k:aR (.conv .toU x) f H=some v): ∃y,(execOp a.eval o).run P w= .ok (.value y) w/\bT ρ v y:=by
 simp only [ef]at h;split at h
 ·rename_i s d Z t;cases n:tab.get s with
  |none=>rw [n]at h;cases h
  |some i=>
   cases I:tab.get d with
   |none=>rw [n,I]at h;cases h
   |some j=>
    rw [n,I]at h;simp only [ae7]at h;have E:=(cI h.1).ev hf;have z:=aBl _ _ n;have A:=aBl _ _ I;have q:=h.2;cases K:i.u<;>rw [K]at q<;>(try (simp only [ab2]at q;done))<;>
    cases L:j.u<;>rw [L]at q<;>(try (simp only [ab2]at q;done));rename_i et;simp only at q;cases r:tab.get et with
    |none=>rw [r]at q;cases q
    |some l=>
     rw [r]at q;have hl:0<l.size:=by simpa [amL]using q
     have M:=aBl _ _ r;simp only [aR]at k;cases D:f.ev x with
     |ptr p=>
      rw [D]at k E;rcases p with _ |⟨pi,S⟩
      ·cases k;have F:a.eval Z= .pointer none:=E;exact⟨.pointer none,by simp only [execOp,t,F,convert,aa3,z.run_underlying w,A.run_underlying w,K,L,Conv.unsafePointer,aaX,acH],rfl⟩
      ·simp only at k;cases G:H.get pi with
       |none=>rw [G]at k;cases k
       |some ob=>
        rw [G]at k;cases ob with
        |cells c ro el=>
         obtain⟨hb,k⟩:=bF k;cases k;have va:S<c.length:=by simpa [amL]using hb
         obtain⟨b,T,U⟩:=hs.live G;have N:=E;obtain⟨m,V,ad,F,O⟩:=E;rw [U]at V;cases V;have:=O b T rfl;subst this;obtain⟨Q,e,fr,W,Y⟩:=hs.auM G U;have R: ¬(Q.size<=S+T.s):=by have:=Y.size;have:=Y.fit;omega
         refine⟨_, ?_,N⟩;rw [F];simp only [execOp,t,F,convert,aa3,z.run_underlying w,A.run_underlying w,K,L,Conv.unsafePointer,aaX,acH,acZ W,aj7 W,M.run_sizeOf w];simp [R,Nat.ne_of_gt hl]
        |map=>cases k
        |loop=>cases k
     |_=>rw [D]at k;cases k
 ·cases h
theorem au5 (h:ef tab o (.conv (.ofU u Q) x)=true) (k:aR (.conv (.ofU u Q) x) f H=some v): ∃y,(execOp a.eval o).run P w= .ok (.value y) w/\bT ρ v y:=by
 simp only [ef]at h;split at h
 ·rename_i s d x' D;cases q:tab.get s with
  |none=>rw [q]at h;cases h
  |some i=>
   cases R:tab.get d with
   |none=>rw [q,R]at h;cases h
   |some j=>
    rw [q,R]at h;simp only [ae7]at h;have L:=(cI h.1).ev hf;have E:=aBl _ _ q;have F:=aBl _ _ R;have n:=h.2;cases S:i.u<;>rw [S]at n<;>(try (simp only [ab2]at n;done))<;>
    cases T:j.u<;>rw [T]at n<;>(try (simp only [ab2]at n;done));rename_i U;simp only [ae7]at n;have V:U=u:=ahv n.1;subst V;cases r:tab.get U with
    |none=>rw [r]at n;cases n.2
    |some l=>
     rw [r]at n;have t:=n.2;simp only [ae7]at t;have hl:0<l.size:=by simpa [amL]using t.1
     have vf:l.size=Q:=ahv t.2;have G:=aBl _ _ r;simp only [aR]at k;cases I:f.ev x with
     |ptr p=>
      rw [I]at k L;rcases p with _ |⟨pi,po⟩
      ·cases k;have M:a.eval x'= .pointer none:=L;exact⟨.pointer none,by simp only [execOp,D,M,convert,aa3,E.run_underlying w,F.run_underlying w,S,T,Conv.unsafePointer,aaX,acH],rfl⟩
      ·simp only at k;cases N:H.get pi with
       |none=>rw [N]at k;cases k
       |some ob=>
        rw [N]at k;cases ob with
        |cells c ro el=>
         rcases el with _ |⟨t0,z⟩
         ·cases k
         ·cases z with
          |false=>cases k
          |true=>
           simp only at k;obtain⟨O,k⟩:=bF k;cases k;simp only [ae7]at O;have W:po=0:=ahv O.1.1;have Y:t0=U:=ahv O.1.2;have ve:Q<=c.length:=by simpa [al9]using O.2
           subst W Y;obtain⟨b,s',hr⟩:=hs.live N;have Z:=L;obtain⟨m,hm,ad,M,va⟩:=L;rw [hr]at hm;cases hm;have:=va b s' rfl;subst this;obtain⟨vg,e,fr,h1,h2,h3⟩:=hs.adw N hr;obtain⟨he,A⟩:=h3 _ _ rfl;have A:=A rfl;subst he;have vc:P.cellsOf e=l.size:=aeR G;have K:(variablesAt ⟨b,0+s'.s,none⟩ e 1).run P w= .ok true w:=by
            have vd:(program:Sem Program).run P w= .ok P w:=rfl;simp only [variablesAt,aa3,vd,aaX,run_shape h1,acH,A];rw [amM aa (by rw [vc];have:=h2.size;have:=h2.fit;exact(Nat.le_div_iff_mul_le hl).2 aa)]
           refine⟨_, ?_,Z⟩;rw [M];simp only [execOp,D,M,convert,aa3,E.run_underlying w,F.run_underlying w,S,T,Conv.unsafePointer,aaX,acH,acZ h1,G.run_sizeOf w,K];simp
        |map=>cases k
        |loop=>cases k
     |_=>rw [I]at k;cases k
 ·cases h
theorem as1 (d:ef tab o (.peq k x y)=true) (j:aR (.peq k x y) f H=some v): ∃z,(execOp a.eval o).run P w= .ok (.value z) w/\bT ρ v z:=by
 simp only [ef]at d;split at d
 ·rename_i op t Y Z yt O;cases ht:tab.get t with
  |none=>rw [ht]at d;cases d
  |some i=>
   rw [ht]at d;simp only [ae7]at d;have hx:=(cI d.1.2).ev hf;have hy:=(cI d.2).ev hf;have va:=aBl _ _ ht;have K:=d.1.1.2;cases hu:i.u<;>rw [hu]at K<;>simp only [ab2]at K;rename_i et;obtain⟨l,hl⟩:=Option.isSome_iff_exists.1 K;have vc:=aBl _ _ hl;have L:=hu▸va.1;simp only [aR]at j;have M: ∀(p q:Option Addr) (r:Bool),a.eval Y= .pointer p->a.eval Z= .pointer q->(Op.equal t (.pointer p) (.pointer q)).run P w= .ok r w->v= .bool (cond k (!r) r)-> ∃z,(execOp a.eval o).run P w= .ok (.value z) w/\bT ρ v z:=by
    intro p q r A E hr hv;have hg:(eqGuard op t Y Z (.pointer p) (.pointer q)).run P w= .ok () w:=ji w op t Y Z _ _ (λ_ h=>by cases h) (λh=>by cases h);subst hv;have n:=d.1.1.1;cases op<;>simp only [ab2]at n
    ·have:k=false:=by simpa using n
     subst this;exact⟨.bool r,by simp only [execOp,O,A,E,aa3,hg,binOp,hr,aaX,acH],rfl⟩
    ·have:k=true:=by simpa using n
     subst this;exact⟨.bool (!r),by simp only [execOp,O,A,E,aa3,hg,binOp,hr,aaX,acH],rfl⟩
   cases F:f.ev x with
   |ptr p=>
    cases N:f.ev y with
    |ptr q=>
     rw [F,N]at j;rw [F]at hx;rw [N]at hy;have A: ∃G,a.eval Y= .pointer G/\G.isSome=p.isSome:=by
      rcases p with _ |⟨pi,po⟩
      ·exact⟨none,hx,rfl⟩
      ·obtain⟨m,_,a',Q,_⟩:=hx;exact⟨some a',Q,rfl⟩
     have E: ∃I,a.eval Z= .pointer I/\I.isSome=q.isSome:=by
      rcases q with _ |⟨pi,po⟩
      ·exact⟨none,hy,rfl⟩
      ·obtain⟨m,_,a',Q,_⟩:=hy;exact⟨some a',Q,rfl⟩
     obtain⟨G,R,S⟩:=A;obtain⟨I,T,U⟩:=E;rcases p with _ |⟨pi,po⟩
     ·cases j;refine M G I q.isNone R T ?_ (by cases k<;>cases q<;>rfl);have vd:G=none:=by cases G with
       |none=>rfl
       |some _=>cases S
      subst vd;rw [W9,ad9 (P:=P) w L 9999 none I (.inl rfl)];cases I<;>cases q<;>first |rfl |cases U
     ·rcases q with _ |⟨qi,qo⟩
      ·cases j;refine M G I false R T ?_ (by cases k<;>rfl);have ve:I=none:=by cases I with
        |none=>rfl
        |some _=>cases U
       subst ve;rw [W9,ad9 (P:=P) w L 9999 G none (.inr rfl)];cases G<;>first |rfl |cases S
      ·simp only at j;cases hi:H.get pi with
       |none=>rw [hi]at j;cases j
       |some ob=>
        rw [hi]at j;cases ob with
        |cells c ro el=>
         obtain⟨hb,j⟩:=bF j;cases j;have he:=VE hb;cases he;obtain⟨b,s',hr⟩:=hs.live hi;obtain⟨m,hm,ad,hv,vf⟩:=hx;obtain⟨m2,V,vj,vg,W⟩:=hy;rw [hr]at hm V;cases hm;cases V;have Q:=vf b s' rfl;have h2:=W b s' rfl;subst Q h2;refine M _ _ true hv vg ?_ (by cases k<;>rfl);have vh: ∀D,(akt (D+1) t (.pointer (some ⟨b,po+s'.s,none⟩)) (.pointer (some ⟨b,po+s'.s,none⟩))).run P w= .ok true w:=by
          intro D;simp only [akt,aa3,run_underlying L,aaX,vc.run_sizeOf w];by_cases h0:l.size=0
          ·simp [h0]
          ·simp [h0,sameAddr]
         exact vh 9999
        |map=>cases j
        |loop=>cases j
    |_=>rw [F,N]at j;rcases p with _ |p<;>cases j
   |_=>rw [F]at j;cases j
 ·cases d
theorem amQ (c:ef tab o (.conv .bytes x)=true) (h:aR (.conv .bytes x) f H=some v): ∃y,(execOp a.eval o).run P w= .ok (.value y) w/\bT ρ v y:=by
 simp only [ef]at c;split at c
 ·rename_i s d x' t;cases k:tab.get s with
  |none=>rw [k]at c;cases c
  |some i=>
   cases G:tab.get d with
   |none=>rw [k,G]at c;cases c
   |some j=>
    rw [k,G]at c;simp only [ae7]at c;have I:=(cI c.1).ev hf;have K:=aBl _ _ k;have L:=aBl _ _ G;have q:=c.2;cases Z:i.u<;>rw [Z]at q<;>(try (simp only [ab2]at q;done));cases hj:j.u<;>rw [hj]at q<;>(try (simp only [ab2]at q;done));rename_i e;cases M:tab.get e with
    |none=>simp [M]at q
    |some l=>
     simp only [M]at q;have z:P.underlying e=some (.int .u8):=by
      rw [(aBl _ _ M).1];cases N:l.u<;>rw [N]at q<;>(try (cases q;done));rename_i kk;cases kk<;>(try (cases q;done));rfl
     have A:P.underlying s=some (.slice e):=by rw [K.1,Z]
     have D:P.underlying d=some .string:=by rw [L.1,hj]
     simp only [aR]at h;cases E:f.ev x with
     |slice p n va ex=>
      rw [E]at h I;rcases p with _ |⟨pi,po⟩
      ·cases h;obtain⟨O,h2,h3⟩:=I;refine⟨.string .empty, ?_,rfl⟩;simp only [execOp,t,aa3,O,run_convert_bytes_string w s d e none 0 0 A z D,Conv.bytesToString,acH,aaX]
      ·simp only at h;cases F:db H (pi,po) n with
       |none=>rw [F]at h;cases h
       |some Q=>
        rw [F]at h;simp only at h;cases R:bytesOf Q with
        |none=>rw [R]at h;cases h
        |some bs=>
         rw [R]at h;cases h;obtain⟨b,sh,hr⟩:=GQ hs F;obtain⟨m,hm,S,c',hv,vc,vd,ve,ha⟩:=I;rw [hr]at hm;cases hm;obtain⟨hl,T⟩:=hs.ai3 F hr;have r: ∃vs:Array Value,(loadCells S n).run P w= .ok vs w/\ca ρ Q vs.toList:=by
          by_cases U:0<c'
          ·rw [(ha b sh rfl U).1];exact zX (P:=P) hl T
          ·have V:n=0:=aa
           subst V;have:Q=[]:=awZ.1 hl;subst this;exact⟨#[],rfl,trivial⟩
         obtain⟨vs,O,h2⟩:=r;obtain⟨W,h3,h4⟩:=TE R h2;have Y:(loadCells S n).run P w= .ok (W.map (arN .u8)).toArray w:=by rw [O,<-h3]
         refine⟨.string ⟨bs.toArray⟩, ?_,rfl⟩;simp only [execOp,t,aa3,hv,run_convert_bytes_string w s d e _ _ _ A z D,run_bytesToString w S n c' W Y,acH,aaX];have:=aoC W [];simp only [List.nil_append]at this;rw [show ByteArray.empty=(⟨([]:List UInt8).toArray⟩:ByteArray)from rfl,this,h4]
     |_=>rw [E]at h;cases h
 ·cases c
theorem adN (b:ef tab o op=true) (c:aR op f H=some v): ∃y,(execOp a.eval o).run P w= .ok (.value y) w/\bT ρ v y:=by
 cases op with
 |ng x=>exact aoG aBl hf hs b c
 |yS n x=>exact ama aBl hf hs b c
 |look z h j m k=>exact aqI aBl hf hs b c
 |len k x=>cases k with
  |map=>exact akZ aBl hf hs b c
  |_=>simp [aR]at c
 |conv k x=>cases k with
  |bytes=>exact amQ aBl hf hs b c
  |toU=>exact asl aBl hf hs b c
  |ofU u l=>exact au5 aBl hf hs b c
  |_=>simp [aR]at c
 |peq d x y=>exact as1 aBl hf hs b c
 |_=>simp [aR]at c
end
theorem UP z: ∀n,(rep z n).length=n*z.length
 |0=>by simp [rep]
 |n+1=>by simp [rep,UP z n,Nat.add_mul,Nat.add_comm]
theorem aqx z (d:0<z.length): ∀n i,i<n*z.length->(rep z n)[i]? =z[i%z.length]?
 |0,i,h=>by simp at h
 |n+1,i,h=>by
  simp only [rep];by_cases c:i<z.length
  ·rw [List.getElem?_append_left c,Nat.mod_eq_of_lt c]
  ·have b:z.length<=i:=aa
   rw [List.getElem?_append_right b,aqx z d n (i-z.length) (by rw [Nat.add_mul]at h;omega)];rw [<-Nat.mod_eq_sub_mod b]
theorem Zk {b:Array Value} (k:ca ρ z b.toList) (l:0<z.length) n m (r:m=n*b.size):ca ρ (rep z n) ((Array.range m).map λi=>b[i%b.size]!).toList:=by
 have d:b.size=z.length:=by rw [<-ahG];exact k.length
 subst r;refine ca.aeG (by simp [UP,d]) λi x j=> ?_
 have p:i<n*z.length:=by
  have:=(List.getElem?_eq_some_iff.1 j).1;rwa [UP]at this
 rw [aqx z l n i p]at j;obtain⟨y,q,s⟩:=k.get _ x j;refine⟨y, ?_,s⟩;have c:i%z.length<b.size:=by rw [d];exact Nat.mod_lt _ l
 have h:b[i%b.size]! =y:=by
  rw [getElem!_pos b _ (by rw [d];rw [d]at c;exact c)];rw [Array.getElem?_toList]at q;have:=Array.getElem?_eq_some_iff.1 q;obtain⟨u,t⟩:=this;simp only [d];exact t
 simp [d,p];rw [d]at h;exact h
theorem OH (b:ca ρ z c.toList) (d:0<z.length) n:ca ρ (rep z n) (ak7 c n).toList:=
 Zk b d n _ rfl
theorem wsX {n:Nat} (h:n<=1099511627776):IntKind.i64.wrap n=n:=by
 have b:IntKind.i64.bits=64:=rfl;have c:IntKind.i64.signed=true:=rfl;simp only [IntKind.wrap,b,c,Bool.true_and,decide_eq_true_eq];have:(n:Int)%2^64=n:=aa
 rw [this,if_neg aa]
theorem run_askRoom n w:(askRoom n).run P w= .ok () w:=by
 unfold askRoom;split<;>rfl
theorem aiI (h:ca ρ c arr.toList):l8 ρ c false arr (0,0) ⟨0,arr.size⟩:=by
 have b:arr.size=c.length:=by rw [<-ahG];exact h.length
 refine⟨rfl,by simp [b],λi x d=> ?_,λ_ j _ k=>by simp at k⟩;obtain⟨y,l,n⟩:=h.get i x d;exact⟨y,by simpa using l,n⟩
def sK (P:Program) (tab:Fu) (ρ:pZ) (H:AH) (w:World) (s:Sem Next) (v:AV) (H':AH):Prop:=
 ∃x y c b,s.run P w= .ok x c/\(x= .value y\/(x= .skip/\y=undef))/\bT b v y/\vR tab b H' c/\Gu ρ H w b H' c
theorem sK.same (hs:vR tab ρ H w) (h:s.run P w= .ok (.value y) w) (b:bT ρ v y):sK P tab ρ H w s v H:=
 ⟨_,y,w,ρ,h,.inl rfl,b,hs,.refl _ _ _⟩
section
variable {P:Program} {tab:Fu} (aBl:yA P tab) {ρ:pZ} {f:AF} {a:Act} (hf:yE ρ f a.tmps) {H:AH} {w:World} (hs:vR tab ρ H w) (hn:ρ H.next=none) {o:Oper}
include aBl hf hs hn
theorem adZ {el:TypeId} (h:asb b el ⟨0,arr.size⟩) (j:ca ρ c arr.toList) (k:s.run P w= .ok (.value y) (n9 w (.cells arr el)))
  (l:bT (ρ.put H.next (some (w.heap.size,⟨0,arr.size⟩))) v y):sK P tab ρ H w s v (H.new (.cells c false b)):=by
 have d:AB.Rel tab ρ (.cells c false b) (.cells arr el) ⟨0,arr.size⟩:=⟨arr,el,(0,0),rfl,aiI j,h⟩;obtain⟨n,p⟩:=hs.new hn d;exact⟨_,y,_,_,k,.inl rfl,l,n,p⟩
theorem RW (b:ca ρ c arr.toList) (d:s.run P w= .ok (.value y) (n9 w (.cells arr el)))
  (h:bT (ρ.put H.next (some (w.heap.size,⟨0,arr.size⟩))) v y):sK P tab ρ H w s v (H.new (.cells c false none)):=
 adZ aBl hf hs hn .none_ b d h
theorem aaZ (d:ef tab o op=true) (D:aW op f H.next=some (v,ob)):sK P tab ρ H w (execOp a.eval o) v (H.new ob):=by
 have v5: ∀m,Ext ρ (ρ.put H.next m):=λm=>Ext.RU hn m
 have K: ∀(R:Nat),bT (ρ.put H.next (some (w.heap.size,⟨0,R⟩))) (.ptr (some (H.next,0))) (.pointer (some ⟨w.heap.size,0,none⟩)):=λR=>
  ⟨_,pZ.kL _ _ _,_,rfl,λb s hb=>by cases hb;rfl⟩
 have A: ∀(R l c:Nat),l<=c->bT (ρ.put H.next (some (w.heap.size,⟨0,R⟩))) (.slice (some (H.next,0)) l c 0) (.slice (some ⟨w.heap.size,0,none⟩) l c):=λR l c Y=>
  ⟨_,pZ.kL _ _ _,_,c,rfl,Y,afK _,λ_=>rfl,λb s hb _=>by cases hb;exact⟨rfl,λh=>aa⟩⟩
 cases op<;>try (simp [aW]at D;done)
 case alloc t' z=>
  cases q:o.op<;>simp only [ef,q,ab2]at d;rename_i t;cases O:tab.get t with
  |none=>rw [O]at d;cases d
  |some i=>
   rw [O]at d;simp only [aW,akU,Prod.mk.injEq]at D;obtain⟨rfl,rfl⟩:=D;obtain⟨zv,Q,_,F,_⟩:=(aBl _ _ O).qS w;simp only [ae7]at d;have S:=AV.qn _ _ d.1;have vp:t=t':=ahv d.2;subst S vp;refine adZ aBl hf hs hn (arr:=zv.cells) (el:=t) (λt1 z1 h=>by cases h;exact⟨rfl,λ_=>rfl⟩) (F ρ) ?_ (K _);simp only [execOp,q,Instr.alloc,aa3,Q,aaX,newVar,newRow,run_newObj,acH]
 case box x=>
  cases q:o.op<;>simp only [ef,q,ab2]at d;rename_i t y;simp only [aW,akU,Prod.mk.injEq]at D;obtain⟨rfl,rfl⟩:=D;refine RW aBl hf hs hn (arr:=(a.eval y).cells) (el:=t) ((cI d).ev hf).cells ?_ (K _);simp only [execOp,q,Instr.box,aa3,aaX,newVar,newRow,run_newObj,acH]
 case BG z G ps=>
  cases q:o.op<;>simp only [ef,q,ab2]at d;rename_i t vk qs;cases O:tab.get t with
  |none=>rw [O]at d;cases d
  |some i=>
   rw [O]at d;simp only at d;cases M:i.u<;>rw [M]at d<;>simp only [ab2]at d;rename_i e;cases he:tab.get e with
   |none=>rw [he]at d;cases d
   |some j=>
    rw [he]at d;simp only [ae7]at d;obtain⟨⟨⟨⟨hz,hl⟩,vq⟩,T⟩,L⟩:=d;have S:=AV.qn _ _ hz;subst S;have vr:G=vk:=by simpa [agl]using hl
    subst vr;have v6:G*j.size<=16777216:=by simpa [al9]using vq
    have ve:0<j.size:=by simpa [amL]using T
    simp only [aW]at D;cases Z:fill f (rep j.zero G) ps with
    |none=>rw [Z]at D;cases D
    |some cs=>
     rw [Z]at D;simp only [akU,Prod.mk.injEq]at D;obtain⟨rfl,rfl⟩:=D;have va:=aBl _ _ O;have I:=aBl _ _ he;obtain⟨zv,Q,U,F,_⟩:=I.qS w;have vt:j.zero.length=j.size:=by rw [<-(F ρ).length,ahG,U]
     have vl:(Array.map (λ(x:Nat×Operand)=>(x.fst,a.eval x.snd)) qs).toList=qs.toList.map λp=>(p.1,a.eval p.2):=ab
     by_cases vd:G*j.size=0
     ·
      have vf:G=0:=by
       rcases Nat.mul_eq_zero.1 vd with h |h
       ·exact h
       ·omega
      subst vf;obtain⟨vs,vg,vh⟩:=I1 hf (λk=>some (k*j.size,j.size)) ps qs.toList [] cs #[] L Z trivial;refine RW aBl hf hs hn (arr:=vs) (el:=e) vh ?_ (A _ _ _ (afK _));simp only [execOp,q,Instr.buildSlice,aa3,va.run_underlying w,M,aaX,I.run_sizeOf w,Nat.zero_mul,if_true,acH];rw [if_neg aa];simp only [acH,aaX,aa3];rw [vl,show Array.map (λx=>(#[]:Array Value)[x%(#[]:Array Value).size]!) (Array.range 0)= #[]from ab,vg];simp only [newRow,aa3,run_newObj,aaX,acH]
     ·have vj:=Zk (F ρ) aa G (G*j.size) (by rw [U]);obtain⟨vs,vg,vh⟩:=I1 hf (λk=>some (k*j.size,j.size)) ps qs.toList _ cs _ L Z vj;refine RW aBl hf hs hn (arr:=vs) (el:=e) vh ?_ (A _ _ _ (afK _));simp only [execOp,q,Instr.buildSlice,aa3,va.run_underlying w,M,aaX,I.run_sizeOf w];rw [if_neg aa];simp only [acH,aaX,vd,if_false,aa3,Q];rw [vl,vg];simp only [newRow,aa3,run_newObj,aaX,acH]
 case zy z bytes l c=>
  cases q:o.op<;>simp only [ef,q,ab2]at d;rename_i t l' c';cases O:tab.get t with
  |none=>rw [O]at d;cases d
  |some i=>
   rw [O]at d;simp only at d;cases M:i.u<;>rw [M]at d<;>simp only [ab2]at d;rename_i e;cases he:tab.get e with
   |none=>rw [he]at d;cases d
   |some j=>
    rw [he]at d;simp only [ae7]at d;obtain⟨⟨⟨⟨hz,hb⟩,T⟩,vu⟩,vv⟩:=d;have S:=AV.qn _ _ hz;subst S;have vw:bytes=j.bytes:=by simpa [agl]using hb
    subst vw;have ve:0<j.size:=by simpa [amL]using T
    simp only [aW]at D;split at D
    ·rename_i ln N vx vz;obtain⟨h1,h2⟩:=bF D;simp only [akU,Prod.mk.injEq]at h2;obtain⟨rfl,rfl⟩:=h2;simp only [ae7,al9]at h1;obtain⟨⟨Y,vc⟩,hcb⟩:=h1;obtain⟨kl,v0⟩:=Ho aBl hf vu vx;obtain⟨kc,v1⟩:=Ho aBl hf vv vz;have va:=aBl _ _ O;have I:=aBl _ _ he;obtain⟨zv,Q,U,F,_⟩:=I.qS w;obtain⟨inf,zv',vm,_,v2,_⟩:=I.run_typeInfo w;have vt:j.zero.length=j.size:=by rw [<-(F ρ).length,ahG,U]
     have v3:=wsX (n:=ln) aa;have v4:=wsX (n:=N) aa;have vj:=Zk (F ρ) aa N (N*j.size) (by rw [U]);have V:(j.bytes:Int)*(N:Int)<=1099511627776:=by
      have h:((j.bytes:Int)*(N:Int))=((N*j.bytes:Nat):Int):=by rw [Int.natCast_mul,Int.mul_comm]
      rw [h];exact Int.ofNat_le.2 vc
     have vn:(j.bytes:Int)*(ln:Int)<=1099511627776:=by
      refine Int.le_trans ?_ V;exact Int.mul_le_mul_of_nonneg_left (Int.ofNat_le.2 Y) (Int.natCast_nonneg _)
     have v7: ∀E:Array Value,(N*j.size=0->E= #[])->(¬N*j.size=0->E=zv.cells)->
       Array.map (λx=>E[x%E.size]!) (Array.range (N*j.size))=(Array.range (N*j.size)).map λi=>zv.cells[i%zv.cells.size]! :=by
      intro E h0 h1;by_cases W:N*j.size=0
      ·rw [W];simp
      ·rw [h1 W]
     refine RW aBl hf hs hn (arr:=_) (el:=e) vj ?_ (A _ _ _ Y);simp only [execOp,q,Instr.makeSlice,aa3,va.run_underlying w,M,aaX,v0,v1,asInt,asIntOf,acH,vm,v3,v4,v2];rw [if_neg ae];simp only [aa3,acH,aaX,run_askRoom,I.run_sizeOf w,aoS,newRow,run_newObj];by_cases W:N*j.size=0
     ·simp only [W,if_true,acH,aaX,aa3,run_newObj];rw [show Array.range 0= #[]from rfl,Array.map_empty,Array.map_empty]
     ·simp only [W,if_false,acH,aaX,aa3,Q,run_newObj]
    ·cases D
 case P2=>
  cases q:o.op<;>simp only [ef,q,ab2]at d;rename_i t r;cases r with
  |some _=>cases d
  |none=>
   simp only [aW,akU,Prod.mk.injEq]at D;obtain⟨rfl,rfl⟩:=D;have vo:AB.Rel tab ρ (.map []) (.map #[] 0) ⟨0,0⟩:=⟨#[],0,rfl,trivial⟩;obtain⟨h1,h2⟩:=hs.new hn vo;refine⟨_,.map (some w.heap.size),_,_, ?_,.inl rfl,⟨_,pZ.kL _ _ _,rfl,λb s hb=>by cases hb;rfl⟩,h1,h2⟩;simp only [execOp,q,avL,Instr.makeMap,aa3,acH,aaX,run_newObj]
end
def ph:Array Value->Nat->List Value->Array Value
 |b,_,[]=>b
 |b,o,v::vs=>ph (b.setIfInBounds o v) (o+1) vs
theorem TK: ∀vs arr o,(ph arr o vs).size=arr.size
 | [],_,_=>rfl
 |v::vs,arr,o=>by simp [ph,TK vs]
theorem F4: ∀vs arr o i,i<o->(ph arr o vs)[i]? =arr[i]?
 | [],_,_,_,_=>rfl
 |v::vs,arr,o,i,h=>by
  rw [ph,F4 vs _ _ _ aa,Array.getElem?_setIfInBounds,if_neg aa]
theorem ON: ∀vs arr o j v,o+vs.length<=arr.size->vs[j]? =some v->(ph arr o vs)[o+j]? =some v
 | [],_,_,_,_,_,h=>by simp at h
 |x::vs,arr,o,0,v,b,h=>by
  simp at h;subst h;rw [Nat.add_zero,ph,F4 _ _ _ _ aa,Array.getElem?_setIfInBounds,if_pos rfl,if_pos (by simp at b;omega)]
 |x::vs,arr,o,j+1,v,b,h=>by
  rw [ph,show o+(j+1)=(o+1)+j by omega];exact ON vs _ _ j v (by simp at b⊢;omega) (by simpa using h)
def azF (v:Value):Prop:=(∀c,v≠ .agg c)/\(∀c,v≠ .tuple c)
theorem anV: ∀ {aCL} {vs},ca ρ aCL vs->aB aCL=true-> ∀v∈vs,azF v
 | [],[],_,_,v,r=>by cases r
 |a::aCL,x::vs,q,h,v,r=>by
  have j:aB aCL=true:=by cases a<;>first |exact h |(simp [aB]at h;done)
  rcases List.mem_cons.1 r with rfl |r
  ·have d:=q.1;cases a with
   |agg c=>simp [aB]at h
   |tuple c=>simp [aB]at h
   |ptr p=>
         rcases p with _ |⟨i,o⟩
         ·have:v= .pointer none:=d;subst this;exact⟨λ_ e=>(by cases e),λ_ e=>(by cases e)⟩
         ·obtain⟨m,_,u,rfl,_⟩:=d;exact⟨λ_ e=>(by cases e),λ_ e=>(by cases e)⟩
   |slice p _ _ _=>
             rcases p with _ |⟨i,o⟩
             ·obtain⟨rfl,_⟩:=d;exact⟨λ_ e=>(by cases e),λ_ e=>(by cases e)⟩
             ·obtain⟨m,_,u,A,rfl,_⟩:=d;exact⟨λ_ e=>(by cases e),λ_ e=>(by cases e)⟩
   |map p=>
         rcases p with _ |i
         ·have:v= .map none:=d;subst this;exact⟨λ_ e=>(by cases e),λ_ e=>(by cases e)⟩
         ·obtain⟨m,_,u,_⟩:=d;exact⟨λ_ e=>(by subst e;simp [UR]at u),λ_ e=>(by subst e;simp [UR]at u)⟩
   |func g y z=>obtain⟨_,_,rfl,_⟩:=d;exact⟨λ_ e=>(by cases e),λ_ e=>(by cases e)⟩
   |yield l=>obtain⟨m,_,u,rfl,_⟩:=d;exact⟨λ_ e=>(by cases e),λ_ e=>(by cases e)⟩
   |iface t y=>obtain⟨_,rfl,_⟩:=d;exact⟨λ_ e=>(by cases e),λ_ e=>(by cases e)⟩
   |int k n=>have:v= .int k n:=d;subst this;exact⟨λ_ e=>(by cases e),λ_ e=>(by cases e)⟩
   |bool b=>have:v= .bool b:=d;subst this;exact⟨λ_ e=>(by cases e),λ_ e=>(by cases e)⟩
   |str s=>have:v= .string _:=d;subst this;exact⟨λ_ e=>(by cases e),λ_ e=>(by cases e)⟩
   |nilFunc=>have:v= .nilFunc:=d;subst this;exact⟨λ_ e=>(by cases e),λ_ e=>(by cases e)⟩
   |nilIface=>have:v= .nilIface:=d;subst this;exact⟨λ_ e=>(by cases e),λ_ e=>(by cases e)⟩
  ·exact anV q.2 j v r
 | [],_::_,q,_,_,_=>q.elim
 |_::_,[],q,_,_,_=>q.elim
theorem aiC (h:w.heap[b]? =some (.cells arr el fr)) o v:
  w.setCell ⟨b,o,none⟩ v=qZ w b (.cells (arr.setIfInBounds o v) el fr):=by
 simp only [World.setCell,qZ];congr 1;apply Array.ext_getElem?;intro i;rw [Array.getElem?_modify,Array.getElem?_setIfInBounds];by_cases e:b=i
 ·subst e;have c:=(Array.getElem?_eq_some_iff.1 h).1;rw [h,if_pos rfl,if_pos rfl,if_pos c];rfl
 ·simp [e]
theorem Ir: ∀vs i w arr,w.heap[b]? =some (.cells arr el fr)->o+i+vs.length<=arr.size->alX fr arr.size->
  (∀v∈vs,azF v)->(storeCells ⟨b,o,none⟩ vs i).run P w= .ok () (qZ w b (.cells (ph arr (o+i) vs) el fr))
 | [],i,w,arr,h,_,_,_=>by simp only [storeCells,acH,ph,agK w b _ h]
 |v::vs,i,w,arr,h,l,n,d=>by
  have c:o+i<arr.size:=by simp at l;omega
  have p:w.cell? ⟨b,o+i,none⟩=some arr[o+i]:=by rw [ajc h];simp [c]
  have j:w.frozen? ⟨b,o+i,none⟩=false:=by
   rw [arY h];have:=n (o+i) c;simp only [Bool.and_eq_false_iff,decide_eq_false_iff_not];omega
  have k:(store ((⟨b,o,none⟩:Addr).add i) v).run P w= .ok () (qZ w b (.cells (arr.setIfInBounds (o+i) v) el fr)):=by
   rw [R3];have q:=(d v ab).1;have r:=(d v ab).2;rw [<-aiC h (o+i) v];cases v<;>first |(simp only [store,ase,p,j];rfl) |exact absurd rfl (q _) |exact absurd rfl (r _)
  have s:(qZ w b (.cells (arr.setIfInBounds (o+i) v) el fr)).heap[b]? =some (.cells (arr.setIfInBounds (o+i) v) el fr):=by
   rw [rM _ _ _ _ (gl h)];simp
  have t:=Ir (P:=P) (o:=o) vs (i+1) _ _ s (by simp at l⊢;omega) (by simpa using n) (λx u=>d x (by simp [u]));simp only [storeCells,aa3,k,aaX];rw [t,aq1,ph,show o+(i+1)=o+i+1 by omega]
theorem l8.set (h:l8 ρ c j arr fr s) (k:o<c.length) (l:bT ρ x v):
  l8 ρ (c.set o x) j (arr.setIfInBounds (o+s.s) v) fr s:=by
 refine⟨by simp [h.size],by simpa using h.fit,λi y b=> ?_,h.free⟩;rw [List.getElem?_set]at b;rw [Array.getElem?_setIfInBounds];by_cases e:o=i
 ·subst e;simp only [if_true,k]at b;cases b;have:o+s.s<arr.size:=by have:=h.fit;rw [h.size];omega
  exact⟨v,by simp [this],l⟩
 ·simp only [e,if_false]at b;obtain⟨z,n,d⟩:=h.get i y b;exact⟨z,by rw [if_neg aa];exact n,d⟩
theorem l8.write: ∀ {aCL} {vs} {c} {arr} {o},l8 ρ c j arr fr s->o+aCL.length<=c.length->ca ρ aCL vs->
  l8 ρ (bu c o aCL) j (ph arr (o+s.s) vs) fr s
 | [],[],_,_,_,h,_,_=>h
 |a::aCL,v::vs,c,arr,o,h,d,b=>by
  simp only [bu,ph];have:=l8.write (aCL:=aCL) (vs:=vs) (o:=o+1) (h.set (o:=o) (by simp at d;omega) b.1) (by simp at d⊢;omega) b.2;rwa [show o+1+s.s=o+s.s+1 by omega]at this
 | [],_::_,_,_,_,_,_,b=>b.elim
 |_::_,[],_,_,_,_,_,b=>b.elim
section
variable {P:Program} {tab:Fu} {ρ:pZ} {H H':AH} {w:World} (hs:vR tab ρ H w)
include hs
theorem aa8 (h:bd H (i,o) aCL=some H') (p:ca ρ aCL vs):
  ∃b s,ρ i=some (some (b,s))/\ ∃w',(storeCells ⟨b,o+s.s,none⟩ vs).run P w= .ok () w'/\vR tab ρ H' w'/\Gu ρ H w ρ H' w':=by
 simp only [bd]at h;cases d:H.get i with
 |none=>rw [d]at h;cases h
 |some y=>
  rw [d]at h;cases y with
  |cells c z q=>
   cases z with
   |true=>cases h
   |false=>
    obtain⟨r,A⟩:=bF h;cases A;simp only [ae7,al9]at r;obtain⟨b,s,t⟩:=hs.live d;obtain⟨j,u,v,D,k,E⟩:=hs.adw d t;have F:=p.length;have x:=k.fit;have l:=Ir (P:=P) (b:=b) (o:=o+s.s) (el:=u) (fr:=v) vs 0 w j D (by rw [k.size,F];omega) (by rw [k.size];exact k.free rfl) (anV p r.2);have n:=hs.upd (ob':= .cells (bu c o aCL) false q) (o':= .cells (ph j (o+s.s) vs) u v) (λ_ e=>by cases e) d t ⟨_,_,_,rfl,k.write r.1 p,E⟩;exact⟨b,s,t,_,l,n.1,n.2⟩
  |map=>cases h
  |loop=>cases h
end
section
variable {P:Program} {tab:Fu} (aBl:yA P tab) {ρ:pZ} {f:AF} {a:Act} (hf:yE ρ f a.tmps) {H H':AH} {w:World} (hs:vR tab ρ H w) {o:Oper} {cv:CV}
include aBl hf hs
theorem ar6 (c:ef tab o (.store n x y)=true) (d:aZ cv (.store n x y) f H=some (v,H')):sK P tab ρ H w (execOp a.eval o) v H':=by
 cases h:o.op<;>simp only [ef,h,ab2]at c;rename_i t Y K;cases l:tab.get t with
 |none=>rw [l]at c;cases c
 |some i=>
  rw [l]at c;simp only [ae7]at c;obtain⟨⟨q,r⟩,u⟩:=c;have L:n=i.size:=by simpa [agl]using q
  have F:=(cI r).ev hf;have G:=(cI u).ev hf;have z:=aBl _ _ l;simp only [aZ]at d;cases j:f.ev x with
  |ptr p=>
   rw [j]at d F;rcases p with _ |⟨M,N⟩
   ·cases d
   ·simp only at d;obtain⟨O,k⟩:=bF d;cases A:bd H (M,N) (cellsOf (f.ev y))with
    |none=>rw [A]at k;cases k
    |some Z=>
     rw [A]at k;cases k;obtain⟨b,s,Q,R,S,T,U⟩:=aa8 (P:=P) hs A G.cells;obtain⟨m,I,ad,V,W⟩:=F;rw [Q]at I;cases I;have D:=W b s rfl;have E:(a.eval K).cells.size=i.size:=by
      rw [<-ahG,G.cells.length,<-L];simpa [agl]using O
     refine⟨.skip,undef,R,ρ, ?_,.inr ⟨rfl,rfl⟩,bT.undef,T,U⟩;simp only [execOp,h,Instr.storeAt,aa3,V,Instr.sureAddr,acH,aaX,storeVar,z.run_sizeOf w,E,ne_eq,not_true,if_false];rw [D,S];rfl
  |_=>rw [j]at d;cases d
end
theorem aht (t:bT ρ k k') (c:bT ρ l d) (j:C7 n k=true) (p:aaU n u=true) (b:LU k l=some q):
  azh u k' d=some q/\(q=true->d=k'):=by
 cases u<;>simp only [aaU,ab2]at p
 ·have:n=false:=by simpa using p
  subst this;cases k<;>simp only [C7,ab2]at j;cases l<;>simp only [LU]at b<;>try (cases b;done)
  obtain⟨v,x⟩:=bF b;cases x;have:=IntKind.dG v;subst this;have r:=bT.PS t;have s:=bT.PS c;rw [r,s];refine⟨by simp only [azh,if_true,jm],λh=> ?_⟩;rw [Int.dG h]
 ·have:n=true:=by simpa using p
  subst this;cases k<;>simp only [C7,ab2]at j;cases l<;>simp only [LU]at b<;>try (cases b;done)
  cases b;have r:=bT.OA t;have s:=bT.OA c;rw [r,s];refine⟨by simp only [azh,qM,bytes_beq],λh=> ?_⟩;rw [dZ.1 h]
theorem Wa (x:bT ρ k k') (y:bT ρ v F) (n:C7 L k=true) (G:aaU L u=true):
  ∀p c i d,Ck ρ p c->K8 k v p=some d->
   (anp u k' c i=some none/\ ∀born,Ck ρ d (c++ [{key:=k',val:=F,born:=born}]))\/
   (∃j e,anp u k' c i=some (some (i+j,e.val))/\c[j]? =some e/\e.key=k'/\Ck ρ d (c.modify j λe=> {e with key:=k',val:=F}))
 | [],[],i,d,_,h=>by
  simp [K8]at h;subst h;exact .inl ⟨rfl,λ_=>⟨x,y,trivial⟩⟩
 |(M,R)::p,e::c,i,d,s,h=>by
  obtain⟨z,I,K⟩:=s;simp only [K8]at h;cases A:LU k M with
  |none=>rw [A]at h;cases h
  |some q=>
   rw [A]at h;obtain⟨l,t⟩:=aht x z n G A;cases q with
   |true=>
    simp at h;subst h;exact .inr ⟨0,e,by simp [anp,l],rfl,t rfl,⟨x,y,K⟩⟩
   |false=>
    simp only at h;cases hs:K8 k v p with
    |none=>rw [hs]at h;cases h
    |some r=>
     rw [hs]at h;cases h;rcases Wa x y n G p c (i+1) r K hs with⟨D,E⟩ |⟨j,N,D,E,O,Q⟩
     ·exact .inl ⟨by simp [anp,l,D],λb=>⟨z,I,E b⟩⟩
     ·exact .inr ⟨j+1,N,by simp [anp,l,D];omega,by simpa using E,O,⟨z,I,Q⟩⟩
 | [],_::_,_,_,s,_=>s.elim
 |_::_,[],_,_,s,_=>s.elim
theorem Wi (y:bT ρ k k') (l:C7 F k=true) (z:aaU F u=true):
  ∀n b i c,Ck ρ n b->delKey k n=some c->
   (anp u k' b i=some none/\Ck ρ c b)\/
   (∃j e,anp u k' b i=some (some (i+j,e))/\Ck ρ c (b.eraseIdx j))
 | [],[],i,c,_,h=>by
  simp [delKey]at h;subst h;exact .inl ⟨rfl,trivial⟩
 |(G,K)::n,e::b,i,c,p,h=>by
  obtain⟨s,A,D⟩:=p;simp only [delKey]at h;cases t:LU k G with
  |none=>rw [t]at h;cases h
  |some q=>
   rw [t]at h;obtain⟨d,E⟩:=aht y s l z t;cases q with
   |true=>
    simp at h;subst h;exact .inr ⟨0,e.val,by simp [anp,d],by simpa using D⟩
   |false=>
    simp only at h;cases hs:delKey k n with
    |none=>rw [hs]at h;cases h
    |some r=>
     rw [hs]at h;cases h;rcases Wi y l z n b (i+1) r D hs with⟨v,x⟩ |⟨j,I,v,x⟩
     ·exact .inl ⟨by simp [anp,d,v],⟨s,A,x⟩⟩
     ·exact .inr ⟨j+1,I,by simp [anp,d,v];omega,⟨s,A,by simpa using x⟩⟩
 | [],_::_,_,_,p,_=>p.elim
 |_::_,[],_,_,p,_=>p.elim
theorem avf (c:bT ρ k k') (b:C7 h k=true): ∃d,MapKept.IsKey d k':=by
 cases h<;>cases k<;>simp [C7]at b
 ·rename_i j n;have:=bT.PS c;subst this;exact⟨.int j,rfl⟩
 ·have:=bT.OA c;subst this;exact⟨.string,trivial⟩
section
variable {P:Program} {tab:Fu} (aBl:yA P tab) {ρ:pZ} {f:AF} {a:Act} (hf:yE ρ f a.tmps) {H H':AH} {w:World} (hs:vR tab ρ H w) {o:Oper} {cv:CV}
include aBl hf hs
theorem as9 (S:P.underlying t=some (.map kt e)) (L:tab.get kt=some ik) (M:aaU U ik.u=true)
  (V:bT ρ (.map (some r)) W) (G:bT ρ k k') (Y:bT ρ v N) (q:C7 U k=true) (I:H.get r=some (.map T)) (h:K8 k v T=some n):
  ∃w',(Instr.mapUpdate t W k' N).run P w= .ok () w'/\vR tab ρ (H.set r (some (.map n))) w'/\Gu ρ H w ρ (H.set r (some (.map n))) w':=by
 obtain⟨b,s,A⟩:=hs.live I;obtain⟨m,D,rr,E,O⟩:=V.W6 A;rw [A]at D;cases D;have Q:=O b s rfl;subst Q;obtain⟨Z,l,x,c,z,F⟩:=hs.at_ I A;subst z;obtain⟨d,hd⟩:=avf G q;have y:=(aBl _ _ L).1;rcases Wa G Y q M T x.toList 0 n F h with⟨K,R⟩ |⟨j,en,K,R,g3,g4⟩
 ·have p:=hs.upd (ob':= .map n) (o':= .map (x.push {key:=k',val:=N,born:=c}) (c+1)) (λ_ e=>by cases e) I A ⟨_,_,rfl,by simpa using R c⟩;refine⟨_, ?_,p.1,p.2⟩;simp only [Instr.mapUpdate,aa3,run_underlying S,aaX,E,ao9 l,yV (P:=P) (w:=w) y G q M,avO (P:=P) (w:=w) y K];rw [axJ _ l];rfl
 ·have p:=hs.upd (ob':= .map n) (o':= .map (x.modify j λe=> {e with key:=k',val:=N}) c) (λ_ e=>by cases e) I A ⟨_,_,rfl,by simpa [Array.toList_modify]using g4⟩;refine⟨_, ?_,p.1,p.2⟩;have hj:x[j]? =some en:=by simpa using R
  simp only [aya]at K;simp only [Instr.mapUpdate,aa3,run_underlying S,aaX,E,ao9 l,yV (P:=P) (w:=w) y G q M,avO (P:=P) (w:=w) y K,
   hj,axD,Option.getD_some,g3,MapKept.run_keyThatStays hd]
  rw [axJ _ l];rfl
theorem as3 (b:ef tab o (.Q4 K m k x)=true) (c:aZ cv (.Q4 K m k x) f H=some (v,H')):sK P tab ρ H w (execOp a.eval o) v H':=by
 have q: ∀(t:TypeId) (d h j:Operand),(match tab.get t with
    |some i=>(match i.u with
     | .map kt e=>(match tab.get kt with |some L=>aaU K L.u&&uU m d&&uU k h&&uU x j |none=>false)
     |_=>false)
    |none=>false)=true->(execOp a.eval o=do Instr.mapUpdate t (a.eval d) (a.eval h) (a.eval j);pure .skip)->sK P tab ρ H w (execOp a.eval o) v H':=by
  intro t d h j b M;cases D:tab.get t with
  |none=>rw [D]at b;cases b
  |some i=>
   rw [D]at b;simp only at b;have E:=aBl _ _ D;cases s:i.u<;>rw [s]at b<;>simp only [ab2]at b;rename_i kt e;cases l:tab.get kt with
   |none=>rw [l]at b;cases b
   |some L=>
    rw [l]at b;simp only [ae7]at b;obtain⟨⟨⟨N,O⟩,Q⟩,R⟩:=b;have y:=(cI O).ev hf;have F:=(cI Q).ev hf;have G:=(cI R).ev hf;simp only [aZ]at c;cases z:f.ev m with
    |map r=>
     rw [z]at c y;cases r with
     |none=>cases c
     |some r=>
      simp only at c;cases I:H.get r with
      |none=>rw [I]at c;cases c
      |some S=>
       rw [I]at c;cases S with
       |map T=>
        simp only at c;obtain⟨U,A⟩:=bF c;cases n:K8 (f.ev k) (f.ev x) T with
        |none=>rw [n]at A;cases A
        |some V=>
         rw [n]at A;cases A;obtain⟨W,Y,Z,g3⟩:=as9 aBl hf hs (by rw [E.1,s]) l N y F G U I n;refine⟨.skip,undef,W,ρ, ?_,.inr ⟨rfl,rfl⟩,bT.undef,Z,g3⟩;rw [M];simp only [aa3,Y,aaX,acH]
       |cells=>cases c
       |loop=>cases c
    |_=>rw [z]at c;cases c
 cases p:o.op<;>simp only [ef,p,ab2]at b
 ·rename_i t d h j;exact q t d h j b (by simp only [execOp,p])
 ·rename_i t d h j;exact q t d h j b (by simp only [execOp,p])
theorem avV (d:ef tab o (.del ks m k)=true) (l:aZ cv (.del ks m k) f H=some (v,H')):sK P tab ρ H w (execOp a.eval o) v H':=by
 simp only [ef]at d;split at d
 ·rename_i c L;split at d
  ·rename_i m' k' t ts x z M;cases Z:tab.get t with
   |none=>rw [Z]at d;cases d
   |some i=>
    rw [Z]at d;simp only at d;have va:=aBl _ _ Z;cases N:i.u<;>rw [N]at d<;>simp only [ab2]at d;rename_i kt e;cases A:tab.get kt with
    |none=>rw [A]at d;cases d
    |some ik=>
     rw [A]at d;simp only [ae7]at d;obtain⟨⟨hu,hm⟩,hk⟩:=d;have O:=(cI hm).ev hf;have D:=(cI hk).ev hf;have y:c.args= #[m',k']:=by rw [<-ajC];exact z
     have Q:c.argTypes[0]? =some t:=by rw [<-Array.getElem?_toList,M];rfl
     simp only [aZ]at l;cases R:f.ev m with
     |map r=>
      rw [R]at l O;cases r with
      |none=>cases l
      |some r=>
       simp only at l;cases K:H.get r with
       |none=>rw [K]at l;cases l
       |some ob=>
        rw [K]at l;cases ob with
        |map es=>
         simp only at l;obtain⟨h1,W⟩:=bF l;cases E:delKey (f.ev k) es with
         |none=>rw [E]at W;cases W
         |some F=>
          rw [E]at W;cases W;obtain⟨b,s,S⟩:=hs.live K;obtain⟨mm,T,rr,hv,vc⟩:=O.W6 S;rw [S]at T;cases T;have vd:=vc b s rfl;subst vd;obtain⟨ve,h,G,n,I,U⟩:=hs.at_ K S;subst I;have q:=(aBl _ _ A).1;have V:P.underlying t=some (.map kt e):=by rw [va.1,N]
          rcases Wi D h1 hu es G.toList 0 F U E with⟨Y,g2⟩ |⟨j,en,Y,g2⟩
          ·have p:=hs.upd (ob':= .map F) (o':= .map G n) (λ_ e=>by cases e) K S ⟨_,_,rfl,g2⟩;refine⟨_,.tuple #[],_,ρ, ?_,.inl rfl,⟨_,rfl,trivial⟩,p.1,p.2⟩;simp only [execOp,L,resolve,x,aa3,acH,aaX,invoke,builtin,y,Builtin.delete_,Q];simp only [ayA,azg,List.map_nil,List.getElem?_toArray,List.getElem?_cons_zero,List.getElem?_cons_succ,aa3,run_underlying V,aaX,hv,ao9 h,yV (P:=P) (w:=w) q D h1 hu,avO (P:=P) (w:=w) q Y];rw [axJ _ h];rfl
          ·have p:=hs.upd (ob':= .map F) (o':= .map (G.eraseIdxIfInBounds j) n) (λ_ e=>by cases e) K S ⟨_,_,rfl,by simpa [Array.toList_eraseIdxIfInBounds]using g2⟩;refine⟨_,.tuple #[],_,ρ, ?_,.inl rfl,⟨_,rfl,trivial⟩,p.1,p.2⟩;simp only [aya]at Y;simp only [execOp,L,resolve,x,aa3,acH,aaX,invoke,builtin,y,Builtin.delete_,Q];simp only [ayA,azg,List.map_nil,List.getElem?_toArray,List.getElem?_cons_zero,List.getElem?_cons_succ,aa3,run_underlying V,aaX,hv,ao9 h,yV (P:=P) (w:=w) q D h1 hu,avO (P:=P) (w:=w) q Y];rw [axJ _ h];rfl
        |cells=>cases l
        |loop=>cases l
     |_=>rw [R]at l;cases l
  ·cases d
 ·cases d
end
theorem Sc {a b:Nat} (h: ¬a<=b):aiv a b=false:=by
 cases c:aiv a b with
 |false=>rfl
 |true=>exact absurd (ax0 c) h
theorem beq_false {a b:Nat} (h: ¬a=b):acK a b=false:=by
 cases c:acK a b with
 |false=>rfl
 |true=>simp_all
section
variable {P:Program} {tab:Fu} {ρ:pZ} {H H':AH} {w:World} (hs:vR tab ρ H w)
include hs
theorem G1 (j:bT ρ x x') (t:ja x=some l) (N:n<=l) (h:eu H d x n=some cs):
  ∃vs,(akF d n x').run P w= .ok vs w/\ca ρ cs vs.toList:=by
 cases x with
 |slice p A D O=>
  rcases p with _ |⟨i,o⟩
  ·obtain⟨rfl,_,_⟩:=j;obtain⟨E,u⟩:=bF h;cases u;exact⟨#[],rfl,trivial⟩
  ·obtain⟨m,v,Q,F,rfl,E,u,R,G⟩:=j;simp [ja,akU]at t;obtain⟨b,s,y⟩:=GQ hs h;rw [y]at v;cases v;obtain⟨c,k⟩:=hs.ai3 h y;by_cases I:0<F
   ·have q:=(G b s rfl I).1;subst q;obtain⟨vs,K,L⟩:=zX c k;exact⟨vs,K,L⟩
   ·have r:n=0:=aa
    subst r;rw [Nat.zero_mul]at c;have:=awZ.1 c;subst this;exact⟨#[],by simp [akF,loadCells,loadCellsFrom],trivial⟩
 |str z=>
  have M:=bT.OA j;subst M;simp only [eu,akU]at h;subst h;refine⟨_,rfl, ?_⟩;have:(((⟨z.toArray⟩:ByteArray).extract 0 n).data.map λb=>arN .u8 b.toNat).toList=(z.take n).map λb=>arN .u8 b.toNat:=by
   simp_all
  rw [this];exact ca.az5 (λb:UInt8=>AV.int .u8 (ahd b.toNat)) (λb=>arN .u8 b.toNat) (λ_=>rfl) _
 |_=>simp [ja]at t
theorem abg (c:bT ρ x x') (b:ja x=some l):(Builtin.lenOf x').run P w= .ok l w:=by
 cases x with
 |slice p d j n=>
  simp [ja,akU]at b;subst b;rcases p with _ |⟨i,o⟩
  ·obtain⟨rfl,h,_⟩:=c;rw [h];rfl
  ·obtain⟨m,q,r,s,rfl,_⟩:=c;rfl
 |str t=>
  have k:=bT.OA c;subst k;simp [ja,akU]at b;subst b;rfl
 |_=>simp [ja]at b
theorem NI (h:bd H (i,o) aCL=some H') (c:ca ρ aCL vs)
  (l: ∀b s,ρ i=some (some (b,s))->aCL≠ []->ad=⟨b,o+s.s,none⟩):
  ∃w',(storeCells ad vs).run P w= .ok () w'/\vR tab ρ H' w'/\Gu ρ H w ρ H' w':=by
 obtain⟨b,s,n,w',d,j,k⟩:=aa8 hs h c;refine⟨w', ?_,j,k⟩;cases aCL with
 |nil=>cases vs with
  |nil=>exact d
  |cons=>exact c.elim
 |cons a aCL=>simp_all
end
theorem aof w o o':qZ (n9 w o) w.heap.size o'=n9 w o':=by
 show({w with heap:=(w.heap.push o).setIfInBounds w.heap.size o'} :World)= {w with heap:=w.heap.push o'};congr 1;grind
theorem Wd (h:w.heap[b]? =some (.cells arr e)):
  (markStringish ⟨b,o,none⟩).run P w= .ok () (qZ w b (.cells arr e (arr.size,arr.size+1))):=by
 have c:w.freeze {block:=b,off:=arr.size} 1=qZ w b (.cells arr e (arr.size,arr.size+1)):=by
  simp only [World.freeze];rw [if_neg aa];congr 1;grind
 simp [markStringish,aa3,shape,ase,World.shape?,h,aaX,freeze,c]
theorem aaC (r:P.underlying t=some (.slice e)) (s:(∃p,P.underlying u=some (.slice p))\/P.underlying u=some .string)
  (k:(sizeOf e).run P w= .ok b w) (v:(Builtin.lenOf x').run P w= .ok n w) (hf:(akF b n x').run P w= .ok vs w) (q:j+n<=c)
  (x:match base with |none=>w'=w |some a=>(storeCells (a.add (j*b)) vs.toList).run P w= .ok () w'):
  (ap3 #[t,u] ty #[.slice base j c,x']).run P w= .ok (.slice base (j+n) c) w':=by
 have y: ∃d,(underlying u).run P w= .ok d w/\(match d with | .int _=>true |_=>false)=false:=by
  rcases s with⟨p,h⟩ |h
  ·exact⟨_,run_underlying h w,rfl⟩
  ·exact⟨_,run_underlying h w,rfl⟩
 obtain⟨d,z,l⟩:=y;simp only [ap3,List.getElem?_toArray,List.getElem?_cons_zero,List.getElem?_cons_succ,aa3,run_underlying r,aaX,k,z];cases d<;>simp only at l<;>
 ·simp only [acH,aaX,ab2,if_false,v,aa3];cases base with
  |none=>simp_all
  |some a=>simp_all
theorem amC {bytes} (F:P.underlying t=some (.slice e))
  (G:(∃D,P.underlying u=some (.slice D))\/P.underlying u=some .string)
  (s: ∀w,(sizeOf e).run P w= .ok l w) (k: ∀w,(typeInfo e).run P w= .ok p w) (I:p.bytes=bytes) (v: ∀w,(zeroValue e).run P w= .ok K w) (L:(Builtin.lenOf x').run P w= .ok n w)
  (hf:(akF l n x').run P {w with drawn:=w.drawn+1} = .ok vs {w with drawn:=w.drawn+1}) (M:(akF l b (.slice base b c)).run P {w with drawn:=w.drawn+1} = .ok old {w with drawn:=w.drawn+1}) (q: ¬b+n<=c)
  (N:(b+n)*bytes<=1099511627776) (O:b+n<=1099511627776):
  ∃j,b+n<=j/\(ap3 #[t,u] ty #[.slice base b c,x']).run P w=
   .ok (.slice (some ⟨w.heap.size,0,none⟩) (b+n) j) (n9 {w with drawn:=w.drawn+1} (.cells (old++vs++ak7 K.cells (j-(b+n))) e)):=by
 have Q: ∃d,(underlying u).run P w= .ok d w/\(match d with | .int _=>true |_=>false)=false:=by
  rcases G with⟨D,h⟩ |h
  ·exact⟨_,run_underlying h w,rfl⟩
  ·exact⟨_,run_underlying h w,rfl⟩
 obtain⟨d,R,x⟩:=Q;refine⟨(Question.appendCap (b+n) c e).cut (w.tape w.drawn (.appendCap (b+n) c e)),by simp [Question.cut], ?_⟩;have y:=growslice_fits (need:=b+n) (old:=c) (bytes:=bytes) aa aa;have E:IntKind.i64.max=9223372036854775807:=rfl;have z: ¬(((b+n:Nat):Int)>IntKind.i64.max/\(False\/p.bytes=0)):=aa
 have r: ¬(Builtin.nextslicecap (b+n) c*p.bytes>2^48):=aj
 have A:(choose (.appendCap (b+n) c e)).run P w= .ok ((Question.appendCap (b+n) c e).cut (w.tape w.drawn (.appendCap (b+n) c e))) {w with drawn:=w.drawn+1} :=by
  rfl
 simp only [ap3,List.getElem?_toArray,List.getElem?_cons_zero,List.getElem?_cons_succ,aa3,run_underlying F,aaX,s,R];cases d<;>simp [Bool.true_eq_false]at x<;>
 ·simp only [acH,aaX,ab2,if_false,L,q,Bool.not_false,aa3,k];rw [if_neg z];simp only [aa3,k,aaX];rw [if_neg r];simp only [aa3,A,aaX,k,run_askRoom,M,hf,v,if_true,newRow,run_newObj,acH]
theorem R8 k n:(asInt (.int k n)).run P w= .ok n w:=rfl
theorem run_freeze (h:w.heap[b]? =some (.cells arr e fr)) (k:n≠0):
  ∃c,(freeze ⟨b,o,none⟩ n).run P w= .ok () (qZ w b (.cells arr e c)):=by
 obtain⟨d,j⟩:=fr;refine⟨if d==j then(o,o+n)else(min d o,max j (o+n)), ?_⟩;show Result.ok () (w.freeze ⟨b,o,none⟩ n)=_;congr 1;simp only [World.freeze];rw [if_neg k];congr 1;grind
theorem Tu: ∀(d:List Int) o c,(∀j x,d[j]? =some x->w.cell? ⟨b,o+j,none⟩=some (.int .u8 x))->
  (Go.loadBytes ⟨b,o,none⟩ c d.length).run P w= .ok (d.foldl (λr n=>r.push (avM n.toNat)) c) w
 | [],o,c,_=>rfl
 |x::d,o,c,h=>by
  have k:=h 0 x rfl;rw [Nat.add_zero]at k;simp only [List.length_cons,Go.loadBytes,aa3,run_load (P:=P) k];exact Tu d (o+1) _ λj y l=>by
   have:=h (j+1) y aj;grind
theorem aju (b:P.cellsOf t=1) (h:o+n<=c):liesAt P P.depth t (c/P.cellsOf t) o t n=true:=by
 have d:P.depth=(2*(P.types.size+Made.depth)+1)+1:=rfl;rw [d,b];simp [liesAt,rowAt,b,sameLayout,h,d,Nat.mod_one]
section
variable {P:Program} {tab:Fu} (aBl:yA P tab) {ρ:pZ} {f:AF} {a:Act} (hf:yE ρ f a.tmps) {H H':AH} {w:World} (hs:vR tab ρ H w) {o:Oper} {cv:CV}
include aBl hf hs
theorem l8.grown {ρ} (h:ca ρ c arr.toList):l8 ρ c false (arr++b) (0,0) ⟨0,(arr++b).size⟩:=by
 have j:arr.size=c.length:=by rw [<-ahG];exact h.length
 refine⟨rfl,by simp [j],λi x k=> ?_,λ_ l _ n=>by simp at n⟩;obtain⟨y,p,q⟩:=h.get i x k;have d:i<arr.size:=by rw [j];exact(List.getElem?_eq_some_iff.1 k).1
 exact⟨y,by rw [Nat.add_zero,Array.getElem?_append_left d];simpa using p,q⟩
theorem ani {bytes} (k:ef tab o (.append e' z bytes s x)=true) (r:aZ cv (.append e' z bytes s x) f H=some (v,H')) (hn:H.next<H'.next->ρ H.next=none):sK P tab ρ H w (execOp a.eval o) v H':=by
 simp only [ef]at k;split at k
 ·rename_i c xg;split at k
  ·rename_i s' x' t u wr wa ws;cases ht:tab.get t with
   |none=>rw [ht]at k;cases k
   |some i=>
    cases wb:tab.get u with
    |none=>rw [ht,wb]at k;cases k
    |some iu=>
     rw [ht,wb]at k;simp only [ae7]at k;obtain⟨wt,k⟩:=k;have xh:=aBl _ _ ht;have wu:=aBl _ _ wb;cases wv:i.u<;>rw [wv]at k<;>simp only [ab2]at k;rename_i e;cases he:tab.get e with
     |none=>rw [he]at k;cases k
     |some j=>
      rw [he]at k;simp only [ae7]at k;obtain⟨⟨⟨⟨⟨hz,hb⟩,ww⟩,xi⟩,xj⟩,xk⟩:=k;have wx:e=e':=(ahv xk).symm;subst wx;have xl:=AV.qn _ _ hz;subst xl;have xm:bytes=j.bytes:=by simpa [agl]using hb
      subst xm;have wc:0<j.size:=by simpa [amL]using ww
      have O:=aBl _ _ he;have wd:=(cI xi).ev hf;have Q:=(cI xj).ev hf;have wy:c.args= #[s',x']:=by rw [<-ajC];exact wa
      have xn:c.argTypes= #[t,u]:=by rw [<-ajC];exact ws
      have M: ∀rv w',(ap3 #[t,u] o.type #[a.eval s',a.eval x']).run P w= .ok rv w'->(execOp a.eval o).run P w= .ok (.value rv) w':=by
       intro rv w' W;simp only [execOp,xg,resolve,wr,aa3,acH,aaX,invoke,builtin,wy,xn];simp [W]
      have vq:P.underlying t=some (.slice e):=by rw [xh.1,wv]
      have ve:(∃e',P.underlying u=some (.slice e'))\/P.underlying u=some .string:=by
       rw [wu.1];cases wz:iu.u<;>rw [wz]at wt<;>(try (cases wt;done))
       ·exact .inr rfl
       ·exact .inl ⟨_,rfl⟩
      obtain⟨zv,xo,w0,xp,_⟩:=O.qS w;have xq:j.zero.length=j.size:=by rw [<-(xp ρ).length,ahG,w0]
      simp only [aZ,ew]at r;cases w1:f.ev s with
      |slice S d vg ex=>
       rw [w1]at r wd;cases Z:ja (f.ev x)with
       |none=>rw [Z]at r;cases r
       |some n=>
        rw [Z]at r;simp only at r;cases T:eu H j.zero.length (f.ev x) n with
        |none=>rw [T]at r;cases r
        |some vh=>
         rw [T]at r;simp only at r;rw [xq]at T r;have vf:=abg (P:=P) hs Q Z;obtain⟨vs,I,vj⟩:=G1 (P:=P) hs Q Z (afK _) T;have vr: ∃A F,a.eval s'= .slice A d F/\vg<=F/\(ex=0->F=vg)/\d<=F/\(S=none->A=none/\F=0/\d=0/\vg=0)/\
           (∀Y K,S=some (Y,K)-> ∃a',A=some a'/\ ∃mm,ρ Y=some mm/\ ∀b s,mm=some (b,s)->0<F->a'=⟨b,K+s.s,none⟩/\(0<ex->K+s.s+F*ex<=s.R)):=by
          rcases S with _ |⟨Y,K⟩
          ·obtain⟨h1,h2,h3⟩:=wd;exact⟨none,0,by rw [h1,h2],aa,λ_=>h3.symm,aa,λ_=>⟨rfl,rfl,h2,h3⟩,λ_ _ h=>by cases h⟩
          ·obtain⟨mm,hm,a',F,h1,h2,h3,h4,h5⟩:=wd;exact⟨some a',F,h1,h3,h4,h2,(λh=>by cases h),λya yb h=>by cases h;exact⟨a',rfl,mm,hm,h5⟩⟩
         obtain⟨A,F,hA,v0,N,xr,v2,vl⟩:=vr;by_cases v3:d+n<=vg
         ·
          rw [show aiv (d+n) vg=true by simpa [al9]using v3]at r;simp only [cond_true]at r;rcases S with _ |⟨Y,K⟩
          ·cases r;obtain⟨rfl,vt,we,wf⟩:=v2 rfl;have wg:n=0:=aa
           refine sK.same hs (y:= .slice none (d+n) F) ?_ ⟨by rw [vt,we,wg],aa,aa⟩;exact M _ _ (by rw [hA];exact aaC (P:=P) (w:=w) (w':=w) vq ve (O.run_sizeOf w) vf I aa rfl)
          ·simp only at r;cases wh:bd H (ba (Y,K) (d*j.size)) vh with
           |none=>rw [wh]at r;cases r
           |some H1=>
            rw [wh]at r;cases r;obtain⟨a',rfl,mm,hm,U⟩:=vl Y K rfl;obtain⟨w',g1,g2,g3⟩:=NI (P:=P) hs (ad:=a'.add (d*j.size)) wh vj (λb s W xs=>by
             simp only [ba]at W⊢;rw [hm]at W;cases W;have vt:0<F:=by
              rcases Nat.eq_zero_or_pos F with h0 |h0
              ·exfalso;apply xs;have wg:n=0:=aa
               have wi:(akF j.size n (a.eval x')).run P w= .ok #[] w:=by
                subst wg;cases wj:f.ev x with
                |slice p l2 c2 e2=>
                 rw [wj]at Q;rcases p with _ |⟨pi,po⟩
                 ·obtain⟨h1,_⟩:=Q;rw [h1];rfl
                 ·obtain⟨_,_,a2,yc,h1,_⟩:=Q;rw [h1];simp [akF,loadCells,loadCellsFrom]
                |str st=>rw [wj]at Q;rw [bT.OA Q];show Result.ok _ w=_;rw [Cb];simp
                |_=>rw [wj]at Z;simp [ja]at Z
               rw [wi]at I;cases I;have:=vj.length;exact awZ.1 (by simpa using this.symm)
              ·exact h0
             rw [(U b s rfl vt).1,MD])
            refine⟨_,.slice (some a') (d+n) F,w',ρ, ?_,.inl rfl,⟨mm,hm,a',F,rfl,aa,v0,N,U⟩,g2,g3⟩;exact M _ _ (by rw [hA];exact aaC (P:=P) (w:=w) (w':=w') vq ve (O.run_sizeOf w) vf I (by omega:d+n<=F) g1)
         ·
          rw [Sc v3]at r;simp only [cond_false]at r;obtain⟨v4,r⟩:=bF r;simp only [ae7,al9]at v4;obtain⟨⟨wk,xt⟩,vu⟩:=v4;have vu:vh.length=n*j.size:=ahv vu;obtain⟨wl,yd,v5,_,xu,_⟩:=O.run_typeInfo w;have vm: ∀w:World,(typeInfo e).run P w= .ok wl w:=λw2=>by
           obtain⟨x7,_,xv,_,_,_⟩:=O.run_typeInfo w2;have h1:P.info? e=some wl:=by
            obtain⟨x8,_,h3,_⟩:=O.2.2;simp [typeInfo,program,aa3,ase,apm,h3,bind,Sem.bind,pure]at v5;rw [h3,v5]
           simp [typeInfo,program,aa3,ase,apm,h1,bind,Sem.bind,pure]
          have w3: ∀w:World,(zeroValue e).run P w= .ok zv w:=λw2=>by
           have h2:=xo;simp only [zeroValue,aa3,vm,aaX]at h2⊢;cases hq:wl.zero with
           |none=>rw [hq]at h2;simp [unsupported,ase]at h2
           |some q=>rw [hq]at h2;simp at h2;subst h2;rfl
          have vk:=hs.drew (w.drawn+1);have va:=Gu.drew ρ H w (w.drawn+1);obtain⟨vv,w4,v6⟩:=G1 (P:=P) vk Q Z (afK _) T;have vc: ∀(L:Option (Nat×Bool)),(∀t z,L=some (t,z)->e=t)-> ∀(c0:Nat) (D:List AV) (l:Array Value) (H0:AH),H0.next=H.next->vR tab ρ H0 {w with drawn:=w.drawn+1} ->Gu ρ H w ρ H0 {w with drawn:=w.drawn+1} ->ca ρ D l.toList->D.length=d*j.size->ρ H.next=none->a.eval s'= .slice A d c0->
            (akF j.size d (.slice A d c0)).run P {w with drawn:=w.drawn+1} = .ok l {w with drawn:=w.drawn+1} -> ¬d+n<=c0->
            sK P tab ρ H w (execOp a.eval o) (.slice (some (H.next,0)) (d+n) (d+n) j.size) (H0.new (.cells (D++vh) false L)):=by
           intro L w5 c0 D l H0 vn xw wi v7 vw E xx xy xz;obtain⟨nc,w6,w7⟩:=amC (P:=P) (w:=w) (ty:=o.type) (base:=A) (c:=c0) vq ve (λw=>O.run_sizeOf w) vm xu w3 vf w4 xy xz wk xt;have wm:ca ρ (D++vh) (l++vv).toList:=by simpa using v7.append v6
           have vo:AB.Rel tab ρ (.cells (D++vh) false L) (.cells (l++vv++ak7 zv.cells (nc-(d+n))) e) ⟨0,(l++vv++ak7 zv.cells (nc-(d+n))).size⟩:=
            ⟨_,_,_,rfl,l8.grown aBl hf hs wm,λt z h=>⟨w5 t z h,λ_=>rfl⟩⟩
           obtain⟨g1,g2⟩:=xw.new (by rw [vn];exact E) vo;refine⟨_,_,_,_,M _ _ (by rw [xx];exact w7),.inl rfl, ?_,g1,wi.trans g2⟩;refine⟨_,by rw [vn];exact pZ.kL _ _ _,⟨w.heap.size,0,none⟩,nc,rfl,w6,w6,λh=>aa,λb s hb _=> ?_⟩;cases hb;refine⟨rfl,λ_=> ?_⟩;have x0:l.size=d*j.size:=by rw [<-ahG,v7.length,vw]
           have x1:vv.size=n*j.size:=by rw [<-ahG,v6.length,vu]
           simp only [Array.size_append,size_zeroCells,x0,x1,w0,<-Nat.add_mul,aya];rw [show d+n+(nc-(d+n))=nc by omega];exact afK _
          rcases S with _ |⟨Y,K⟩
          ·cases r;obtain⟨rfl,vt,we,wf⟩:=v2 rfl;have:=vc (some (e,true)) (λt z h=>by cases h;rfl) F [] #[] H rfl vk va trivial (by simp [we]) (hn ab) hA rfl aa;simpa using this
          ·obtain⟨a',rfl,mm,hm,U⟩:=vl Y K rfl;cases V:H.get Y with
           |none=>simp only [V]at r;cases r
           |some ob=>
            simp only [V]at r;cases ob with
            |map=>cases r
            |loop=>cases r
            |cells cc ro L=>
             cases vd:db H (Y,K) (d*j.size)with
             |none=>rw [vd]at r;cases r
             |some D=>
              rw [vd]at r;simp only at r;obtain⟨wn,r⟩:=bF r;obtain⟨b,sh,W⟩:=hs.live V;rw [W]at hm;cases hm;have vx: ∃l:Array Value,(akF j.size d (.slice (some a') d F)).run P {w with drawn:=w.drawn+1} = .ok l {w with drawn:=w.drawn+1} /\ca ρ D l.toList:=
               G1 (P:=P) vk (x:= .slice (some (Y,K)) d vg ex) ⟨_,W,a',F,rfl,xr,v0,N,U⟩ rfl (afK _) vd
              obtain⟨l,w8,w9⟩:=vx;by_cases v8:ex=0
              ·subst v8;cases r;have ye:=N rfl;exact vc (some (e,true)) (λt z h=>by cases h;rfl) F D l H rfl vk va w9 (hs.ai3 vd W).1 (hn ab) hA w8 aa
              ·rw [beq_false v8]at r wn;cases r;simp only [Bool.false_or,ae7,Bool.not_eq_true']at wn;obtain⟨⟨xa,x2⟩,xb⟩:=wn;have wo:ex=j.size:=ahv xa;subst wo x2;have E:=hn ab;have vp: ∀t z,QH e L=some (t,z)->e=t/\z=false/\ ∃z0,L=some (t,z0):=by
                intro t z h;rcases L with _ |⟨t0,z0⟩
                ·cases h
                ·simp only [QH]at h;obtain⟨h1,h2⟩:=bF h;cases h2;exact⟨(ahv h1).symm,rfl,z0,rfl⟩
               by_cases G:d+n<=F
               ·
                have vz:0<F:=aa
                obtain⟨xc,hR⟩:=U b sh rfl vz;have x3:=hR wc;obtain⟨wp,el,fr,g1,g2,g5⟩:=hs.adw V W;have xd:vs.toList.length=n*j.size:=by rw [vj.length,vu]
                have vw:D.length=d*j.size:=(hs.ai3 vd W).1;have x9:(d+n)*j.size<=F*j.size:=Nat.mul_le_mul_right _ G;have x4:(d+n)*j.size=d*j.size+n*j.size:=Nat.add_mul _ _ _;have x5:=Ir (P:=P) (b:=b) (o:=K+d*j.size+sh.s) (el:=el) (fr:=fr) vs.toList 0 w wp g1 (by rw [g2.size,xd];omega) (by rw [g2.size];exact g2.free rfl) (anV vj xb);have vo:AB.Rel tab ((ρ.put Y none).put H.next (some (b,⟨K+sh.s,sh.R⟩))) (.cells (D++vh) false (QH e L)) (.cells (ph wp (K+d*j.size+sh.s) vs.toList) el fr) ⟨K+sh.s,sh.R⟩:=by
                 have v9:Ext ρ ((ρ.put Y none).put H.next (some (b,⟨K+sh.s,sh.R⟩))):=
                  (Ext.kill ρ Y).trans (Ext.RU (by rw [pZ.Av _ _ (by have:=hs.PU Y _ V;omega)];exact E) _)
                 refine⟨_,_,_,rfl,⟨by rw [TK];exact g2.size, ?_,λq y hq=> ?_,g2.free⟩,λt z h=>by
                  obtain⟨k1,k2,z0,k3⟩:=vp t z h;exact⟨(g5 t z0 k3).1,λh=>by rw [k2]at h;cases h⟩⟩
                 ·have:=vj.length;simp only [List.length_append,vw];omega
                 ·by_cases xe:q<D.length
                  ·rw [List.getElem?_append_left xe]at hq;rw [vw]at xe;rw [F4 _ _ _ _ (by show q+(K+sh.s)<_;omega)];obtain⟨v1,I,wq⟩:=(hs.ai3 vd W).2 q y hq;rw [R3,ajc g1]at I;exact⟨v1,by rw [<-I];congr 1;show q+(K+sh.s)=_;omega,bT.mono v9 _ _ wq⟩
                  ·rw [List.getElem?_append_right aa]at hq;obtain⟨v1,I,wq⟩:=vj.get _ y hq;refine⟨v1, ?_,bT.mono v9 _ _ wq⟩;have:=ON vs.toList wp (K+d*j.size+sh.s) (q-D.length) v1 (by rw [g2.size,xd];omega) I;rw [<-this];congr 1;show q+(K+sh.s)=_;omega
                obtain⟨g3,g4⟩:=hs.move (λ_ e=>by cases e) V W E vo;refine⟨_,.slice (some a') (d+n) F,_,_,M _ _ (by rw [hA];exact aaC (P:=P) (w:=w) vq ve (O.run_sizeOf w) vf I G (by subst xc;show(storeCells ((⟨b,K+sh.s,none⟩:Addr).add (d*j.size)) vs.toList).run P w=_;rw [MD];exact x5)),.inl rfl, ?_,g3,g4⟩;refine⟨_,pZ.kL _ _ _,a',F,rfl,G,G,λh=>aa,λb1 s1 wk _=> ?_⟩;cases wk;exact⟨by rw [xc];simp,λ_=>by simpa using x3⟩
               ·
                obtain⟨x6,xf,_⟩:=vk.at_ V W;obtain⟨d1,d2⟩:=vk.drop (λ_ e=>by cases e) V W (o':=x6);rw [agK _ _ _ xf]at d1 d2;exact vc (QH e L) (λt z h=>(vp t z h).1) F D l (H.set Y none) rfl d1 (va.trans d2) w9 (hs.ai3 vd W).1 E hA w8 G
      |_=>rw [w1]at r;cases r
  ·cases k
 ·cases k
theorem aj3 {bytes} (d:ef tab o (.sL e' z bytes s x)=true) (N:aZ cv (.sL e' z bytes s x) f H=some (v,H')) (hn:H.next<H'.next->ρ H.next=none):sK P tab ρ H w (execOp a.eval o) v H':=by
 simp only [ef]at d;split at d
 ·rename_i c vr;split at d
  ·rename_i s' x' t u Q G R;cases ht:tab.get t with
   |none=>rw [ht]at d;cases d
   |some i=>
    cases I:tab.get u with
    |none=>rw [ht,I]at d;cases d
    |some iu=>
     rw [ht,I]at d;simp only [ae7]at d;obtain⟨S,d⟩:=d;have vt:=aBl _ _ ht;have T:=aBl _ _ I;cases U:i.u<;>rw [U]at d<;>simp only [ab2]at d;rename_i e;cases he:tab.get e with
     |none=>rw [he]at d;cases d
     |some j=>
      rw [he]at d;simp only [ae7]at d;obtain⟨⟨⟨⟨⟨hz,hb⟩,V⟩,vu⟩,vv⟩,vw⟩:=d;have W:e=e':=(ahv vw).symm;subst W;have vx:=AV.qn _ _ hz;subst vx;have vz:bytes=j.bytes:=by simpa [agl]using hb
      subst vz;have K:0<j.size:=by simpa [amL]using V
      have y:=aBl _ _ he;have Y:=(cI vu).ev hf;have v0:=(cI vv).ev hf;have Z:c.args= #[s',x']:=by rw [<-ajC];exact G
      have v1:c.argTypes= #[t,u]:=by rw [<-ajC];exact R
      have L: ∀rv w',(ap3 #[t,u] o.type #[a.eval s',a.eval x']).run P w= .ok rv w'->(execOp a.eval o).run P w= .ok (.value rv) w':=by
       intro rv w' hr;simp only [execOp,vr,resolve,Q,aa3,acH,aaX,invoke,builtin,Z,v1];simp [hr]
      have v2:P.underlying t=some (.slice e):=by rw [vt.1,U]
      have va: ∃k,P.underlying u=some (.int k):=by
       rw [T.1];cases vc:iu.u<;>rw [vc]at S<;>(try (cases S;done));exact⟨_,rfl⟩
      obtain⟨ku,v3⟩:=va;obtain⟨D,v4,vd,ve,_⟩:=y.qS w;have v5:j.zero.length=j.size:=by rw [<-(ve ρ).length,ahG,vd]
      simp only [aZ]at N;split at N
      ·rename_i l0 c0 e0 n v6 v7;obtain⟨E,N⟩:=bF N;cases N;simp only [ae7,al9,amL]at E;obtain⟨⟨v8,wk⟩,v9⟩:=E;rw [v6]at Y;obtain⟨hA,wa,wb⟩:=Y;subst wa wb;obtain⟨k,wc⟩:=v0.ayg v7;obtain⟨p,wl,F,_,vf,_⟩:=y.run_typeInfo w;have l: ∀w:World,(typeInfo e).run P w= .ok p w:=λw2=>by
        have h1:P.info? e=some p:=by
         obtain⟨wj,_,h3,_⟩:=y.2.2;simp [typeInfo,program,aa3,ase,apm,h3,bind,Sem.bind,pure]at F;rw [h3,F]
        simp [typeInfo,program,aa3,ase,apm,h1,bind,Sem.bind,pure]
       have vg: ∀w:World,(zeroValue e).run P w= .ok D w:=λw2=>by
        have O:=v4;simp only [zeroValue,aa3,l,aaX]at O⊢;cases hq:p.zero with
        |none=>rw [hq]at O;simp [unsupported,ase]at O
        |some q=>rw [hq]at O;simp at O;subst O;rfl
       have wd:=hs.drew (w.drawn+1);have M:=Gu.drew ρ H w (w.drawn+1);have A:=hn ab;obtain⟨r,vh,we⟩: ∃r,n<=r/\(choose (.appendCap (0+n) 0 e)).run P w= .ok r {w with drawn:=w.drawn+1} :=
        ⟨(Question.appendCap (0+n) 0 e).cut (w.tape w.drawn (.appendCap (0+n) 0 e)),by simp [Question.cut],by simp [choose,ase,Question.forced]⟩
       have wf:IntKind.i64.wrap (n:Int)=n:=wsX v9;have wg:=growslice_fits (need:=0+n) (old:=0) (bytes:=j.bytes) (by rw [aya];omega) (by rw [aya];omega);have vj:IntKind.i64.max=9223372036854775807:=rfl;have wh: ¬(((0+n:Nat):Int)>IntKind.i64.max/\(True\/p.bytes=0)):=by rw [vj];omega
       have vk: ¬(Builtin.nextslicecap (0+n) 0*p.bytes>2^48):=by rw [vf];omega
       have vl: ¬((n:Int)<0):=aa
       have vm: ¬((n:Int)*p.bytes>2^48):=by
        rw [vf,<-Int.natCast_mul];omega
       have wi: ¬(n*j.size=0):=by
        have:=Nat.mul_pos v8 K;omega
       have vn: ¬(0+n<=0):=aa
       have vo:(ap3 #[t,u] o.type #[a.eval s',a.eval x']).run P w= .ok (.slice (some ⟨w.heap.size,0,none⟩) (0+n) r) (n9 {w with drawn:=w.drawn+1} (.cells (#[]++ak7 D.cells n++ak7 D.cells (r-(0+n))) e)):=by
        rw [hA,wc];simp only [ap3,List.getElem?_toArray,List.getElem?_cons_zero,List.getElem?_cons_succ,aa3,run_underlying v2,aaX,y.run_sizeOf,run_underlying v3,acH,if_true,R8,wf,if_neg vl,l,if_neg vm,aoS,if_neg vn,Bool.not_true,ab2,if_false];rw [if_neg wh];simp only [aa3,l,aaX];rw [if_neg vk];simp only [aa3,we,aaX,l,run_askRoom,akF,acH,if_neg wi,vg,newRow,run_newObj]
       have vp:ca ρ (rep j.zero n) (#[]++ak7 D.cells n).toList:=by simpa using OH (ve ρ) aa n
       have vq:AB.Rel tab ρ (.cells (rep j.zero n) false (some (e,true))) (.cells (#[]++ak7 D.cells n++ak7 D.cells (r-(0+n))) e) ⟨0,(#[]++ak7 D.cells n++ak7 D.cells (r-(0+n))).size⟩:=
        ⟨_,_,_,rfl,l8.grown aBl hf hs vp,λt z h=>by cases h;exact⟨rfl,λ_=>rfl⟩⟩
       obtain⟨g1,g2⟩:=wd.new A vq;refine⟨_,_,_,_,L _ _ vo,.inl rfl, ?_,g1,M.trans g2⟩;rw [aya];refine⟨_,pZ.kL _ _ _,⟨w.heap.size,0,none⟩,r,rfl,vh,vh,λh=>aa,λb s hb _=> ?_⟩;cases hb;refine⟨rfl,λ_=> ?_⟩;simp only [Array.size_append,size_zeroCells,vd,<-Nat.add_mul,aya,v5,List.size_toArray,List.length_nil];rw [show n+(r-n)=r by omega];exact afK _
      ·cases N
  ·cases d
 ·cases d
theorem avA (k:ef tab o (.copy z d s)=true) (l:aZ cv (.copy z d s) f H=some (v,H')):sK P tab ρ H w (execOp a.eval o) v H':=by
 simp only [ef]at k;split at k
 ·rename_i c vd;split at k
  ·rename_i d' s' t ts O E Q;cases ht:tab.get t with
   |none=>rw [ht]at k;cases k
   |some i=>
    rw [ht]at k;simp only [ae7]at k;obtain⟨⟨D,ve⟩,vf⟩:=k;have vg:=aBl _ _ ht;cases R:i.u<;>rw [R]at D<;>simp only [ab2]at D;rename_i e;cases he:tab.get e with
    |none=>rw [he]at D;cases D
    |some j=>
     rw [he]at D;simp only [ae7]at D;have vh:z=j.size:=ahv D.1;have vq:0<j.size:=by simpa [amL]using D.2
     subst vh;have vj:=aBl _ _ he;have F:=(cI ve).ev hf;have n:=(cI vf).ev hf;have S:c.args= #[d',s']:=by rw [<-ajC];exact E
     have vk:c.argTypes[0]? =some t:=by rw [<-Array.getElem?_toList,Q];rfl
     have vl:P.underlying t=some (.slice e):=by rw [vg.1,R]
     simp only [aZ]at l;cases T:f.ev d with
     |slice U x vr ex=>
      rw [T]at l F;cases q:ja (f.ev s)with
      |none=>rw [q]at l;cases l
      |some G=>
       rw [q]at l;simp only at l;have V:cond (aiv G x) G x=Nat.min G x:=by
        show _=min G x;cases hb:aiv G x with
        |true=>rw [cond_true,Nat.min_eq_left (ax0 hb)]
        |false=>
         rw [cond_false,Nat.min_eq_right];apply Nat.le_of_lt;apply Nat.lt_of_not_le;intro h;rw [Nat.ble_eq_true_of_le h]at hb;cases hb
       rw [V]at l;cases r:eu H j.size (f.ev s) (Nat.min G x)with
       |none=>rw [r]at l;cases l
       |some cs=>
        rw [r]at l;simp only at l;obtain⟨vs,y,W⟩:=G1 (P:=P) hs n q (Nat.min_le_left _ _) r;have Y:=abg (P:=P) hs n q;have Z: ∀(A:Option Addr) (N:Nat) (I:World),a.eval d'= .slice A x N->(match A with |none=>I=w |some a=>(storeCells a vs.toList).run P w= .ok () I)->
          (execOp a.eval o).run P w= .ok (.value (goInt (Nat.min G x))) I:=by
         intro A N I hA va;simp only [execOp,vd,resolve,O,aa3,acH,aaX,invoke,builtin,S,Builtin.copy_,vk];simp only [ayA,azg,List.map_nil,List.getElem?_toArray,List.getElem?_cons_zero,List.getElem?_cons_succ,aa3,run_underlying vl,aaX,hA,Y,vj.run_sizeOf w,y];cases A with
         |none=>subst va;simp only [acH,aa3,aaX]
         |some ad=>simp only [aa3,va,aaX,acH]
        rcases U with _ |⟨ai,ao⟩
        ·cases l;obtain⟨K,h2,h3⟩:=F;exact sK.same hs (Z none 0 w (by rw [K,h2]) rfl) rfl
        ·simp only at l;cases L:bd H (ai,ao) cs with
         |none=>rw [L]at l;cases l
         |some H1=>
          rw [L]at l;cases l;obtain⟨mm,hm,a',N,K,h2,h3,h4,vc⟩:=F;obtain⟨I,g1,g2,g3⟩:=NI (P:=P) hs (ad:=a') L W (λb sh hr vm=>by
           rw [hm]at hr;cases hr;have vn:0<N:=by
            rcases Nat.eq_zero_or_pos N with h0 |h0
            ·exfalso;apply vm;have vo:x=0:=aa
             subst vo;rw [Nat.min_zero]at y;have vp:(akF j.size 0 (a.eval s')).run P w= .ok #[] w:=by
              cases M:f.ev s with
              |slice p l2 c2 e2=>
               rw [M]at n;rcases p with _ |⟨pi,po⟩
               ·obtain⟨K,_⟩:=n;rw [K];rfl
               ·obtain⟨_,_,a2,vt,K,_⟩:=n;rw [K];simp [akF,loadCells,loadCellsFrom]
              |str st=>rw [M]at n;rw [bT.OA n];show Result.ok _ w=_;rw [Cb];simp
              |_=>rw [M]at q;simp [ja]at q
             rw [vp]at y;cases y;have:=W.length;exact awZ.1 (by simpa using this.symm)
            ·exact h0
           exact(vc b sh rfl vn).1)
          exact⟨_,_,I,ρ,Z (some a') N I K g1,.inl rfl,rfl,g2,g3⟩
     |_=>rw [T]at l;cases l
  ·cases k
 ·cases k
theorem asd (d:ef tab o (.clear z x)=true) (h:aZ cv (.clear z x) f H=some (v,H')):sK P tab ρ H w (execOp a.eval o) v H':=by
 simp only [ef]at d;split at d
 ·rename_i c D;split at d
  ·rename_i x' t k r E;cases S:tab.get t with
   |none=>rw [S]at d;cases d
   |some i=>
    rw [S]at d;simp only [ae7]at d;obtain⟨l,T⟩:=d;have U:=aBl _ _ S;cases F:i.u<;>rw [F]at l<;>simp only [ab2]at l;rename_i e;cases V:tab.get e with
    |none=>rw [V]at l;cases l
    |some j=>
     rw [V]at l;simp only [ae7]at l;have W:=AV.qn _ _ l.1;have vc:0<j.size:=by simpa [amL]using l.2
     subst W;have Y:=aBl _ _ V;have s:=(cI T).ev hf;have p:c.args= #[x']:=by rw [<-ajC];exact r
     have G:c.argTypes[0]? =some t:=by rw [<-Array.getElem?_toList,E];rfl
     have I:P.underlying t=some (.slice e):=by rw [U.1,F]
     obtain⟨zv,Z,va,K,_⟩:=Y.qS w;have vd:j.zero.length=j.size:=by rw [<-(K ρ).length,ahG,va]
     simp only [aZ]at h;cases L:f.ev x with
     |slice M n ve ex=>
      rw [L]at h s;have q: ∀(A:Option Addr) (n' Q:Nat),a.eval x'= .slice A n' Q->(A=none\/n'=0)->(execOp a.eval o).run P w= .ok (.value (.tuple #[])) w:=by
       intro A n' Q hA h0;simp only [execOp,D,resolve,k,aa3,acH,aaX,invoke,builtin,p,Builtin.clear_,G];simp only [ayA,azg,List.map_nil,List.getElem?_toArray,List.getElem?_cons_zero,List.getElem?_cons_succ,aa3,run_underlying I,aaX,hA];rcases h0 with rfl |rfl
       ·rfl
       ·cases A<;>rfl
      rcases M with _ |⟨ai,ao⟩
      ·cases h;obtain⟨R,h2,h3⟩:=s;exact sK.same hs (q none 0 0 R (.inl rfl)) ⟨_,rfl,trivial⟩
      ·simp only at h;obtain⟨mm,hm,a',Q,R,h2,h3,h4,N⟩:=s;by_cases O:n=0
       ·subst O;cases h;exact sK.same hs (q _ 0 Q R (.inr rfl)) ⟨_,rfl,trivial⟩
       ·rw [beq_false O,cond_false]at h;cases y:bd H (ai,ao) (rep j.zero n)with
        |none=>rw [y]at h;cases h
        |some H1=>
         rw [y]at h;cases h;obtain⟨w',g1,g2,g3⟩:=NI (P:=P) hs (ad:=a') y (OH (K ρ) aa n) (λb sh hr vf=>by
          rw [hm]at hr;cases hr;exact(N b sh rfl aa).1)
         refine⟨_,.tuple #[],w',ρ, ?_,.inl rfl,⟨_,rfl,trivial⟩,g2,g3⟩;obtain⟨n1,rfl⟩: ∃n1,n=n1+1:=⟨n-1,aa⟩;simp only [execOp,D,resolve,k,aa3,acH,aaX,invoke,builtin,p,Builtin.clear_,G];simp only [ayA,azg,List.map_nil,List.getElem?_toArray,List.getElem?_cons_zero,List.getElem?_cons_succ,aa3,run_underlying I,aaX,R,Z,g1,acH]
     |_=>rw [L]at h;cases h
  ·cases d
 ·cases d
theorem alc (k:ef tab o (.conv .CL x)=true) (F:aZ cv (.conv .CL x) f H=some (v,H')) (hn:H.next<H'.next->ρ H.next=none):sK P tab ρ H w (execOp a.eval o) v H':=by
 simp only [ef]at k;split at k
 ·rename_i s d x' L;cases r:tab.get s with
  |none=>rw [r]at k;cases k
  |some i=>
   cases M:tab.get d with
   |none=>rw [r,M]at k;cases k
   |some j=>
    rw [r,M]at k;simp only [ae7]at k;have hx:=(cI k.1).ev hf;have N:=aBl _ _ r;have O:=aBl _ _ M;have t:=k.2;cases hu:i.u<;>rw [hu]at t<;>(try (simp only [ab2]at t;done))<;>
    cases hj:j.u<;>rw [hj]at t<;>(try (simp only [ab2]at t;done));rename_i e;cases Q:tab.get e with
    |none=>simp [Q]at t
    |some l=>
     simp only [Q]at t;have R:P.underlying e=some (.int .u8):=by
      rw [(aBl _ _ Q).1];cases S:l.u<;>rw [S]at t<;>(try (cases t;done));rename_i kk;cases kk<;>(try (cases t;done));rfl
     have T:P.underlying s=some .string:=by rw [N.1,hu]
     have U:P.underlying d=some (.slice e):=by rw [O.1,hj]
     simp only [aZ]at F;cases G:f.ev x with
     |str z=>
      rw [G]at F hx;cases F;have hv:=bT.OA hx;have A:=hn ab;have V:=hs.drew (w.drawn+1);obtain⟨n,E,W⟩: ∃n,z.length<=n/\(choose (.appendCap z.length 0 e)).run P w= .ok n {w with drawn:=w.drawn+1} :=
       ⟨_,Nat.le_add_right _ _,by simp [choose,ase,Question.forced,Question.cut];rfl⟩
      let c:Array Value:=((z.map λb=>arN .u8 b.toNat).toArray++Array.replicate (n-z.length) (.int .u8 0))
      have p:c.size=n:=by simp [c];omega
      have I:AB.Rel tab ρ (.cells (z.map λb=> .int .u8 (ahd b.toNat)) false none) (.cells c e (n,n+1)) ⟨0,n⟩:=by
       refine⟨_,_,_,rfl,⟨p,by simpa using E,λq y K=> ?_,λ_ vd h1 h2=>by simp at h1 h2;omega⟩,.none_⟩;rw [List.getElem?_map]at K;cases D:z[q]? with
       |none=>rw [D]at K;cases K
       |some b0=>
        rw [D]at K;cases K;have Y:=(List.getElem?_eq_some_iff.1 D).1;refine⟨.int .u8 b0.toNat, ?_,rfl⟩;simp only [c,Nat.add_zero];rw [Array.getElem?_append_left (by simpa using Y)];simp [D]
      obtain⟨g1,g2⟩:=V.new A I;refine⟨_,.slice (some ⟨w.heap.size,0,none⟩) z.length n,_,_, ?_,.inl rfl,⟨_,pZ.kL _ _ _,_,n,rfl,E,E,λh=>aa,λb s Z _=> ?_⟩,g1,(Gu.drew ρ H w _).trans g2⟩
      ·simp only [execOp,L,aa3,hv,convert,run_underlying T,run_underlying U,run_underlying R,aaX,Conv.stringToBytes,jI,W,newRow,run_newObj,acH];have va:(({data:=z.toArray} :ByteArray).data.map λb=>arN .u8 (b.toNat:Int))++Array.replicate (n-z.length) (arN .u8 0)=c:=by simp [c]
       rw [va];have Z:(n9 {w with drawn:=w.drawn+1} (.cells c e)).heap[w.heap.size]? =some (.cells c e):=Ot {w with drawn:=w.drawn+1} _;rw [Wd Z,p];have vc:qZ (n9 {w with drawn:=w.drawn+1} (.cells c e)) w.heap.size (.cells c e (n,n+1))=n9 {w with drawn:=w.drawn+1} (.cells c e (n,n+1)):=aof {w with drawn:=w.drawn+1} _ _;rw [vc];rfl
      ·cases Z;exact⟨rfl,λ_=>ab⟩
     |_=>rw [G]at F;cases F
 ·cases k
theorem avh (r:ef tab o (.Qo t p n)=true) (d:aZ cv (.Qo t p n) f H=some (v,H')):sK P tab ρ H w (execOp a.eval o) v H':=by
 simp only [ef]at r;split at r
 ·rename_i c vp;split at r
  ·rename_i p' n' pt wb Z L va;cases G:tab.get pt with
   |none=>rw [G]at r;cases r
   |some i=>
    cases M:tab.get t with
    |none=>rw [G,M]at r;cases r
    |some j=>
     rw [G,M]at r;simp only [ae7]at r;obtain⟨⟨⟨N,vq⟩,vr⟩,vt⟩:=r;have vu:j.size=1:=ahv vq;have vw:=aBl _ _ G;have vx:=aBl _ _ M;cases hu:i.u<;>rw [hu]at N<;>(try (simp only [ab2]at N;done));rename_i e;have vz:e=t:=ahv N;subst vz;have I:=(cI vr).ev hf;have v0:=(cI vt).ev hf;have vc:c.args= #[p',n']:=by rw [<-ajC];exact L
     have O:c.argTypes[0]? =some pt:=by rw [<-Array.getElem?_toList,va];rfl
     have v1:P.cellsOf e=1:=by rw [aeR vx,vu]
     have x: ∀rv w',(Builtin.unsafeString_ c.argTypes o.type #[a.eval p',a.eval n']).run P w= .ok rv w'->(execOp a.eval o).run P w= .ok (.value rv) w':=by
      intro rv w' E;simp only [execOp,vp,resolve,Z,aa3,acH,aaX,invoke,builtin,vc];simp [E]
     have vd:ByteArray.empty=(⟨([]:List UInt8).toArray⟩:ByteArray):=rfl;have Q:(elemOf pt).run P w= .ok e w:=by
      simp only [elemOf,aa3,vw.run_underlying w,hu,aaX,acH]
     simp only [aZ]at d;cases ve:f.ev p with
     |ptr q=>
      rw [ve]at d I;cases R:uK (f.ev n)with
      |none=>rw [R]at d;rcases q with _ |q<;>cases d
      |some m=>
       rw [R]at d;obtain⟨k,S⟩:=v0.ayg R;have vf: ¬((m:Int)<0):=aa
       rcases q with _ |⟨qi,qo⟩
       ·simp only at d;obtain⟨hb,d⟩:=bF d;cases d;have A:m=0:=ahv hb;subst A;have hv:a.eval p'= .pointer none:=I;refine sK.same hs (y:= .string .empty) (x _ _ ?_) rfl;rw [hv,S];show(Bind.bind (asInt (.int k ((0:Nat):Int))) _:Sem Value).run P w=_;rw [aa3,R8,aaX];simp only [O];rfl
       ·simp only at d;by_cases A:m=0
        ·subst A;cases d;obtain⟨mm,T,ad,hv,vg⟩:=I;refine sK.same hs (y:= .string .empty) (x _ _ ?_) rfl;rw [hv,S];show(Bind.bind (asInt (.int k ((0:Nat):Int))) _:Sem Value).run P w=_;rw [aa3,R8,aaX];simp only [O];rfl
        ·rw [beq_false A]at d;simp only [cond_false]at d;cases Y:H.get qi with
         |none=>rw [Y]at d;cases d
         |some ob=>
          rw [Y]at d;cases ob with
          |map=>cases d
          |loop=>cases d
          |cells cc ro el=>
           rcases el with _ |⟨u,z⟩
           ·cases d
           ·simp only at d;obtain⟨hb,vh⟩:=bF d;clear d;have d:=vh;clear vh;simp only [ae7]at hb;have v2:u=e:=ahv hb.1;have wd:m<=1099511627776:=by simpa [al9]using hb.2
            subst v2;cases D:db H (qi,qo) m with
            |none=>rw [D]at d;cases d
            |some F=>
             rw [D]at d;simp only at d;cases U:bytesOf F with
             |none=>rw [U]at d;cases d
             |some l=>
              rw [U]at d;cases d;obtain⟨b,s',E⟩:=hs.live Y;obtain⟨mm,T,ad,hv,vg⟩:=I;rw [E]at T;cases T;have:=vg b s' rfl;subst this;obtain⟨v3,e,fr,h1,V,h3⟩:=hs.adw Y E;obtain⟨he,_⟩:=h3 _ _ rfl;subst he;obtain⟨hl,K⟩:=hs.ai3 D E;have wc:qo+m<=cc.length:=by
               simp only [db,Y]at D;obtain⟨hq,_⟩:=bF D;simpa [al9]using hq
              have v4: ∀(F:List AV) (l:List UInt8),bytesOf F=some l-> ∃W:List Int,F=W.map (AV.int .u8)/\l=W.map λn=>avM n.toNat:=by
               intro F;induction F with
               |nil=>intro l h;simp [bytesOf]at h;subst h;exact⟨[],rfl,rfl⟩
               |cons c F ih=>
                intro l h;cases c with
                |int k n=>
                 cases k<;>try (simp [bytesOf]at h;done)
                 cases n with
                 |ofNat n=>
                  simp only [bytesOf]at h;cases E:bytesOf F with
                  |none=>rw [E]at h;cases h
                  |some l'=>
                   rw [E]at h;cases h;obtain⟨W,h1,V⟩:=ih l' E;exact⟨ahd n::W,by rw [h1];rfl,by rw [V];rfl⟩
                 |negSucc n=>simp [bytesOf]at h
                |_=>simp [bytesOf]at h
              obtain⟨W,vj,v5⟩:=v4 F l U;have v6:W.length=m:=by rw [<-hl,vj];simp
              have vk:=Tu (P:=P) (w:=w) (b:=b) W (qo+s'.s) .empty (λq y hq=>by
               have v7:F[q]? =some (.int .u8 y):=by rw [vj,List.getElem?_map,hq];rfl
               obtain⟨vv,g1,g2⟩:=K q _ v7;rw [R3]at g1;rw [g1,bT.PS g2])
              rw [vd,aoC,List.nil_append,<-v5,v6]at vk;obtain⟨v8,v9⟩:=run_freeze (P:=P) (n:=m) (o:=qo+s'.s) h1 A;have vl:(variablesAt ⟨b,qo+s'.s,none⟩ e m).run P w= .ok true w:=by
               have wa:(program:Sem Program).run P w= .ok P w:=rfl;simp only [variablesAt,aa3,wa,aaX,run_shape h1,acH];rw [aju v1 (by have:=V.size;have:=V.fit;omega)]
              have vm:=hs.upd (ob':= .cells cc true (some (e,z))) (o':= .cells v3 e v8) (λ_ e=>by cases e) Y E ⟨_,_,_,rfl,⟨V.size,V.fit,V.get,λh=>by cases h⟩,h3⟩;refine⟨_,.string ⟨l.toArray⟩,_,ρ,x _ _ ?_,.inl rfl,rfl,vm.1,vm.2⟩;have vn: ¬((m:Int)>IntKind.i64.max):=by
               have:IntKind.i64.max=9223372036854775807:=ah
               rw [this];omega
              have vo: ¬((m:Int)=0):=aa
              rw [hv,S];show(Bind.bind (asInt (.int k (m:Int))) _:Sem Value).run P w=_;rw [aa3,R8,aaX];simp only [O,aa3,acH,aaX,if_neg vf,if_neg vn,if_neg vo,Q,aoS,vl,if_true,vd,vk,v9]
     |_=>rw [ve]at d;cases d
  ·cases r
 ·cases r
theorem aq2 (j: ∀g xs,op≠ .call g xs) (c:ef tab o op=true) (h:aZ cv op f H=some (v,H')) (l:H.next<H'.next->ρ H.next=none):sK P tab ρ H w (execOp a.eval o) v H':=by
 cases op with
 |store n x y=>exact ar6 aBl hf hs c h
 |Q4 q m k x=>exact as3 aBl hf hs c h
 |del q m k=>exact avV aBl hf hs c h
 |append e z b s x=>exact ani aBl hf hs c h l
 |sL e z b s x=>exact aj3 aBl hf hs c h l
 |copy s d x=>exact avA aBl hf hs c h
 |clear z x=>exact asd aBl hf hs c h
 |call g xs=>exact absurd rfl (j g xs)
 |conv k x=>cases k with
  |CL=>exact alc aBl hf hs c h l
  |_=>simp [aZ]at h
 |Qo t p n=>exact avh aBl hf hs c h
 |_=>simp [aZ]at h
end
def Hh (e:bd h a vs=some b):b.next=h.next:=by
 simp only [bd]at e;split at e
 ·obtain⟨_,c⟩:=bF e;cases c;rfl
 ·cases e
def agx (e:ew h j z b s x=some (v,c)):h.next<=c.next:=by
 simp only [ew]at e;split at e
 ·split at e
  ·cases e
  ·rename_i n _ _ d _;cases a:aiv (_+n) _ with
   |true=>
    rw [a,cond_true]at e;split at e
    ·cases e;exact afK _
    ·split at e
     ·rename_i f;cases e;rw [Hh f];exact afK _
     ·cases e
   |false=>
    rw [a,cond_false]at e;obtain⟨_,e⟩:=bF e;split at e
    ·cases e;simp
    ·split at e
     ·obtain⟨_,e⟩:=bF e;cases e;rename_i k _ _ _ _ _ _ _ _ _ _;cases acK _ 0<;>simp
     ·cases e
 ·cases e
def Wv (x:XF):Prop:= ∀a f h e c b,x a f h=some (e,c,b)->h.next<=b.next
def adJ (c:CF):Prop:= ∀g a h v b,c g a h=some (v,b)->h.next<=b.next
def Us (d:Wv x) (k:adJ c) (e:gA x c g f h=some (v,l)):h.next<=l.next:=by
 simp only [gA]at e;split at e
 ·exact k _ _ _ _ _ e
 ·split at e
  ·split at e
   ·cases e
   ·split at e
    ·rename_i p a;split at e
     ·split at e
      ·split at e
       ·rename_i q b;split at e
        ·cases e;have n:=d _ _ _ _ _ _ a;have j:=d _ _ _ _ _ _ b;simp at j⊢;exact avK n j
        ·cases e
       ·cases e
      ·cases e
     ·cases e
    ·cases e
  ·cases e
 ·cases e
def VC (r: ∀g c h v q,cv g c h=some (v,q)->h.next<=q.next) (e:aZ cv op f h=some (v,q)):h.next<=q.next:=by
 cases op<;>try (simp [aZ]at e;done)
 case store n a x=>
  simp only [aZ]at e;split at e
  ·obtain⟨_,e⟩:=bF e;split at e
   ·rename_i j;cases e;rw [Hh j];exact afK _
   ·cases e
  ·cases e
 case Q4 u m k x=>
  simp only [aZ]at e;split at e
  ·split at e
   ·obtain⟨_,e⟩:=bF e;split at e
    ·cases e;exact afK _
    ·cases e
   ·cases e
  ·cases e
 case del u m k=>
  simp only [aZ]at e;split at e
  ·split at e
   ·obtain⟨_,e⟩:=bF e;split at e
    ·cases e;exact afK _
    ·cases e
   ·cases e
  ·cases e
 case append w z b s x=>exact agx e
 case copy s d x=>
  simp only [aZ]at e;split at e
  ·split at e
   ·cases e
   ·split at e
    ·cases e;exact afK _
    ·split at e
     ·rename_i j;cases e;rw [Hh j];exact afK _
     ·cases e
  ·cases e
 case clear z x=>
  simp only [aZ]at e;split at e
  ·cases e;exact afK _
  ·rename_i n _ _ _;cases l:acK _ 0 with
   |true=>rw [l,cond_true]at e;cases e;exact afK _
   |false=>
    rw [l,cond_false]at e;split at e
    ·rename_i j;cases e;rw [Hh j];exact afK _
    ·cases e
  ·cases e
 case conv k x=>
  cases k<;>try (simp [aZ]at e;done)
  simp only [aZ]at e;split at e
  ·cases e;simp
  ·cases e
 case sL w z b s n=>
  simp only [aZ]at e;split at e
  ·obtain⟨_,e⟩:=bF e;cases e;simp
  ·cases e
 case Qo t p n=>
  simp only [aZ]at e;split at e
  ·obtain⟨_,e⟩:=bF e;cases e;exact afK _
  ·rename_i m _ _;cases l:acK m 0 with
   |true=>rw [l,cond_true]at e;cases e;exact afK _
   |false=>
    rw [l,cond_false]at e;split at e
    ·obtain⟨_,e⟩:=bF e;split at e
     ·split at e
      ·cases e;exact afK _
      ·cases e
     ·cases e
    ·cases e
  ·cases e
 case call g y=>exact r _ _ _ _ _ e
def arf (c: ∀g a h v b,cv g a h=some (v,b)->h.next<=b.next) (e:dQ cv op f h=some (v,b)):h.next<=b.next:=by
 simp only [dQ]at e;split at e
 ·split at e
  ·cases e;exact afK _
  ·cases e
 ·split at e
  ·cases e;exact afK _
  ·cases e
 ·split at e
  ·cases e;simp
  ·cases e
 ·exact VC c e
def JY (a: ∀g c h v b,cv g c h=some (v,b)->h.next<=b.next): ∀ops {f f'} {h b},bt cv ops f h=some (f',b)->h.next<=b.next
 | [],f,f',h,b,e=>by simp [bt]at e;rw [e.2];exact afK _
 |o::d,f,f',h,b,e=>by
  simp only [bt]at e;split at e
  ·split at e
   ·exact JY a d e
   ·cases e
  ·split at e
   ·rename_i j;split at e
    ·exact avK (arf a j) (JY a d e)
    ·cases e
   ·cases e
def Ht (b: ∀g j h v d,cv g j h=some (v,d)->h.next<=d.next) ops: ∀k {f f'} {h d} {c},cW cv ops k f h c=some (f',d)->h.next<=d.next
 | [],f,f',h,d,c,e=>by simp [cW]at e;rw [e.2];exact afK _
 |(i,m)::a,f,f',h,d,c,e=>by
  simp only [cW]at e;split at e
  ·cases e
  ·split at e
   ·split at e
    ·exact Ht b ops a e
    ·cases e
   ·split at e
    ·split at e
     ·split at e
      ·exact Ht b ops a e
      ·cases e
     ·cases e
    ·split at e
     ·cases e
     ·split at e
      ·obtain⟨_,e⟩:=bF e;split at e
       ·exact Ht b ops a e
       ·cases e
      ·cases e
    ·split at e
     ·split at e
      ·have:=Ht b ops a e;simp at this;omega
      ·cases e
     ·cases e
    ·split at e
     ·rename_i l;split at e
      ·exact avK (VC b l) (Ht b ops a e)
      ·cases e
     ·cases e
def aoF (j:Wv x) (u:adJ c):Wv (nt x c):=by
 intro n f h e A s d;have p: ∀g q h v s,gA x c g q h=some (v,s)->h.next<=s.next:=λ_ _ _ _ _ h=>Us j u h
 cases n<;>simp only [nt]at d
 case fail=>cases d
 case skip=>cases d;exact afK _
 case region k=>
  split at d
  ·rename_i t;cases d;exact JY p k t
  ·cases d
 case lN k r=>
  split at d
  ·rename_i t;cases d;exact Ht p k r t
  ·cases d
 case seq a b=>
  split at d
  ·rename_i l;exact avK (j _ _ _ _ _ _ l) (j _ _ _ _ _ _ d)
  ·exact j _ _ _ _ _ _ d
 case cond v a b=>
  split at d
  ·exact j _ _ _ _ _ _ d
  ·exact j _ _ _ _ _ _ d
  ·cases d
 case block id b=>
  split at d
  ·rename_i i _ _ l;have:=j _ _ _ _ _ _ l;cases y:acK i id<;>rw [y]at d<;>simp at d<;>(obtain⟨_,_,rfl⟩:=d;exact this)
  ·exact j _ _ _ _ _ _ d
 case loop b=>
  split at d
  ·rename_i l;exact avK (j _ _ _ _ _ _ l) (j _ _ _ _ _ _ d)
  ·exact j _ _ _ _ _ _ d
 case ou g D aCL w=>
  split at d
  ·split at d
   ·rename_i l;have z:=u _ _ _ _ _ l;simp at z;split at d
    ·split at d
     ·cases d
     ·split at d
      ·cases d;simp;omega
      ·have:=j _ _ _ _ _ _ d;simp at this;omega
    ·cases d
   ·cases d
  ·cases d
 case exit id=>cases d;exact afK _
 case ret=>cases d;exact afK _
def an6 (c:Wv x):adJ (ID E x):=by
 intro g d h v j a;simp only [ID]at a;split at a
 ·cases a;exact afK _
 ·split at a
  ·split at a
   ·obtain⟨f,a⟩:=bF a;cases a;exact ax0 f
   ·cases a
  split at a
  ·cases a
  ·split at a
   ·rename_i b;split at a<;>first |(cases a;exact c _ _ _ _ _ _ b) |cases a
   ·rename_i b;split at a<;>first |(cases a;exact c _ _ _ _ _ _ b) |cases a
   ·cases a
def Wm E: ∀n,Wv (exec E n)/\adJ (Dg E n)
 |0=>⟨λ_ _ _ _ _ _ h=>(by rw [ahi]at h;cases h),λ_ _ _ _ _ h=>(by rw [aex]at h;cases h)⟩
 |n+1=>⟨by rw [Sa];exact aoF (Wm E n).1 (Wm E n).2,by rw [Ns];exact an6 (Wm E n).1⟩
end dC
end Go.Proofs.YtccmgnimoheekaaGreatDoor
