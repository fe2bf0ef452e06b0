/-
  The row and its card: SimplexChecks answers true, and its arguments read as before, for every argument; no condition.
-/
import Derived.Test.YtccmgnimoheekaaGreatDoorPk5
import Derived.KernelRfl
import Derived.ChangeSame
import Derived.ChangeReads
import Derived.Deep.Slices
import Derived.Lib.LaidTab
import Derived.Stop.LaidErr
import Derived.WideShapes
import Derived.Test.YtccmgnimoheekaaGreatDoorCards
import Derived.Test.YtccmgnimoheekaaGreatDoorTie
import Derived.WalkKit
import Derived.ProofKit
import Derived.OpenShut
import Derived.ChangeVars
import Derived.JoinedOf
import Derived.RowKit
import Derived.LaidLaws
import Derived.LaidSub
import Derived.Lay
import Derived.MakeChecks
import Derived.Stop.Joined
import Derived.SevenTiedAt
set_option autoImplicit true
set_option relaxedAutoImplicit true
set_option linter.all false
set_option linter.unusedVariables false
set_option linter.unusedSimpArgs false
set_option linter.unusedSectionVars false
open Int renaming ofNat_eq_natCast -> aEc, ofNat -> aEe
open Bool renaming and_eq_true -> aEd, not_true -> aEg, false_eq_true -> aEj, true_and -> aEk, false_ne_true -> aEs, and_true -> aEv
open List renaming drop_of_length_le -> aEf, all_eq_true -> aEh, all_cons -> aEn, drop_zero -> aEo, drop_eq_getElem_cons -> aEp, length_cons -> aEq, take_of_length_le -> aEu
open Nat renaming ble_eq -> aEi, beq_eq -> aEt, le_refl -> aEw
open Option renaming bind_some -> aEl, bind_eq_some_iff -> aEr
open Go.DataW renaming trod -> aEm
open Go.IntKind renaming wrap -> aEx
namespace Go.Proofs.YtccmgnimoheekaaGreatDoor
namespace Ls.qE
open dC
open Ls.bY
open Ls.fW
open Ls.oz
open Ls.cU
open Ls.pU
open Ls.pY
open Ls.eU
open Ls.sJ
open Go
def ar1 (A B:Nat) (l:List (List UInt8)):Prop:= ∀a∈l,∃x,a=cn x/\VF A B x
def asG (h:ar1 A B l) {i:Nat} (hi:l[i]? =some a): ∃x,a=cn x/\VF A B x:=h a (List.mem_of_getElem? hi)
def arL (h:ar1 A B l) (h1:A<=A') (h2:B<=B'):ar1 A' B' l:=λa ha=>by
 obtain⟨x,e,hx⟩:=h a ha;exact⟨x,e,vY hx h1 h2⟩
def aif (h:jS k s=true): ∃x,s=cn x/\VF k 1 x:=by
 obtain⟨n,rfl,hn⟩:=ff.1 h;exact⟨n,(pj n).symm,hn,by show dL 1<=1;decide⟩
def axb K r1 e (he:Int.same e 0=true) u v (fs:List dx) ms val last i (l:List dx) ln y (hy:Jy 450 y) (hmi:ms[i]? =some (cn y)) (cs:List (List UInt8)) (hcs:cs.all (jS 100)=true) (hi:i<=6) (hlen:cs.length<=100):
  ∀n r k (X:List (List UInt8)),n<r->k+n=cs.length->X.length=cs.length->(∀j a,k<=j->X[j]? =some a-> ∃x,a=cn x/\VF (200+452*i) (100+451*i) x)->
  gm K r1 r e u v fs ms val last i l ln i cs (aEe cs.length) k X=iK K r1 e u v fs ms val last l ln i (X.take k++Gv (X.drop k) ((cs.drop k).map λa=>cn (nS a*y))):=by
 intro n;induction n with
 |zero=>
  intro r k X hr hk hX hN;obtain⟨r,rfl⟩: ∃q,r=q+1:=⟨r-1,aa⟩;rw [uz];rw [az (by simp only [aEc];omega),cond_false,aEf aa,aEu aa];simp only [Gv,List.append_nil]
 |succ n ih=>
  intro r k X hr hk hX hN;obtain⟨r,rfl⟩: ∃q,r=q+1:=⟨r-1,aa⟩;obtain⟨a,hak⟩:=dm (s:=cs) (i:=k) aa;obtain⟨b,hbk⟩:=dm (s:=X) (i:=k) aa;obtain⟨x,rfl,hx⟩:=aif (aEh.1 hcs a (List.mem_of_getElem? hak));obtain⟨z,rfl,hz⟩:=hN k b (aEw _) hbk;rw [uz];rw [ax (by simp only [aEc];omega),cond_true];rw [Hc];have hm':VF 550 451 (y*x):=vY (Wk (A:=450) (B:=450) hy hx) aa aa;have hin:C4 (k:Int) X.length=true:=by simp only [C4];rw [aF aa,ax aa];rfl
  rw [bH,bH,hak,aEl,hmi,aEl,acn he (A:=450) (B:=450) hy hx aa aa,cond_true,hin,cond_true,Int.toNat_natCast,hbk,aEl,aic,acM he hz hm' aa aa aa,cond_true,cond_true,ahH,wrap_i64 aa aa];rw [show(k:Int)+1=((k+1:Nat):Int) by omega,ih r (k+1) (X.set k (cn (z+y*x))) aa aa (by simpa using hX) (by
   intro j a hj ha;rw [List.getElem?_set_ne aa]at ha;exact hN j a aa ha)]
  rw [drop_cons hak,drop_cons hbk,List.drop_set_of_lt aa,List.map_cons];simp only [Gv,bX];have hkl:k<X.length:=aa
  have e1:(X.set k (cn (z+y*x))).take (k+1)=X.take k++ [cn (z+y*x)]:=by
   rw [List.take_add_one,List.getElem?_set_self hkl,Option.toList_some];congr 1;exact List.take_set_of_le (aEw k)
  rw [e1,List.append_assoc,Rat.mul_comm y x];rfl
def apV (l:Jy 450 y) (n:A+451<=k) (f:550+B<=k): ∀ {X cs:List (List UInt8)},ar1 A B X->cs.all (jS 100)=true->ar1 (k+1) (B+451) (Gv X (cs.map λa=>cn (nS a*y)))
 | [],_,_,_=>λa d=>by simp [Gv]at d
 |_::_,[],_,_=>λa d=>by simp [Gv]at d
 |b::X,c::cs,h,j=>by
  simp only [aEn,aEd]at j;obtain⟨z,rfl,p⟩:=h b ab;obtain⟨x,rfl,q⟩:=aif j.1;intro a d;simp only [List.map_cons,Gv,bX,List.mem_cons]at d;rcases d with rfl |d
  ·refine⟨z+x*y,rfl, ?_⟩;have r:VF 550 451 (x*y):=vY (Wk q (A':=450) (B':=450) l) aa aa;exact acs p r n f
  ·exact apV l n f (λa d=>h a (by simp [d])) j.2 a d
def auL K (X:List (List UInt8)) (w:X.length<=100) d f h (j k l p:List UInt8): ∀n r i,n<r->i+n=X.length->
  fJ K r (aEe X.length) i false true d f h j k l p X=some ((X.drop i).all λa=>aD a [48]):=by
 intro n;induction n with
 |zero=>
  intro r i t u;obtain⟨r,rfl⟩: ∃q,r=q+1:=⟨r-1,aa⟩;rw [tO];simp only [tp];rw [az (by simp only [aEc];omega),cond_false,aEf aa];rfl
 |succ n v=>
  intro r i t u;obtain⟨r,rfl⟩: ∃q,r=q+1:=⟨r-1,aa⟩;obtain⟨a,c⟩:=dm (s:=X) (i:=i) aa;rw [tO];simp only [tp];rw [ax (by simp only [aEc];omega),cond_true];rw [FM];have b:C4 (i:Int) X.length=true:=by simp only [C4];rw [aF aa,ax aa];rfl
  rw [b,cond_true,Int.toNat_natCast,c,aEl,show iw a=true from rfl,cond_true,drop_cons c,aEn];simp only [jt];cases aD a [48]
  ·rw [aF aa];rfl
  ·rw [aEg,cond_false,aEk];rw [FC];rw [wrap_i64 aa aa];exact v r (i+1) aa aa
def XH (N:Nat) (f:dx):Bool:=Nat.beq f.2.1.length N&&(f.2.1.all (jS 100)&&jS 100 f.2.2.1)
def as0 K N (hN:N<=100) (hK:N<K) e (D:Int.same e 0=true) u v (E:List dx) ms b (l:List dx) (hl:l.length<=7) (R:l.length=ms.length) (S:qB 450 ms=true) (F:l.all (XH N)=true):
  ∀n r i x X,n<r->i+n=l.length->VF (200+452*i) (100+451*i) x->X.length=N->ar1 (200+452*i) (100+451*i) X->
  gn K r e u v E ms b (cn x) l (aEe l.length) i X=some (XJ (X,cn x) (l.drop i) (ms.drop i) b):=by
 intro n;induction n with
 |zero=>
  intro r i x X T U G L d;obtain⟨r,rfl⟩: ∃q,r=q+1:=⟨r-1,aa⟩;rw [uJ];rw [az (by simp only [aEc];omega),cond_false,aEf aa,aEf aa];rw [FT];simp only [XJ,okP,yz,aEk];cases aD (cn x) b
  ·rfl
  ·rw [cond_true,aEk];exact auL K X aa _ _ _ _ _ _ _ X.length K 0 aa aa
 |succ n V=>
  intro r i x X T U G L d;obtain⟨r,rfl⟩: ∃q,r=q+1:=⟨r-1,aa⟩;obtain⟨f,H⟩:=dm (s:=l) (i:=i) aa;obtain⟨m,h⟩:=dm (s:=ms) (i:=i) aa;have M:=Q1 F H;simp only [XH,aEd]at M;obtain⟨O,P,W⟩:=M;have O:=Nat.eq_of_beq_eq_true O;obtain⟨y,rfl,z⟩:=Lv S h;obtain⟨c,Y,t⟩:=aif W;have p:VF 550 451 (y*c):=vY (Wk (A:=450) (B:=450) z t) aa aa;have Z:gi K r e u v E ms b (cn x) (i:Int) l (aEe l.length) (i:Int) X f.1 f.2.1 f.2.2.1 f.2.2.2=some (XJ (JM (X,cn x) (sZ (f.2.1,f.2.2.1) (cn y))) (l.drop (i+1)) (ms.drop (i+1)) b):=by
   rw [G6];rw [bH,h,aEl,Y,acn D (A:=450) (B:=450) z t aa aa,cond_true,aic,acM D G p aa aa aa,cond_true,ahH];have Q:=axb K r e D u v E ms b (cn (x+y*c)) i l (aEe l.length) y z h f.2.1 P aa aa f.2.1.length K 0 X aa aa aa (λj a _ F=>asG d F);rw [List.take_zero,aEo,aEo,List.nil_append]at Q;refine Eq.trans Q ?_;rw [F5];rw [wrap_i64 aa aa,show(i:Int)+1=((i+1:Nat):Int) by omega];have w:VF (200+452*(i+1)) (100+451*(i+1)) (x+y*c):=vY (acs (k:=651+452*i) G p aa aa) aa aa;have I:=arL (apV (k:=651+452*i) z aa aa d P) (show 651+452*i+1<=200+452*(i+1) by omega) (show 100+451*i+451<=100+451*(i+1) by omega);rw [V r (i+1) (x+y*c) _ aa aa w (by rw [RY (by simp only [List.length_map];omega)];exact L) I];simp only [JM,sZ,bX,Rat.mul_comm c y]
  rw [uJ];rw [ax (by simp only [aEc];omega),cond_true];rw [GI];rw [bH,bH,H,aEl,h,aEl,show ej (cn y)=true from ai0 y,cond_true,show fC (cn y)=decide (y<0)from adK y,Z,drop_cons H,drop_cons h];simp only [XJ,okP,yz,apF,bX];cases Int.same f.1 0<;>cases decide (y<0)<;>simp only [cond_true,cond_false,aEg,Bool.not_false,aEk,Bool.false_and,Bool.and_self,aEv,Bool.and_false]
def akh j c ms b (h:dA (j,c,ms,b)=true): ∃K,sM K j c ms b=some (fu (j,c,ms,b)):=by
 obtain⟨d,c⟩:=c;simp only [dA,aEd,aEi]at h;obtain⟨l,⟨⟨n,p⟩,q,r⟩,s,t⟩:=h;obtain⟨f,x,k,u⟩:=wY r;simp only at f k;subst k;have v:=JH q;refine⟨d.length+j.2.2.2.length+2, ?_⟩;rw [KO];rw [show eM d=true by simp only [eM,Nat.blt_eq];omega,cond_true];exact as0 _ d.length v aa j.1 l j.2.1 j.2.2.1 j.2.2.2 ms b j.2.2.2 n (Nat.eq_of_beq_eq_true p) s t j.2.2.2.length _ 0 x d aa aa (vY (A:=100) (B:=100) u aa aa) rfl (λa w=>by
  obtain⟨z,e,y⟩:=hJ.1 (aEh.1 f a w);exact⟨z,e,vY (A:=100) (B:=100) y aa aa⟩)
def ahK (h1:l.length<=6) (h2:l.length=p.length) (h3:qB 100 l=true) (h4:qB 450 p=true) (h5:yO 100 c=true):YZ l p c=true:=by
 simp only [YZ,h3,h4,h5,h2,Nat.beq_refl,aEv,aEi];omega
def ah5 ray (he:aiQ j=true) (hN:N<=6) (hl:j.2.2.2.length<=7) (ha:j.2.2.2.all (XH N)=true) (hp:N=p.length) (hq:qB 450 p=true):du (j,p,ray)=true:=by
 simp only [du,aEd,aEi];refine⟨he,aa, ?_⟩;rw [aEh]at ha⊢;intro f hf;have hF:=ha f hf;simp only [XH,aEd]at hF;obtain⟨f1,f2,f3⟩:=hF;have f1:=Nat.eq_of_beq_eq_true f1;exact ahK aa aa (aiY aa f2) hq (Ek aa f3)
def ahe (he:aiQ j=true) (hc:c.1.length<=6) (hcl:sR 100 c=true) (hl:j.2.2.2.length<=7) (hlm:j.2.2.2.length=ms.length) (hm:qB 450 ms=true) (ha:j.2.2.2.all (XH c.1.length)=true):dA (j,c,ms,v)=true:=by
 simp only [dA,aEd,aEi,ur,hcl,hm,hlm,Nat.beq_refl];exact⟨he,⟨⟨aa,trivial⟩,aa,trivial⟩,trivial,ha⟩
def arG n:sR 100 (q9 n [48])=true:=by
 have:qB 100 (List.replicate n [48])=true:=by
  rw [qB,aEh];intro a ha;rw [(List.mem_replicate.1 ha).2];exact Ek aa (show jS 100 (bb 0)=true from cg ah)
 simp only [sR,q9,this];exact Ek aa (show jS 100 (bb 0)=true from cg ah)
def ahL (v:Rat):decide (0<v)=(!decide (v=0)&& !decide (v<0)):=by
 by_cases h:v=0
 ·subst h;rfl
 ·by_cases h2:v<0
  ·have h3: ¬0<v:=λh3=>Rat.not_lt.2 (Rat.not_lt.1 (λh4=>by
    have:=NS.2 h2;have:=XE.2 h4;omega)) h3
   rw [decide_eq_false h3,decide_eq_true h2,aEg,Bool.and_false]
  ·have h3:0<v:=by
    by_cases h4:0<v
    ·exact h4
    ·exact absurd ((ait v).2 ⟨h2,h4⟩) h
   rw [decide_eq_true h3,decide_eq_false h,decide_eq_false h2];rfl
def avl j o (h:fP (j,o)=true): ∃K,yC K j o=some (jK (j,o)):=by
 obtain⟨e,cs,c,l⟩:=j;obtain⟨op,val,pt,ray,ms⟩:=o;simp only [fP,arC,aEd,aEi]at h;obtain⟨he,⟨⟨h1,h2⟩,h3,h4⟩,⟨⟨h5,h6⟩,h7⟩,h8⟩:=h;have aBM:=wY h2;have hc:yO 100 c=true:=by
  simp only [sR,aEd]at h2;exact h2.2
 refine⟨0, ?_⟩;rw [Pu];simp only [jK,ahM,arC];simp only [BC]at h8;cases e0:Int.same op 0 with
 |true=>
  rw [e0,cond_true]at h8;simp only [aEd]at h8;have p1:=tH h8.1;have p2:=tH h8.2.2;have hs:=ah5 (j:=(e,cs,c,l)) (p:=pt) false he h1 h3 h4 p1.symm h5;have hg:dM ((e,cs,c,l),pt,c)=true:=by
   simp only [dM,aEd];exact⟨he,ahK h1 p1.symm aBM.1 h5 hc⟩
  have hcm:=ahe (j:=(e,cs,c,l)) (c:=(cs,c)) (ms:=ms) (v:=val) he h1 h2 h3 p2.symm h7 h4;simp only [cond_true,hs,hg,hcm,fu];cases bL ((e,cs,c,l),pt,false)<;>cases aD (cY ((e,cs,c,l),pt,c)) val<;>rfl
 |false=>
  rw [e0,cond_false]at h8;rw [cond_false,cond_false];cases e1:Int.same op 1 with
  |true=>
   rw [e1,cond_true]at h8;simp only [aEd]at h8;have p1:=tH h8.1.1;have p2:=tH h8.1.2.1;have hs:=ah5 (j:=(e,cs,c,l)) (p:=pt) false he h1 h3 h4 p1.symm h5;have hs2:=ah5 (j:=(e,cs,c,l)) (p:=ray) true he h1 h3 h4 p2.symm h6;have hg:dM ((e,cs,c,l),ray,[48])=true:=by
    simp only [dM,aEd];exact⟨he,ahK h1 p2.symm aBM.1 h6 (Ek aa (show jS 100 (bb 0)=true from cg ah))⟩
   have hy:cY ((e,cs,c,l),ray,[48])=cn (tD cs ray):=by
    simp only [cY];rw [show nS [48]=0 from rfl,Rat.zero_add]
   simp only [cond_true,hs,hs2,hg,hy,R4];rw [show ej (cn (tD cs ray))=true from ai0 _,show fC (cn (tD cs ray))=decide (tD cs ray<0)from adK _,ahL];cases bL ((e,cs,c,l),pt,false)<;>cases bL ((e,cs,c,l),ray,true)<;>cases decide (tD cs ray=0)<;>rfl
  |false=>
   rw [e1,cond_false]at h8;simp only [aEd]at h8;have p2:=tH h8.1.2.2;rw [cond_false,cond_false];rw [Lq];have hfp:oa (aEe cs.length)=true:=by
    simp only [oa];rw [aF ab,aF ae];rfl
   have hzl:=Hl cs.length [48];have hcm:=ahe (j:=(e,cs,c,l)) (c:=q9 cs.length [48]) (ms:=ms) (v:=[45,49]) he (by rw [hzl];exact h1) (arG _) h3 p2.symm h7 (by rw [hzl];exact h4);rw [hfp,cond_true];show cond (dA ((e,cs,c,l),q9 cs.length [48],ms,[45,49])) (some (fu ((e,cs,c,l),q9 cs.length [48],ms,[45,49]))) none=_;rw [hcm];rfl
def ef (f:dx):Bool:=Int.same f.1 0 ||Int.same f.1 1
def ajU (h:ef f=true):f.1=0\/f.1=1:=by
 simp only [ef,Bool.or_eq_true]at h;rcases h with h |h
 ·exact .inl (Int.dG h)
 ·exact .inr (Int.dG h)
def ayr (v:Rat):decide (0<=v)= !decide (v<0):=by
 by_cases h:v<0
 ·rw [decide_eq_true h,decide_eq_false (λh2=>Rat.not_lt.2 h2 h)];rfl
 ·rw [decide_eq_false h,decide_eq_true (Rat.not_lt.1 h)];rfl
def as7 (h:op=0\/op=1) v:agF op v=axn op v:=by
 simp only [agF,axn,ahL];by_cases h0:v=0
 ·subst h0;rcases h with rfl |rfl<;>rfl
 ·rw [decide_eq_false h0];rcases h with rfl |rfl<;>cases decide (v<0)<;>rfl
def auO f p:afc true p f=anO f p:=by
 simp only [afc,agF,anO,ahL,cond_true,Rat.zero_add];generalize tD f.2.1 p=v;by_cases h0:v=0
 ·subst h0;cases Int.same f.1 1<;>rfl
 ·rw [decide_eq_false h0];cases decide (v<0)<;>cases Int.same f.1 1<;>rfl
def arK (h:op=0\/op=1) m:apF op m=apP op m:=by
 simp only [apF,apP,ayr];rcases h with rfl |rfl<;>cases decide (nS m<0)<;>rfl
def aqz: ∀ {l} {ms},l.all ef=true->okP l ms=okS l ms
 | [],_,_=>rfl
 |_::_,[],_=>rfl
 |f::l,m::ms,h=>by
  simp only [aEn,aEd]at h;simp only [okP,okS,arK (ajU h.1),aqz (l:=l) (ms:=ms) h.2]
def Va: ∀ {l:List dx},(∀f∈l,q f=r f)->l.all q=l.all r
 | [],_=>rfl
 |f::l,h=>by simp only [aEn,h f ab,Va (l:=l) λg hg=>h g (by simp [hg])]
def agL: ∀l,mZ l (List.replicate l.length [48])=l.all λa=>aD a [48]
 | []=>rfl
 |a::l=>by simp only [aEq,List.replicate_succ,mZ,aEn,agL l]
def agE (ho:l.all ef=true) (ha:l.all (LC c.1.length)=true):XJ c l ms v=(okS l ms&&aoW (yz c l ms) (q9 c.1.length v)):=by
 have hl:(yz c l ms).1.length=c.1.length:=RX ha;simp only [XJ,aqz ho,aoW,q9];rw [<-hl,agL]
def aml (ho:l.all ef=true) (ha:l.all (LC c.1.length)=true):ahM (e,c.1,c.2,l) o=DA c l o:=by
 obtain⟨cs,c⟩:=c;obtain⟨op,val,pt,ray,ms⟩:=o;have hs:bL ((e,cs,c,l),pt,false)=iD (l,pt):=by
  simp only [bL,iD];exact Va λf hf=>as7 (ajU (aEh.1 ho f hf)) _
 have hr:bL ((e,cs,c,l),ray,true)=l.all λf=>anO f ray:=by
  simp only [bL];exact Va λf hf=>auO f ray
 have hg:cY ((e,cs,c,l),pt,c)=dI ((cs,c),pt):=rfl;simp only [ahM,DA,arC,hs,hr,hg];rw [agE (c:=(cs,c)) ho ha,agE (c:=q9 cs.length [48]) ho (by rw [Hl];exact ha),Hl];simp only [nr];cases Int.same op 0
 ·rw [cond_false,cond_false];cases Int.same op 1
  ·rfl
  ·rw [cond_true,cond_true];congr 1;exact Bool.and_comm _ _
 ·rw [cond_true,cond_true];cases iD (l,pt)<;>cases aD (dI ((cs,c),pt)) val<;>cases okS l ms<;>simp only [aEk,Bool.false_and,Bool.and_false]
def Ib f: ∀a b,jQ f (a++b)=orE (jQ f a) (jQ f b)
 | [],b=>rfl
 |x::a,b=>by
  simp only [List.cons_append,jQ,Ib f a b];by_cases e:f x=0
  ·rw [aG e,cond_true,cond_true]
  ·rw [av e,cond_false,cond_false,DM e]
def aag n m o (h:pH (n,m,o)=true): ∃K,Ie K n m o=some (n4 (n,m,o)):=by
 refine⟨0, ?_⟩;rw [YD];simp only [n4,BC,aEv];cases Int.same o.1 0
 ·rw [cond_false,cond_false];cases Int.same o.1 1
  ·rw [cond_false,cond_false];rw [SK];simp only [aEv];cases(Int.same (aEe o.2.2.1.length) 0&&(Int.same (aEe o.2.2.2.1.length) 0&&Int.same (aEe o.2.2.2.2.length) m))<;>rfl
  ·rw [cond_true,cond_true];cases(Int.same (aEe o.2.2.1.length) n&&(Int.same (aEe o.2.2.2.1.length) n&&Int.same (aEe o.2.2.2.2.length) 0))<;>rfl
 ·rfl
def axo (h:kv a=0) (hf:EV a=true):yO 450 a=true:=by
 have hr:=IN h;have hl:a.length<=450:=by simpa [EV,aEi]using hf
 have h1:=xY (sG a);have h2:=xY (pX a);have h3:=RR a;have h4:(pX a).length<=450:=by
  rw [pX];cases dD 0 (vS a)
  ·rw [cond_false];decide
  ·rw [cond_true,List.length_drop];omega
 simp only [yO,hr,aEk,aEd,aEi];exact⟨aa,aa⟩
def HF (hf:EV a=true):oB a=true:=by
 have hl:a.length<=450:=by simpa [EV,aEi]using hf
 have h1:=xY (sG a);have h2:=xY (pX a);have h3:=RR a;have h4:=acy a;simp only [oB,Hs hf,aEk,aEd,aEi];exact⟨aa,aa⟩
def aa5 (h:j8 l=true):l.all oB=true:=by
 simp only [j8,aEh]at h⊢;exact λa ha=>HF (h a ha)
def ap1 (h:KB a=0):yO 100 a=true:=by
 simp only [KB]at h;by_cases e:kv a=0
 ·rw [aG e,cond_true]at h;have hr:=IN e;cases hs:Xf a with
  |false=>rw [hs]at h;cases h
  |true=>
   simp only [Xf,B9,aEd]at hs;simp only [yO,hr,aEk,aEd];exact hs
 ·rw [av e,cond_false]at h;exact absurd h e
def apO (h:Jw a=0):jS 100 a=true:=by
 simp only [Jw]at h;rcases Hi a with⟨e,n,rfl,hn⟩ |e
 ·rw [aG e,cond_true]at h;cases hs:B9 (bb n)with
  |false=>rw [hs]at h;cases h
  |true=>
   simp only [B9,aEi]at hs;exact cg (by rw [dL];omega)
 ·rw [av e,cond_false]at h;exact absurd h e
def avU {c:kD} (h:XI c=0):sR 100 c=true:=by
 simp only [XI]at h;by_cases e:(32:Int)<aEe c.1.length
 ·rw [ax e]at h;cases h
 ·rw [az e,cond_false]at h;by_cases e2:jQ KB c.1=0
  ·rw [aG e2,cond_true]at h;simp only [sR,qB,ap1 h,aEv,aEh];exact λa ha=>ap1 (DR e2 a ha)
  ·rw [av e2,cond_false]at h;exact absurd h e2
def awS (h:X3 f (aEe n)=0):XH n f=true/\ef f=true:=by
 simp only [X3]at h;cases e1:(!Int.same f.1 0&& !Int.same f.1 1)with
 |true=>rw [e1]at h;cases h
 |false=>
  rw [e1,cond_false]at h;cases e2:Int.same (aEe f.2.1.length) (aEe n)with
  |false=>rw [e2]at h;cases h
  |true=>
   rw [e2,aEg,cond_false]at h;by_cases e3:jQ Jw (f.2.1++ [f.2.2.1])=0
   ·have hz:=DR e3;refine⟨?_, ?_⟩
    ·simp only [XH,tH e2,Nat.beq_refl,aEk,aEd,aEh];exact⟨λa ha=>apO (hz a (by simp [ha])),apO (hz _ ab)⟩
    ·simp only [ef];cases h0:Int.same f.1 0<;>cases h1:Int.same f.1 1<;>rw [h0,h1]at e1<;>first |rfl |cases e1
   ·rw [av e3,cond_false]at h;exact absurd h e3
def ako: ∀ {l},af3 (aEe n) l=0->l.all (XH n)=true/\l.all ef=true
 | [],_=>⟨rfl,rfl⟩
 |f::l,h=>by
  simp only [af3]at h;by_cases e:X3 f (aEe n)=0
  ·rw [aG e,cond_true]at h;obtain⟨h1,h2⟩:=awS e;obtain⟨h3,h4⟩:=ako h;simp only [aEn,h1,h2,h3,h4,Bool.and_self,and_self]
  ·rw [av e,cond_false]at h;exact absurd h e
def aub {c:kD} (h:Qa c l=0):sR 100 c=true/\l.all (XH c.1.length)=true/\l.all ef=true:=by
 simp only [Qa]at h;by_cases e:XI c=0
 ·rw [aG e,cond_true]at h;by_cases e2:(64:Int)<aEe l.length
  ·rw [ax e2]at h;cases h
  ·rw [az e2,cond_false]at h;exact⟨avU e,ako h⟩
 ·rw [av e,cond_false]at h;exact absurd h e
section
variable (K:Nat) (l:List dx) (cs:List (List UInt8)) (c:List UInt8) (op:Int) (val:List UInt8) (pt ray ms:List (List UInt8))
theorem ayz X (x:X.length<=1000) (u:j8 X=true) R (v:jQ kv X=0->fT K l cs c op val pt ray ms=some R): ∀n r i,n<r->i+n=X.length->(∀a∈X.take i,kv a=0)->
  kH K r l (aEe X.length) i cs c op val pt ray ms X=some (orE (jQ kv (X.drop i)) R):=by
 intro n;induction n with
 |zero=>
  intro r i y w f;obtain⟨r,rfl⟩: ∃q,r=q+1:=⟨r-1,aa⟩;rw [Gx];rw [az (by simp only [aEc];omega),cond_false,aEf aa];rw [aEu aa]at f;have j:jQ kv X=0:=by
   clear v w x u;induction X with
   |nil=>rfl
   |cons a X k=>
    simp only [jQ,f a ab];exact k λb d=>f b (by simp [d])
  rw [v j];rfl
 |succ n k=>
  intro r i y w f;obtain⟨r,rfl⟩: ∃q,r=q+1:=⟨r-1,aa⟩;obtain⟨a,h⟩:=dm (s:=X) (i:=i) aa;have p:EV a=true:=NY u h;rw [Gx];rw [ax (by simp only [aEc];omega),cond_true];rw [SD];have t:C4 (i:Int) X.length=true:=by simp only [C4];rw [aF aa,ax aa];rfl
  rw [t,cond_true,Int.toNat_natCast,h,aEl,show cp a=true from HF p,cond_true,drop_cons h];simp only [bI,jQ];by_cases e:kv a=0
  ·rw [aG e,aEg,cond_false,cond_true];rw [S3];rw [wrap_i64 aa aa];refine k r (i+1) aa aa λb d=> ?_
   rw [List.take_add_one,h,Option.toList_some,List.mem_append]at d;rcases d with d |d
   ·exact f b d
   ·simp at d;subst d;exact e
  ·rw [av e,cond_false,DM e];rfl
theorem awT X (w:X.length<=1000) (t:j8 X=true) R (u:jQ kv X=0->fT K l cs c op val pt ray ms=some R): ∀n r i,n<r->i+n=X.length->(∀a∈X.take i,kv a=0)->
  jT K r l X (aEe X.length) i cs c op val pt ray ms=some (orE (jQ kv (X.drop i)) R):=by
 intro n;induction n with
 |zero=>
  intro r i x v f;obtain⟨r,rfl⟩: ∃q,r=q+1:=⟨r-1,aa⟩;rw [Fh];rw [az (by simp only [aEc];omega),cond_false,aEf aa];rw [aEu aa]at f;have j:jQ kv X=0:=by
   clear u v w t;induction X with
   |nil=>rfl
   |cons a X k=>
    simp only [jQ,f a ab];exact k λb d=>f b (by simp [d])
  rw [u j];rfl
 |succ n k=>
  intro r i x v f;obtain⟨r,rfl⟩: ∃q,r=q+1:=⟨r-1,aa⟩;obtain⟨a,h⟩:=dm (s:=X) (i:=i) aa;have p:EV a=true:=NY t h;rw [Fh];rw [ax (by simp only [aEc];omega),cond_true];rw [Q0];rw [bH,h,aEl,show cp a=true from HF p,cond_true,drop_cons h];simp only [bI,jQ];by_cases e:kv a=0
  ·rw [aG e,aEg,cond_false,cond_true];rw [Qb];rw [wrap_i64 aa aa];refine k r (i+1) aa aa λb d=> ?_
   rw [List.take_add_one,h,Option.toList_some,List.mem_append]at d;rcases d with d |d
   ·exact f b d
   ·simp at d;subst d;exact e
  ·rw [av e,cond_false,DM e];rfl
end
theorem Nc a b c:orE (orE a b) c=orE a (orE b c):=by
 by_cases e:a=0
 ·rw [e,wM,wM]
 ·rw [DM e,DM e,DM e]
theorem Zz c l o (h:gR (c,l,o)=true): ∃K,HJ K c l o=some (oh (c,l,o)):=by
 obtain⟨cs,c⟩:=c;obtain⟨op,val,pt,ray,ms⟩:=o;simp only [gR,aEd,Bool.or_eq_true,aEi,Nat.blt_eq]at h;obtain⟨⟨S,hn⟩,hm⟩:=h;obtain⟨⟨⟨F,G⟩,H⟩,⟨b1,T⟩,⟨I,v⟩,⟨L,w⟩,⟨M,x⟩,N⟩:=adI S;simp only at F G H I v L w M x N;obtain⟨K,hK⟩: ∃K,K=1001:=⟨_,rfl⟩;refine⟨K, ?_⟩;have j:room l.length=true:=by simp only [room,Nat.blt_eq];omega
 rw [ZB];simp only [oh,axe];have y:fj ((cs,c),l)=true:=by
  simp only [fj,Ax F,aa5 G,HF H,j,T,Bool.and_self]
 rw [y,cond_true];simp only [ix];by_cases p:Qa (cs,c) l=0
 case neg=>rw [av p,DM p];rfl
 obtain⟨⟨p1,p2⟩,p3,O⟩:=aeb p;obtain⟨q1,P,q3⟩:=aub p;simp only at p1 O P;rw [p,wM,aG rfl,aEg,cond_false];rw [SZ];cases bZ op 0
 case true=>rfl
 cases bZ 2 op
 case true=>rfl
 simp only [cond_false,Bool.or_self,pH,n4,cond_true];cases z:BC (aEe cs.length) (aEe l.length) (op,val,pt,ray,ms)
 case false=>rfl
 simp only [aEg,cond_false];obtain⟨R,q⟩: ∃R:Int,R=cond (Int.same op 0&&aD val []) 3 (cond (DA (cs,c) l (op,val,pt,ray,ms)) 0 18):=⟨_,rfl⟩;have r:qB 450 pt=true->qB 450 ray=true->qB 450 ms=true->fT K l cs c op val pt ray ms=some R:=by
  intro r1 r2 r3;have A:nn K l cs c op val pt ray ms=some (cond (DA (cs,c) l (op,val,pt,ray,ms)) 0 18):=by
   rw [SO];simp only [RE];have D:fP ((0,(cs,(c,l))),(op,(val,(pt,(ray,ms)))))=true:=by
    simp only [fP,aiQ,arC,q1,r1,r2,r3,z,aEv,aEd,aEi];exact⟨rfl,aa,aa,P⟩
   have E:jK ((0,(cs,(c,l))),(op,(val,(pt,(ray,ms)))))=DA (cs,c) l (op,val,pt,ray,ms):=aml (e:=0) (c:=(cs,c)) q3 O;rw [D,cond_true,E];cases DA (cs,c) l (op,val,pt,ray,ms)<;>rfl
  rw [q];rw [SG];rw [A];cases Int.same op 0<;>cases aD val []<;>rfl
 rw [<-q];have d:(pt++(ray++ms)).length<=240:=by
  simp only [si,aEi]at I L M;simp only [List.length_append];omega
 have s:([pt,ray,ms]:List (List (List UInt8))).flatten=pt++(ray++ms):=ab
 have t:j8 (pt++(ray++ms))=true:=by
  simp only [j8,List.all_append,aEd]at v w x⊢;exact⟨v,w,x⟩
 have f:jQ kv (pt++(ray++ms))=0->fT K l cs c op val pt ray ms=some R:=by
  intro k;have n:=DR k;have part: ∀X:List (List UInt8),(∀a∈X,kv a=0)->j8 X=true->qB 450 X=true:=by
   intro X hX Q;simp only [j8,aEh]at Q;simp only [qB,aEh];exact λa b=>axo (hX a b) (Q a b)
  exact r (part pt (λa b=>n a (by simp [b])) v) (part ray (λa b=>n a (by simp [b])) w) (part ms (λa b=>n a (by simp [b])) x)
 rw [SU];simp only [Sr,Qt];have u:eA ([pt,ray,ms]:List (List (List UInt8)))=true:=by
  simp only [eA,s,aEd,Nat.blt_eq,aEq,List.length_nil];exact⟨aa,aa⟩
 rw [u,cond_true];simp only [dV];rw [s];cases hb:aD val []
 ·rw [Bool.not_false,cond_true,show fits (1+(pt++(ray++ms)).length) 16=true by simp only [fits,aEd,aEi];omega,cond_true,cond_false];have:=ayz K l cs c op val pt ray ms ([val]++(pt++(ray++ms))) (by simp only [List.length_append,aEq,List.length_nil]at d⊢;omega) (by
   simp only [j8,List.cons_append,List.nil_append,aEn,aEd];exact⟨N,t⟩) R (λk=>f (by
    rw [Ib]at k;by_cases e:jQ kv [val]=0
    ·rw [e,wM]at k;exact k
    ·rw [DM e]at k;exact absurd k e)) ([val]++(pt++(ray++ms))).length K 0 (by simp only [List.length_append,aEq,List.length_nil]at d⊢;omega) aa (λa b=>by simp at b)
  refine Eq.trans (show _=kH K K l (aEe ([val]++(pt++(ray++ms))).length) ((0:Nat):Int) cs c op val pt ray ms ([val]++(pt++(ray++ms)))from rfl) (this.trans ?_);rw [aEo,Ib,Ib,Ib,Nc,Nc,Nc];congr 2;simp only [jQ];by_cases e:kv val=0
  ·rw [aG e,cond_true,e]
  ·rw [av e,cond_false]
 ·rw [aEg,cond_false,cond_true,wM];have:=awT K l cs c op val pt ray ms (pt++(ray++ms)) aa t R f (pt++(ray++ms)).length K 0 aa aa (λa b=>by simp at b);refine Eq.trans (show _=jT K K l (pt++(ray++ms)) (aEe (pt++(ray++ms)).length) ((0:Nat):Int) cs c op val pt ray ms from rfl) (this.trans ?_);rw [aEo,Ib,Ib,Nc,Nc]
theorem agm a (h:iw a=true): ∃K,qU K a=some (jt a):=⟨0,by rw [Iz];rfl⟩
end Ls.qE
namespace Ls.aiB
open dC
open Ls.bY
open Ls.fW
open Ls.oz
open Ls.cU
open Ls.pU
open Ls.pY
open Ls.eU
open Ls.sJ
open Ls.qE
open Go
def alJ (a:k<=450) (h:Fq k s=true):EV s=true:=by
 simp only [Fq,dD,decide_eq_true_eq,aEc]at h;simp only [EV,aEi];omega
def aw0 (h:at3 c l=true) (n:si o.2.2.1=true/\j8 o.2.2.1=true) (p:si o.2.2.2.1=true/\j8 o.2.2.2.1=true) (q:si o.2.2.2.2=true/\j8 o.2.2.2.2=true) (r:o.2.1.length<=450):gR (c,l,o)=true:=by
 simp only [at3,aEd,alW,aEi]at h;obtain⟨⟨_,b,d,t,u,⟨E,v⟩,w⟩,j⟩:=h;have x:c.1.length<=3\/32<c.1.length:=by
  by_cases e:3<c.1.length/\c.1.length<=32
  ·rw [ax (by simp only [aEc];omega),aF (by simp only [aEc];omega)]at b;cases b
  ·omega
 simp only [dD,decide_eq_true_eq,aEc]at t u;have y:l.length<=7\/64<l.length:=by
  by_cases e:7<l.length/\l.length<=64
  ·rw [ax (by simp only [aEc];omega),aF (by simp only [aEc];omega)]at d;cases d
  ·omega
 have a:(l.all λf=>(si f.2.1&&j8 f.2.1)&&EV f.2.2.1)=true:=by
  rw [aEh]at j⊢;intro f a;have:=j f a;simp only [fwF,aEd]at this;obtain⟨⟨z,A⟩,k⟩:=this;simp only [dD,decide_eq_true_eq,aEc]at z;simp only [aEd,si,aEi];refine⟨⟨aa, ?_⟩,alJ aa A⟩;simp only [j8,aEh]at k⊢;exact λs D=>alJ aa (k s D)
 simp only [gR,anU,aEd,Bool.or_eq_true,aEi,Nat.blt_eq];refine⟨⟨⟨⟨⟨⟨?_,w⟩,v⟩,aa,a⟩,⟨⟨n,p⟩,q⟩, ?_⟩,x⟩,y⟩
 ·simp only [si,aEi];omega
 ·simp only [EV,aEi];exact r
def amB (h:anU (c,l,o)=true):fj (c,l)=true/\gr (c,l)=true:=by
 obtain⟨⟨⟨b,d⟩,f⟩,⟨k,j⟩,_⟩:=adI h;have a:room l.length=true:=by simp only [room,Nat.blt_eq];omega
 constructor
 ·simp only [fj,Ax b,aa5 d,HF f,a,j,Bool.and_self]
 ·simp only [gr,Ax b,Nu d,Hs f,a,j,Bool.and_self]
def XL k n:bZ k n= !dD n k:=by
 by_cases h:k<n
 ·rw [ax h,dH aa];rfl
 ·rw [az h,aF aa];rfl
def at1 K a (l:List dx) (i:Nat) f (b:l[i]? =some f) (d:i+1<=9223372036854775807) (t:f.2.1.length<=9223372036854775807):
  ∀n r j,f.2.1.length<=j+n->j<=f.2.1.length->n<r->mW K a r l i j=cond ((f.2.1.drop j).all (Fq 26)) (gD K a l ((i+1:Nat):Int)) (some false):=by
 intro n;induction n with
 |zero=>
  intro r j h k p;obtain⟨r,rfl⟩: ∃q,r=q+1:=⟨r-1,aa⟩;rw [Lx];simp only [J6];rw [bH,b];show cond (bZ (j:Int) (aEe f.2.1.length)) _ _=_;rw [az (by simp only [aEc];omega),cond_false,aEf aa];show gD K a l (aEx .i64 ((i:Int)+1))=gD K a l _;rw [wrap_i64 aa aa];rfl
 |succ n s=>
  intro r j h k p;obtain⟨r,rfl⟩: ∃q,r=q+1:=⟨r-1,aa⟩;rw [Lx];simp only [J6];rw [bH,b];show cond (bZ (j:Int) (aEe f.2.1.length)) _ _=_;by_cases c:j<f.2.1.length
  ·rw [ax (by simp only [aEc];omega),cond_true];rw [Zs];simp only [Xx];rw [bH,b];show(dW f.2.1 (j:Int)).bind _=_;rw [bH,List.getElem?_eq_getElem c];show cond (bZ 26 (aEe f.2.1[j].length)) _ _=_;rw [aEp c,aEn,XL];show cond (!Fq 26 f.2.1[j]) _ _=_;cases Fq 26 f.2.1[j]with
   |false=>rfl
   |true=>
    rw [aEg,cond_false,aEk];show mW K a r l (i:Int) (aEx .i64 ((j:Int)+1))=_;rw [wrap_i64 aa aa];exact s r (j+1) aa aa aa
  ·rw [az (by simp only [aEc];omega),cond_false,aEf aa];show gD K a l (aEx .i64 ((i:Int)+1))=gD K a l _;rw [wrap_i64 aa aa];rfl
def auF K (l:List dx) (s:l.length<=1000) (d: ∀f∈l,f.2.1.length<=9223372036854775807) (h: ∀f∈l,f.2.1.length<K):
  ∀n r i,l.length<=i+n->n<r->gD K r l i=some ((l.drop i).all brF):=by
 intro n;induction n with
 |zero=>
  intro r i j k;obtain⟨r,rfl⟩: ∃q,r=q+1:=⟨r-1,aa⟩;rw [L8];simp only [JX];rw [az (by simp only [aEc];omega),cond_false,aEf aa];rfl
 |succ n p=>
  intro r i j k;obtain⟨r,rfl⟩: ∃q,r=q+1:=⟨r-1,aa⟩;rw [L8];simp only [JX];by_cases c:i<l.length
  ·rw [ax (by simp only [aEc];omega),cond_true];have a:l[i]? =some l[i]:=List.getElem?_eq_getElem c;have b:l[i]∈l:=List.getElem_mem c;rw [YN];simp only [aav];rw [bH,a];show cond (bZ 26 (aEe l[i].2.2.1.length)) _ _=_;rw [aEp c,aEn,XL];show cond (!Fq 26 l[i].2.2.1) _ _=some (((Fq 26 l[i].2.2.1&&Fq 26 l[i].2.2.2)&&l[i].2.1.all (Fq 26))&&_);cases Fq 26 l[i].2.2.1 with
   |false=>rfl
   |true=>
   rw [aEg,cond_false,aEk];rw [aEl,XL];show cond (!Fq 26 l[i].2.2.2) _ _=_;cases Fq 26 l[i].2.2.2 with
   |false=>rfl
   |true=>
   rw [aEg,cond_false,aEk];show mW K r K l (i:Int) ((0:Nat):Int)=_;rw [at1 K r l i l[i] a aa (d _ b) l[i].2.1.length K 0 aa aa (h _ b),aEo];cases l[i].2.1.all (Fq 26)with
   |false=>simp
   |true=>
    rw [cond_true];have:=p r (i+1) aa aa;rw [this];simp
  ·rw [az (by simp only [aEc];omega),cond_false,aEf aa];rfl
def ayw K a (l:List dx) (i:Nat) f (b:l[i]? =some f) (d:i+1<=9223372036854775807) (t:f.2.1.length<=9223372036854775807):
  ∀n r j,f.2.1.length<=j+n->j<=f.2.1.length->n<r->qv K a r l i j=cond ((f.2.1.drop j).all (Fq 210)) (jO K a l ((i+1:Nat):Int)) (some false):=by
 intro n;induction n with
 |zero=>
  intro r j h k p;obtain⟨r,rfl⟩: ∃q,r=q+1:=⟨r-1,aa⟩;rw [Q5];simp only [O2];rw [bH,b];show cond (bZ (j:Int) (aEe f.2.1.length)) _ _=_;rw [az (by simp only [aEc];omega),cond_false,aEf aa];show jO K a l (aEx .i64 ((i:Int)+1))=jO K a l _;rw [wrap_i64 aa aa];rfl
 |succ n s=>
  intro r j h k p;obtain⟨r,rfl⟩: ∃q,r=q+1:=⟨r-1,aa⟩;rw [Q5];simp only [O2];rw [bH,b];show cond (bZ (j:Int) (aEe f.2.1.length)) _ _=_;by_cases c:j<f.2.1.length
  ·rw [ax (by simp only [aEc];omega),cond_true];rw [aeq];simp only [abp];rw [bH,b];show(dW f.2.1 (j:Int)).bind _=_;rw [bH,List.getElem?_eq_getElem c];show cond (bZ 210 (aEe f.2.1[j].length)) _ _=_;rw [aEp c,aEn,XL];show cond (!Fq 210 f.2.1[j]) _ _=_;cases Fq 210 f.2.1[j]with
   |false=>rfl
   |true=>
    rw [aEg,cond_false,aEk];show qv K a r l (i:Int) (aEx .i64 ((j:Int)+1))=_;rw [wrap_i64 aa aa];exact s r (j+1) aa aa aa
  ·rw [az (by simp only [aEc];omega),cond_false,aEf aa];show jO K a l (aEx .i64 ((i:Int)+1))=jO K a l _;rw [wrap_i64 aa aa];rfl
def aza K (l:List dx) (s:l.length<=1000) (d: ∀f∈l,f.2.1.length<=9223372036854775807) (h: ∀f∈l,f.2.1.length<K):
  ∀n r i,l.length<=i+n->n<r->jO K r l i=some ((l.drop i).all fwF):=by
 intro n;induction n with
 |zero=>
  intro r i j k;obtain⟨r,rfl⟩: ∃q,r=q+1:=⟨r-1,aa⟩;rw [RJ];simp only [O7];rw [az (by simp only [aEc];omega),cond_false,aEf aa];rfl
 |succ n p=>
  intro r i j k;obtain⟨r,rfl⟩: ∃q,r=q+1:=⟨r-1,aa⟩;rw [RJ];simp only [O7];by_cases c:i<l.length
  ·rw [ax (by simp only [aEc];omega),cond_true];have a:l[i]? =some l[i]:=List.getElem?_eq_getElem c;have b:l[i]∈l:=List.getElem_mem c;rw [afi];simp only [aeJ];rw [bH,a];show cond (bZ 40 (aEe l[i].2.1.length)) _ _=_;rw [aEp c,aEn,XL];show cond (!dD (aEe l[i].2.1.length) 40) _ _=some (((dD (aEe l[i].2.1.length) 40&&Fq 210 l[i].2.2.1)&&l[i].2.1.all (Fq 210))&&_);cases dD (aEe l[i].2.1.length) 40 with
   |false=>rfl
   |true=>
   rw [aEg,cond_false,aEk];rw [aEl,XL];show cond (!Fq 210 l[i].2.2.1) _ _=_;cases Fq 210 l[i].2.2.1 with
   |false=>rfl
   |true=>
   rw [aEg,cond_false,aEk];show qv K r K l (i:Int) ((0:Nat):Int)=_;rw [ayw K r l i l[i] a aa (d _ b) l[i].2.1.length K 0 aa aa (h _ b),aEo];cases l[i].2.1.all (Fq 210)with
   |false=>simp
   |true=>
    rw [cond_true];have:=p r (i+1) aa aa;rw [this];simp
  ·rw [az (by simp only [aEc];omega),cond_false,aEf aa];rfl
def ahj (h:alm l=true): ∀f∈l,f.2.1.length<=9223372036854775807:=λf a=>by
 simp only [alm,aEh]at h;simpa [aEi]using h f a
def asc (l:List dx):Nat:=(l.map λf=>f.2.1.length+1).sum
def aiw: ∀l,∀f∈l,f.2.1.length<asc l+l.length+1
 | [],f,a=>by simp at a
 |g::l,f,a=>by
  simp only [asc,List.map_cons,List.sum_cons,aEq];rcases List.mem_cons.1 a with rfl |a
  ·omega
  ·have:=aiw l f a;simp only [asc]at this;omega
def ath l (h:s9 l=true): ∃K,Rl K l=some (sC l):=by
 refine⟨asc l+l.length+1, ?_⟩;rw [afP];simp only [aaj];simp only [sC,ajn];cases c:dD (aEe l.length) 4 with
 |true=>rfl
 |false=>
  rw [cond_false,Bool.false_or];cases a:bZ 64 (aEe l.length)with
  |true=>rfl
  |false=>
   rw [cond_false,Bool.false_or];have b:l.length<=64:=by
    rw [XL]at a;simp only [dD,Bool.not_eq_false',decide_eq_true_eq,aEc]at a;omega
   show gD _ _ l ((0:Nat):Int)=_;rw [auF _ l aa (ahj h) (aiw l) l.length _ 0 aa aa,aEo]
def awf c l (h:xP (c,l)=true): ∃K,Zo K c l=some (wQ (c,l)):=by
 refine⟨asc l+l.length+1, ?_⟩;rw [ak8];simp only [wQ,at3];rw [show s9 l=true from h,cond_true];simp only [sC,jb,kQ,cond_true];have b:bZ 40 (aEe c.1.length)= !dD (aEe c.1.length) 40:=XL _ _;have d:bZ 70 (aEe l.length)= !dD (aEe l.length) 70:=XL _ _;rw [b,d];have f:l.length<=1000->qj (asc l+l.length+1) l=some (l.all fwF):=λa=>by
  rw [aea];show jO _ _ l ((0:Nat):Int)=_;rw [aza _ l a (ahj h) (aiw l) l.length _ 0 aa aa,aEo]
 cases ajn l
 ·rfl
 rw [aEg,cond_false,aEk];have j:dD (aEe l.length) 70=true->l.length<=1000:=λh=>by
  simp only [dD,decide_eq_true_eq,aEc]at h;omega
 cases bZ 3 (aEe c.1.length)<;>cases dD (aEe c.1.length) 32<;>cases bZ 7 (aEe l.length)<;>cases dD (aEe l.length) 64<;>cases dD (aEe c.1.length) 40<;>cases k:dD (aEe l.length) 70<;>cases alW c<;>first |rfl |exact f (j k)
def aac c l o (h:o3 (c,l,o)=true): ∃K,yH K c l o=some (mJ (c,l,o)):=by
 obtain⟨j,c⟩:=c;obtain⟨k,b,d,a,f⟩:=o;refine⟨0, ?_⟩;rw [PQ];simp only [mJ,iE,j0,cond_true];rw [show xP ((j,c),l)=true from h,cond_true];simp only [wQ];cases t:at3 (j,c) l
 case false=>rfl
 rw [aEg,cond_false,show fY d=true from rfl,show fY a=true from rfl,show fY f=true from rfl,cond_true];simp only [jV];cases p:(si d&&j8 d)
 case false=>rfl
 rw [aEg,cond_false,cond_true];cases q:(si a&&j8 a)
 case false=>rfl
 rw [aEg,cond_false,cond_true];cases r:(si f&&j8 f)
 case false=>rfl
 rw [aEg,cond_false];by_cases u:b.length<=450
 ·rw [az (by simp only [aEc];omega),cond_false];simp only [aEd]at p q r;have n:=aw0 (o:=(k,b,d,a,f)) t p q r u;have s:anU ((j,c),l,k,b,d,a,f)=true:=by
   simp only [gR,aEd]at n;exact n.1.1
  obtain⟨v,w⟩:=amB s;rw [Lg];rw [v,w,cond_true,cond_true];simp only [ix,j7];rw [aG rfl,cond_true,n,cond_true,show rh ((j,c),l,k,b,d,a,f)=true from s,cond_true];simp only [oh,qA];rw [aG rfl,cond_true];rfl
 ·rw [ax (by simp only [aEc];omega)];rfl
end Ls.aiB
namespace Ls.Lib
open dC
open Ls
open Ls.Lf
open Go
set_option maxRecDepth 100000
def kf {g:Nat} {b:List Nat} {c:List (Nat×List (Nat×Option Nat×Co))} {ty:List (Nat×Ty)} (h:(E0.fn g).isSome=true:=by kernel_rfl) (d: ∀a,EM.vP g a=none:=by exact λ_=>rfl) (f:EM.ext g=none:=by rfl):eD EM g (Fa (E0.fn g) b c ty).erase:=kn (auP h) d f
def oZ {g:Nat} {gs:List (Option Nat)} {t:Ty} {a:List (Option Nat)} {b:Ty} {pre:t.Den->Bool} {y:t.Den->b.Den} {f:Nat->t.Den->Option b.Den} (X:Fx b.Den) (d: ∀x,pre x=true-> ∃K,f K x=some (y x)) (j:ab6 EM X.s:=by exact .n) (p:abE EM X.l:=by exact .n) (k:eD EM g X.F.erase:=by exact kf) (r:X.ex=aJ a b some:=by rfl) (c:a≠ []:=by simp) (e: ∀K x,Jt X K (aI gs (aE t x))=f K x:=by intro K x;kernel_rfl):aN EM g (.val gs t a b pre y):=
 okF X r j p k c λx h=>let⟨K,q⟩:=d x h;⟨K,(e K x).trans q⟩
def aad:aN EM 11 Ql:=oZ aiB.jJ aiB.ath
def Ua:aN EM 32 Mx:=oZ sJ.OU sJ.amD
def P1:aN EM 12 Og:=oZ sJ.wN sJ.ayD (.c Ua .n)
def acW:aN EM 4 W2:=oZ aiB.mS (λx=>aiB.awf x.1 x.2) (.c aad (.c P1 .n))
def VD:aN EM 13 Mm:=oZ sJ.OP sJ.anv (.c P1 .n)
def Uk:aN EM 5 MB:=oZ sJ.Pn sJ.aj2 (.c VD .n)
def ZW:aN EM 6 IB:=avt
def NZ:aN EM 82 wJ:=ajg rfl (λ_=>rfl) azN k82
def ri:aN EM 49 qw:=oZ pU.MX pU.aeN (.c NZ .n)
def oH:aN EM 171 ko:=oZ cU.ql (λx=>cU.aim x.1 x.2)
def y6:aN EM 189 pV:=oZ cU.kI (λx=>cU.afW x.1 x.2) (.c oH .n)
def Bq:aN EM 157 wB:=oZ cU.Gg (λx=>cU.air x.1 x.2) (.c y6 .n)
def Ws:aN EM 158 FZ:=aww aAn aAP aAM aAI rfl
def PB:aN EM 119 Gd:=oZ cU.Ay cU.Oo (.c Bq (.c Ws .n))
def yL:aN EM 128 oX:=oZ cU.kq (λx=>cU.aek x.1 x.2) (.c oH .n)
def A2:aN EM 87 uh:=oZ cU.Fc (λx=>cU.agd x.1 x.2) (.c yL .n)
def Vz:aN EM 120 MN:=oZ cU.OM cU.Ni (.c A2 .n)
def CA:aN EM 77 zg:=oZ cU.HV cU.Je (.c PB (.c Vz .n))
def LW:aN EM 50 C8:=oZ pU.Fm pU.Oo (.c CA .n)
def Py:aN EM 51 yF:=ajI rfl (λ_=>rfl) azN aAC k83 k51
def Ft:aN EM 53 Am:=oZ pU.Ko pU.Ni (.c A2 .n)
def sD:aN EM 198 sa:=oZ oz.yW oz.av8
def DY:aN EM 257 tI:=λA H vs b x _ _ _ a=>(aEs a).elim
def H4:aN EM 242 yT:=oZ cU.dK cU.auz (.c DY .n)
def CZ:aN EM 273 sH:=λA H vs b x _ _ _ a=>(aEs a).elim
def Cx:aN EM 167 tk:=awl
def Xi:aN EM 225 Ph:=oZ cU.HU cU.av4 (.c H4 (.c CZ (.c Cx .n))) (.c kf (.c kf (.c kf (.c kf (.c kf (.c kf .n))))))
def Yx:aN EM 163 P7:=oZ cU.cK cU.awi (.c Bq (.c sD (.c Xi .n))) (.c kf (.c kf (.c kf (.c kf .n))))
def oO:aN EM 123 pA:=oZ cU.tT (λx=>cU.aw7 x.1 x.2) (.c CA (.c Yx .n))
def Bp:aN EM 201 zH:=oZ oz.dP (λx=>oz.ae1 x.1 x.2) .n (.c kf (.c kf .n))
def Xn:aN EM 202 OS:=oZ oz.eh (λx=>oz.Ru x.1 x.2) (.c sD .n) (.c kf (.c kf .n))
def Ky:aN EM 203 zj:=cU.abR .n (.c kf .n) kf cU.aeu
def Jg:aN EM 164 DN:=oZ cU.aA (λx=>cU.arj x.1 x.2) (.c Bp (.c Xn (.c sD (.c Ky .n)))) (.c kf (.c kf .n))
def Ub:aN EM 124 Mf:=oZ cU.tw (λx=>cU.ZO x.1 x.2) (.c Jg .n)
def Sy:aN EM 169 Bb:=ang
def aeS:aN EM 205 X9:=ajl rfl rfl (λ_=>rfl) aAq
def sF:aN EM 125 pQ:=oZ cU.bg cU.avR (.c Cx (.c Sy (.c aeS .n))) (.c kf (.c kf (.c kf (.c kf (.c kf .n)))))
def OT:aN EM 84 K9:=oZ cU.Nv (λx=>cU.ay4 x.1 x.2) (.c oO (.c Ub (.c sF .n)))
def MG:aN EM 85 De:=λA H vs b x _ _ _ a=>(aEs a).elim
def U2:aN EM 86 LP:=λA H vs b x _ _ _ a=>(aEs a).elim
def Rf:aN EM 52 IZ:=oZ pU.nJ (λx=>pU.ZO x.1 x.2) (.c Ft (.c OT (.c MG (.c U2 .n))))
def n6:aN EM 26 nC:=oZ pU.sc pU.Je (.c ri (.c LW (.c Py (.c Rf (.c Ft .n)))))
def XD:aN EM 74 Pf:=oZ pU.IP pU.ayp (.c n6 (.c ri .n))
def VL:aN EM 75 Pc:=oZ pU.IT pU.azc (.c n6 (.c ri .n))
def WO:aN EM 76 Pb:=oZ pY.Bl pY.Ru
def IU:aN EM 41 DJ:=oZ pY.iS pY.ZI (.c n6 (.c XD (.c VL (.c WO .n)))) (k:=kn af (λ_=>rfl) rfl)
def SH:aN EM 40 JP:=oZ pY.oU pY.akx (.c IU .n)
def Xg:aN EM 20 OR:=oZ pY.B1 pY.arw (.c SH (.c IU .n))
def A5:aN EM 42 lK:=amF k42
def SQ:aN EM 78 Ka:=oZ pY.DU pY.ank
def SA:aN EM 43 Kx:=oZ pY.xS pY.anJ (.c CA (.c SQ .n))
def M3:aN EM 21 Dc:=oZ pY.gh (λx=>pY.afZ x.1 x.2) (.c A5 (.c SA .n))
def IQ:aN EM 7 DO:=oZ pY.lG (λx=>pY.aqJ x.1 x.2) (.c Xg (.c M3 .n))
def se:aN EM 98 r6:=oZ fW.tW fW.atg
def rT:aN EM 97 sX:=oZ fW.Qg fW.ay0 (.c se .n)
def abw:aN EM 80 TO:=oZ bY.oD bY.awk
def gO:aN EM 81 gZ:=oZ bY.MU bY.akD
def nK:aN EM 47 nT:=oZ bY.I7 bY.Zj (.c gO .n)
def LO:aN EM 46 Io:=oZ bY.ED bY.Je (.c abw (.c nK .n))
def nD:aN EM 99 nV:=oZ fW.HC fW.aq4 (.c se .n)
def O9:aN EM 135 KF:=oZ bY.G3 bY.aiX (.c gO .n)
def uI:aN EM 138 tj:=oZ bY.wW bY.Ni
def mY:aN EM 137 ow:=oZ bY.Fj bY.ayj
def DC:aN EM 136 Cw:=oZ bY.mI (λx=>bY.ae1 x.1 x.2)
def Lw:aN EM 100 Hv:=oZ bY.EP (λx=>bY.ae3 x.1 x.2) (.c O9 (.c uI (.c mY (.c DC .n))))
def QZ:aN EM 139 Iv:=oZ bY.CS bY.aiG (.c gO .n)
def Nj:aN EM 181 It:=oZ bY.TY (λx=>bY.Ru x.1 x.2) (.c nK .n)
def BA:aN EM 177 zY:=oZ bY.pk bY.ZI (.c gO .n)
def Yk:aN EM 216 P9:=oZ bY.KD (λx=>bY.ash x.1 x.2)
def Dt:aN EM 176 Bv:=oZ bY.qV bY.asQ
def TS:aN EM 218 Rq:=oZ bY.U9 (λx=>bY.atr x.1 x.2)
def M8:aN EM 183 HD:=oZ bY.qT (λx=>bY.adb x.1 x.2) (.c TS (.c mY .n))
def aal:aN EM 217 P3:=oZ bY.oI (λx=>bY.aeN x.1 x.2) (.c mY (.c DC (.c M8 .n)))
def FU:aN EM 178 EO:=oZ bY.lb (λx=>bY.axa x.1 x.2) (.c mY .n)
def IE:aN EM 180 Ds:=oZ bY.zi bY.aos (.c gO .n)
def abJ:aN EM 182 TW:=oZ bY.Cm (λx=>bY.ai2 x.1 x.2) (.c TS (.c mY .n))
def RK:aN EM 143 Nr:=oZ bY.EY (λx=>bY.ayT x.1 x.2) (.c Nj (.c BA (.c Dt (.c uI (.c gO (.c abJ (.c FU (.c mY (.c DC (.c M8 .n))))))))))
def Po:aN EM 174 KR:=oZ bY.Yc (λx=>bY.axd x.1 x.2) (.c IE (.c RK .n))
def LM:aN EM 175 HL:=oZ bY.EJ (λx=>bY.aum x.1 x.2) (.c Nj (.c BA (.c Yk (.c Dt (.c uI (.c mY (.c aal (.c gO (.c FU (.c Po .n))))))))))
def YH:aN EM 179 Q8:=oZ bY.mL (λx=>bY.aeu x.1 x.2) (.c mY .n)
def te:aN EM 141 rV:=oZ bY.Gb (λx=>bY.amS x.1 x.2) (.c nK (.c BA (.c Dt (.c uI (.c YH (.c gO (.c FU .n)))))))
def abG:aN EM 140 T0:=oZ bY.WZ (λx=>bY.avW x.1 x.2) (.c LM (.c te (.c Po .n)))
def JD:aN EM 101 Fv:=oZ bY.vZ (λx=>bY.arS x.1 x.2) (.c QZ (.c abG .n))
def VQ:aN EM 59 OZ:=oZ fW.wI fW.aq5 (.c rT (.c LO (.c se (.c nD (.c Lw (.c JD .n))))))
def Wh:aN EM 60 O1:=oZ fW.QM fW.Zj (.c rT (.c nK (.c nD .n)))
def Di:aN EM 29 Ca:=oZ fW.D4 fW.Je (.c VQ (.c Wh .n))
def aaK:aN EM 79 Qe:=oZ pY.Tq pY.atx (.c rT (.c nK (.c nD .n)))
def Kv:aN EM 45 FH:=oZ pY.B8 pY.ars (.c Di (.c aaK .n))
def U8:aN EM 44 Mc:=oZ pY.qh pY.ann (.c Kv .n)
def YO:aN EM 22 QI:=oZ pY.Eh pY.ans (.c U8 (.c Kv .n))
def PE:aN EM 23 Gc:=oZ pY.eR (λx=>pY.agt x.1 x.2) (.c LO (.c nK .n))
def MJ:aN EM 8 HT:=oZ pY.oK (λx=>pY.arJ x.1 x.2) (.c YO (.c PE .n))
def Sv:aN EM 24 Kt:=oZ qE.Dk (λx=>qE.aag x.1 x.2.1 x.2.2)
def AD:aN EM 25 kJ:=arx k48 k25
def Df:aN EM 211 yI:=oZ pU.s8 (λx=>pU.an8 x.1 x.2) (.c n6 (.c ri .n))
def Gf:aN EM 253 BY:=oZ oz.M4 oz.amt
def Mw:aN EM 277 HE:=oZ oz.mO (λx=>oz.ai2 x.1 x.2) (.c sD .n)
def Lt:aN EM 278 Cy:=oZ oz.C3 (λx=>oz.FN x.1 x.2)
def J3:aN EM 280 FW:=oZ oz.na (λx=>oz.adb x.1 x.2) (.c sD .n)
def K6:aN EM 279 B2:=oZ oz.uo (λx=>oz.abB x.1 x.2) (.c Bp (.c J3 .n))
def Lj:aN EM 281 BK:=oZ oz.C5 (λx=>oz.abL x.1 x.2) (.c Bp .n)
def F0:aN EM 252 Ef:=oZ oz.NK (λx=>oz.ayK x.1 x.2) (.c Mw (.c Lt (.c K6 (.c Lj .n)))) (.c kf .n)
def aas:aN EM 270 RG:=oZ oz.La oz.axq
def Sn:aN EM 254 J1:=oZ cU.DX (λx=>cU.aoz x.1 x.2) (.c oO (.c Gf (.c F0 (.c aas .n))))
def Yi:aN EM 236 RF:=oZ cU.TM cU.aiX (.c Sn .n)
def Mp:aN EM 268 C9:=oZ cU.wV cU.avZ (.c Cx .n)
def yN:aN EM 251 vC:=oZ cU.DP cU.amx (.c Mp (.c sF .n))
def FR:aN EM 232 Ez:=oZ cU.NC (λx=>cU.ayV x.1 x.2) (.c oO (.c Gf (.c F0 (.c yN .n))))
def abr:aN EM 237 TG:=oZ cU.Wr cU.ayX (.c FR .n)
def QN:aN EM 271 I4:=oZ cU.vJ (λx=>cU.alS x.1 x.2) (.c Jg (.c Mw (.c J3 .n)))
def SM:aN EM 255 KA:=oZ cU.yh (λx=>cU.amo x.1 x.2) (.c oO (.c QN (.c sF .n)))
def abK:aN EM 238 Tw:=oZ cU.W7 (λx=>cU.ayI x.1 x.2) (.c SM .n)
def Gt:aN EM 213 CC:=oZ pU.ma (λx=>pU.aua x.1 x.2) (.c OT (.c Yi (.c abr (.c abK .n))))
def Pj:aN EM 231 Lh:=oZ cU.NB (λx=>cU.amR x.1 x.2) (.c oO (.c F0 (.c yN .n)))
def Tl:aN EM 267 Kj:=oZ cU.Na (λx=>cU.anl x.1 x.2) (.c Ky .n)
def F3:aN EM 250 Ex:=oZ cU.Nn (λx=>cU.amZ x.1 x.2) (.c oO (.c Tl (.c yN .n)))
def Az:aN EM 234 xM:=oZ pU.FD (λx=>pU.av9 x.1 x.2.1 x.2.2.1 x.2.2.2) (.c F3 .n)
def wZ:aN EM 233 qY:=oZ pU.AQ pU.FN (.c Az .n)
def xA:aN EM 235 qL:=λA H vs b x _ _ _ a=>(aEs a).elim
def W4:aN EM 132 OG:=oZ pU.cA (λx=>pU.amZ x.1 x.2) (.c Df (.c Gt (.c Pj (.c FR (.c wZ (.c xA (.c Az (.c F3 .n)))))))) (.c kf (.c kf (.c kf (.c kf .n))))
def oF:aN EM 92 lM:=oZ qE.cE (λx=>qE.aze x.1 x.2.1 x.2.2) (.c W4 .n) (.c kf .n)
def Xe:aN EM 131 O6:=oZ pU.cz (λx=>pU.amR x.1 x.2) (.c Df (.c Gt (.c Pj (.c FR (.c wZ (.c xA (.c Az (.c F3 .n)))))))) (.c kf (.c kf (.c kf (.c kf .n))))
def oA:aN EM 91 lV:=oZ qE.cF (λx=>qE.ayn x.1 x.2.1 x.2.2) (.c Xe .n) (.c kf .n)
def Pv:aN EM 90 Ge:=oZ qE.pq (λx=>qE.atr x.1 x.2.1 x.2.2.1 x.2.2.2) (.c oF (.c oA .n))
def uc:aN EM 57 rl:=oZ qE.Ig qE.akX
def Fw:aN EM 54 vT:=oZ qE.aK (λx=>qE.ah6 x.1 x.2.1 x.2.2) (.c Pv (.c uc .n)) (.c kf (.c kf (.c kf .n)))
def MY:aN EM 55 C1:=oZ qE.mX (λx=>qE.axl x.1 x.2.1 x.2.2) (.c oF (.c oA .n))
def A4:aN EM 93 lI:=am9 k93
def Fe:aN EM 95 vD:=oZ qE.wP qE.agm
def GO:aN EM 56 yx:=oZ qE.aQ (λx=>qE.akh x.1 x.2.1 x.2.2.1 x.2.2.2) (.c A4 (.c uc (.c oF (.c oA (.c Fe .n))))) (.c kf (.c kf .n))
def Au:aN EM 134 k9:=aqY aAz auC
def UD:aN EM 96 Dn:=qE.aaq (.c Au .n) .n kf qE.auI
def WG:aN EM 58 O4:=oZ qE.P4 qE.awK (.c UD .n)
def Lm:aN EM 27 BD:=oZ qE.ub (λx=>qE.avl x.1 x.2) (.c Fw (.c MY (.c GO (.c uc (.c WG .n)))))
def S9:aN EM 9 JE:=oZ qE.dT (λx=>qE.Zz x.1 x.2.1 x.2.2) (.c IQ (.c Sv (.c AD (.c n6 (.c Lm .n)))))
def WT:aN EM 28 OJ:=oZ eU.IH (λx=>eU.aag x.1 x.2.1 x.2.2)
def U4:aN EM 30 LR:=oZ eU.p8 eU.alE (.c Di .n)
def DW:aN EM 102 Cu:=oZ fW.Tv (λx=>fW.ae3 x.1 x.2) (.c rT (.c nD (.c te (.c Lw .n))))
def F7:aN EM 142 EB:=oZ fW.GX (λx=>fW.awh x.1 x.2) (.c O9 (.c IE (.c JD (.c LM .n))))
def ug:aN EM 105 ru:=oZ eU.o6 eU.agh (.c F7 .n)
def LL:aN EM 108 H8:=oZ fW.Ed (λx=>fW.ade x.1 x.2) (.c se (.c te (.c rT (.c nD (.c F7 .n)))))
def ZK:aN EM 104 Rv:=oZ eU.zb (λx=>eU.ade x.1 x.2) (.c LL .n)
def O8:aN EM 107 K0:=oZ fW.Om (λx=>fW.ai1 x.1 x.2) (.c se (.c RK (.c rT (.c nD (.c te (.c F7 .n))))))
def abn:aN EM 103 TH:=oZ eU.BV (λx=>eU.ai1 x.1 x.2) (.c O8 .n)
def Tf:aN EM 61 JZ:=oZ eU.rO (λx=>eU.ak5 x.1 x.2.1 x.2.2) (.c DW (.c ug (.c ZK (.c abn .n))))
def KT:aN EM 63 Km:=oZ eU.H7 (λx=>eU.az3 x.1 x.2) (.c LL (.c O8 .n))
def Qm:aN EM 106 Iy:=oZ eU.JT (λx=>eU.aiE x.1 x.2) (.c ug (.c KT (.c DW .n)))
def aeA:aN EM 62 XV:=oZ eU.AW (λx=>eU.ayh x.1 x.2) (.c Qm .n)
def acd:aN EM 65 To:=oZ eU.Ba (λx=>eU.av2 x.1 x.2)
def Tc:aN EM 109 JR:=oZ eU.mw (λx=>eU.alI x.1 x.2)
def abM:aN EM 64 TP:=oZ eU.Xz (λx=>eU.awA x.1 x.2) (.c Tc .n)
def PG:aN EM 110 Gk:=oZ eU.Iu eU.agw
def VO:aN EM 66 O0:=oZ eU.pf (λx=>eU.aq8 x.1 x.2.1 x.2.2) (.c PG (.c KT (.c DW (.c ug .n))))
def Zv:aN EM 31 P6:=oZ sJ.K1 (λx=>sJ.auG x.1 x.2.1 x.2.2) (.c Tf (.c aeA (.c KT (.c acd (.c abM (.c VO .n))))))
def Xt:aN EM 10 OQ:=oZ sJ.cm (λx=>sJ.Zz x.1 x.2.1 x.2.2) (.c MJ (.c WT (.c Di (.c U4 (.c Zv .n))))) (k:=kn af (λ_=>rfl) rfl)
def K7:aN EM 3 N6:=oZ aiB.uq (λx=>aiB.aac x.1 x.2.1 x.2.2) (.c acW (.c Uk (.c ZW (.c IQ (.c MJ (.c S9 (.c Xt .n)))))))
end Ls.Lib
namespace dC
open Go Go.ChangeShapes Go.WideShapes
def Kept (W w':World):Prop:=W.keptBut w' (λ_=>False)/\ ∀a:Addr,a.block<W.heap.size->w'.frozen? a=W.frozen? a
section
variable {H:Type} {enc:TypeId×Value->H} {P:Program}
theorem ahA {s:ChangeSpec}
  (hW:DataW.Whole enc P f.params.toList s.vars apart W args.toList ds gs before)
  (aBO: ∀b sp hd,DataW.TrodAll enc P W' b sp hd f.resultTypes.toList (v.resultList f.resultTypes.size) (s.fn H (ds++gs)).results [])
  (aBp: ∀sp,(∀p∈before,sp p.block=true)->DataW.TrodAll enc P W' 0 sp true f.params.toList args.toList (s.fn H (ds++gs)).args pa)
  (aBG: ∀sp,(∀p∈before,sp p.block=true)->DataW.TrodVars enc P W' sp s.vars (s.fn H (ds++gs)).vars pv)
  (hps:before=pa++pv) (hk:Kept W W')
  (hok: ∀(j:Nat) t r,f.resultTypes[j]? =some t->(v.resultList f.resultTypes.size)[j]? =some r->Value.okWide P W' .any 0 t r):
  s.post enc P f apart fresh handsOn again W args v W':=by
 have hold: ∀p∈before,(λb=>decide (b<W.heap.size)) p.block=true:=λp hp=>by simpa using hW.lt p hp
 have hlt: ∀p∈before,p.block<W.heap.size:=λp hp=>hW.lt p hp
 refine⟨ds,gs,before,[],pa,pv,hW,aBO _ _ _,aBp _ hold,aBG _ hold,World.keptBut_mono (λ_ h=>h.elim) hk.1,λ_=> ?_⟩;obtain⟨_,_,_,_,_,hz,hn⟩:=hW;refine⟨hok,_,_,([]++pa)++pv,⟨[]++pa,pv,trodAll_append (aBp _ (λ_ _=>rfl)) (aBO _ _ _),aBG _ (λ_ _=>rfl),rfl, ?_, ?_⟩, ?_⟩
 ·intro b off hp;have hp':MemPlace.cell b off∈before:=by rw [hps];simpa using hp
  rw [hk.2 _ (hlt _ hp')];exact hz b off hp'
 ·intro ha;have:=hn ha;rw [hps]at this;simpa using this
 ·intro p hp _;rw [hps];simpa using hp
end
end dC
namespace Ls
open dC
open Go Go.ChangeShapes Go.WideShapes
theorem Yh: ∀l,(∀y∈l,∃a,bT ρ a y)-> ∃aCL,ca ρ aCL l
 | [],_=>⟨[],trivial⟩
 |y::l,h=>by
  obtain⟨a,c⟩:=h y ab;obtain⟨aCL,b⟩:=Yh l λz d=>h z (by simp [d])
  exact⟨a::aCL,c,b⟩
theorem Wq (d:ρ D=some none) v: ∃a,bT ρ a v:=by
 have f: ∀v:Value,UR v=true-> ∃a,bT ρ a v:=λv k=>⟨.map (some D),none,d,k,λ_ _ e=>by cases e⟩
 match v with
 | .bool b=>exact⟨.bool b,rfl⟩
 | .agg c=>
  obtain⟨aCL,h⟩:=Yh c.toList λy j=>Wq d y
  exact⟨.agg aCL,c,rfl,h⟩
 | .tuple c=>
  obtain⟨aCL,h⟩:=Yh c.toList λy j=>Wq d y
  exact⟨.tuple aCL,c,rfl,h⟩
 | .int _ _ | .float _ _ | .complex _ _ _ | .string _ | .pointer _ | .slice _ _ _ | .map _ | .chan _ | .func _ _ _ | .nilFunc | .iface _ _ | .nilIface=>exact f _ rfl
termination_by v
decreasing_by
 all_goals
  have l:=List.sizeOf_lt_of_mem j;cases c;simp at l⊢;omega
def qm (w:World) (b:Nat):Option (Array Value):=if b=Fy then none else match w.heap[b]? with |some (.cells a _ _)=>some a |_=>none
theorem AR (h:qm w b=some cs):b<w.heap.size/\b≠Fy/\ ∃e fr,w.heap[b]? =some (.cells cs e fr):=by
 unfold qm at h;split at h
 ·cases h
 ·rename_i d;split at h
  ·rename_i c e fr a;cases h;exact⟨gl a,d,e,fr,a⟩
  ·cases h
theorem akT (h:w.heap[b]? =some (.cells cs e fr)) (a:b≠Fy):qm w b=some cs:=by
 unfold qm;rw [if_neg a,h]
def Ol (w:World):pZ:=λi=>if i<=w.heap.size then(match qm w i with |some a=>some (some (i,⟨0,a.size⟩)) |none=>some none)else none
theorem ZV w:Ol w w.heap.size=some none:=by
 unfold Ol;rw [if_pos (aEw _)];cases h:qm w w.heap.size with
 |none=>rfl
 |some a=>have:=(AR h).1;omega
theorem YK (h:qm w b=some cs):Ol w b=some (some (b,⟨0,cs.size⟩)):=by
 unfold Ol;rw [if_pos (Nat.le_of_lt (AR h).1),h]
theorem RN (h:Ol w i=some (some (b,s))):b=i/\ ∃cs,qm w i=some cs/\s=⟨0,cs.size⟩:=by
 unfold Ol at h;split at h
 ·cases a:qm w i with
  |none=>rw [a]at h;simp at h
  |some cs=>
   rw [a]at h;simp only [Option.some.injEq,Prod.mk.injEq]at h;exact⟨h.1.symm,cs,rfl,h.2.symm⟩
 ·cases h
theorem anP (h:b<w.heap.size): ∃m,Ol w b=some m/\ ∀a s,m=some (a,s)->a=b/\s.s=0:=by
 unfold Ol;rw [if_pos (Nat.le_of_lt h)];cases c:qm w b with
 |none=>exact⟨none,rfl,λ_ _ e=>by cases e⟩
 |some d=>exact⟨_,rfl,λa s e=>by cases e;exact⟨rfl,rfl⟩⟩
noncomputable def Ja (w:World) (B0:Nat) (v:Value):AV:=
 match v with
 | .int k n=> .int k n
 | .bool b=> .bool b
 | .string s=> .str s.data.toList
 | .slice a l c=>
  if l=0/\c=0 then(match a with |none=> .slice none 0 0 0 |some _=> .slice (some (B0,0)) 0 0 0)
  else(match a with
   |none=> .map (some w.heap.size)
   |some a=>if l<=c/\a.spot=none/\a.block<w.heap.size then .slice (some (a.block,a.off)) l c 0 else .map (some w.heap.size))
 |v=>Classical.choose (Wq (ZV w) v)
theorem Zq (r:qm w B0=some cs0) v:bT (Ol w) (Ja w B0 v) v:=by
 have d: ∀v:Value,UR v=true->bT (Ol w) (.map (some w.heap.size)) v:=λv t=>⟨none,ZV w,t,λ_ _ e=>by cases e⟩
 cases v with
 |int k n=>exact rfl
 |bool b=>exact rfl
 |string s=>show Value.string s= .string ⟨s.data.toList.toArray⟩;rw [Array.toArray_toList]
 |slice a l c=>
  show bT (Ol w) (if l=0/\c=0 then _ else _) _;split
  ·rename_i u;obtain⟨rfl,rfl⟩:=u;cases a with
   |none=>exact⟨rfl,rfl,rfl⟩
   |some a=>exact⟨_,YK r,a,0,rfl,aEw _,aEw _,λ_=>rfl,λ_ _ _ h=>absurd h (Nat.lt_irrefl _)⟩
  ·cases a with
   |none=>exact d _ rfl
   |some a=>
    show bT (Ol w) (if l<=c/\a.spot=none/\a.block<w.heap.size then _ else _) _;split
    ·rename_i f;obtain⟨f,p,x⟩:=f;obtain⟨m,y,j⟩:=anP x;refine⟨m,y,a,c,rfl,f,aEw _,λ_=>rfl,λb s e h=>⟨?_,λh=>absurd h (Nat.lt_irrefl _)⟩⟩;obtain⟨rfl,q⟩:=j b s e;obtain⟨A,E,z⟩:=a;simp only at p q⊢;rw [q,p];rfl
    ·exact d _ rfl
 |_=>exact Classical.choose_spec (Wq (ZV w) _)
theorem agC (a:qm w B0=some cs0): ∀l,ca (Ol w) (l.map (Ja w B0)) l
 | []=>trivial
 |v::l=>⟨Zq a v,agC a l⟩
def Mir (w:World) (B0:Nat) (H:AH):Prop:=H.next=w.heap.size+1/\ ∀i,H.get i=(qm w i).map λa=>AB.cells (a.toList.map (Ja w B0)) true none
theorem ax4 (l:ae4 w.heap[Fy]?) (y:qm w B0=some cs0): ∃H,Mir w B0 H/\vR tab (Ol w) H w:=by
 obtain⟨t,z⟩:=acr (λi=>(qm w i).map λa=>AB.cells (a.toList.map (Ja w B0)) true none) w.heap.size;have f: ∀i,(⟨t,w.heap.size+1⟩:AH).get i=(qm w i).map λa=>AB.cells (a.toList.map (Ja w B0)) true none:=λi=>by
  show t.get i=_;rw [z];split
  ·rfl
  ·rename_i h;cases c:qm w i with
   |none=>rfl
   |some a=>exact absurd (AR c).1 h
 have k: ∀i d,(⟨t,w.heap.size+1⟩:AH).get i=some d-> ∃a,qm w i=some a/\d= .cells (a.toList.map (Ja w B0)) true none:=λi d h=>by
  rw [f]at h;cases c:qm w i with
  |none=>rw [c]at h;cases h
  |some a=>rw [c]at h;cases h;exact⟨a,rfl,rfl⟩
 refine⟨⟨t,w.heap.size+1⟩,⟨rfl,f⟩,⟨⟨λi d n=> ?_,λi j d A b s I _ _ r u=> ?_,λi d n=> ?_⟩,l,λ⟨i,d,s,n,E⟩=> ?_⟩⟩
 ·obtain⟨a,c,rfl⟩:=k i d n;obtain⟨r,u,e,F,G⟩:=AR c;refine⟨i,⟨0,a.size⟩,_,YK c,G,a,e,F,rfl,⟨rfl,ab,λj x p=> ?_,λh=>by cases h⟩,asb.none_⟩;rw [List.getElem?_map]at p;cases q:a.toList[j]? with
  |none=>rw [q]at p;cases p
  |some v=>
   rw [q]at p;cases p;exact⟨v,by simpa using q,Zq y v⟩
 ·exact(RN r).1.symm.trans (RN u).1
 ·obtain⟨a,c,rfl⟩:=k i d n;have:=(AR c).1;show i<w.heap.size+1;omega
 ·obtain⟨a,c,rfl⟩:=k i d n;exact(AR c).2.1 (RN E).1.symm
inductive Tg where
 |ty (T:TypeId)
 |fl (fs:List Field) (off:Nat)
def xC:Ty->Bool
 | .int k=> !IntKind.same k .u64
 | .bool | .str | .list _=>true
 | .pair a _=>xC a
 |_=>false
def G0 (P:Program):Nat->Tg->Ty->Bool
 |0,_,_=>false
 |n+1,.ty T,t=>
  match P.underlying T with
  |some (.int k)=>(match t with | .int h=>IntKind.same k h |_=>false)
  |some .bool=>(match t with | .bool=>true |_=>false)
  |some .string=>(match t with | .str=>true |_=>false)
  |some (.slice E)=>(match t with | .list e=>Nat.beq (P.cellsOf E) e.w&&xC e&&G0 P n (.ty E) e |_=>false)
  |some (.struct d)=>Nat.beq (P.cellsOf T) t.w&&G0 P n (.fl d.toList 0) t
  |_=>false
 |n+1,.fl [f] c,t=>Nat.beq f.offset c&&Nat.beq (P.cellsOf f.type) t.w&&G0 P n (.ty f.type) t
 |n+1,.fl (f::d) c,.pair a b=>Nat.beq f.offset c&&Nat.beq (P.cellsOf f.type) a.w&&G0 P n (.ty f.type) a&&G0 P n (.fl d (c+a.w)) b
 |_,_,_=>false
theorem VB: ∀t {x} {cs},xC t=true->eC Z H t x cs-> ∃c r,cs=c::r/\ ∀z,c≠ .int .u64 z
 | .int k,x,cs,d,h=>⟨_,[],h,λz e=>by cases e;simp [xC,IntKind.aU]at d⟩
 | .bool,x,cs,d,h=>⟨_,[],h,λz e=>by cases e⟩
 | .str,x,cs,d,h=>⟨_,[],h,λz e=>by cases e⟩
 | .list t,x,cs,d,⟨v,e,h⟩=>⟨v,[],e,λz e=>by rcases h with⟨_,h⟩ |⟨b,o,j,s,f,u,h,_⟩<;>rw [h]at e<;>cases e⟩
 | .pair a b,x,cs,d,⟨y,l,e,n,A⟩=>by
  obtain⟨c,r,p,q⟩:=VB a (by simpa [xC]using d) n;exact⟨c,r++l,by rw [e,p];rfl,q⟩
 | .unit,_,_,d,_=>by simp [xC]at d
 | .CH,_,_,d,_=>by simp [xC]at d
 | .bld _,_,_,d,_=>by simp [xC]at d
 | .ref _,_,_,d,_=>by simp [xC]at d
theorem Wj {α j:Type} {f:α->Option j} : ∀ {l:List α} {r},l.mapM f=some r->r.length=l.length/\ ∀(i:Nat) a,l[i]? =some a-> ∃b,r[i]? =some b/\f a=some b
 | [],r,h=>by simp at h;subst h;exact⟨rfl,λi a c=>by simp at c⟩
 |x::l,r,h=>by
  simp only [List.mapM_cons,Option.bind_eq_bind,aEr,Option.pure_def,Option.some.injEq]at h;obtain⟨b,k,q,d,rfl⟩:=h;obtain⟨n,p⟩:=Wj d;refine⟨by simp [n],λi a c=> ?_⟩;cases i with
  |zero=>simp at c;subst c;exact⟨b,rfl,k⟩
  |succ i=>simpa using p i a (by simpa using c)
theorem MI {α k:Type} {f g:α->Option k} : ∀ {l:List α} {r},l.mapM f=some r->(∀a∈l,∀b∈r,f a=some b->g a=some b)->l.mapM g=some r
 | [],r,h,_=>by simpa using h
 |x::l,r,h,j=>by
  simp only [List.mapM_cons,Option.bind_eq_bind,aEr,Option.pure_def,Option.some.injEq]at h⊢;obtain⟨b,n,p,d,rfl⟩:=h;exact⟨b,j x ab b ab n,p,MI d λa q c s=>j a (by simp [q]) c (by simp [s]),rfl⟩
theorem ac7 {w:World} (h:w.cells? 0 a n=some cs') (r:0<n):
  a.spot=none/\ ∃arr e fr,w.heap[a.block]? =some (.cells arr e fr)/\a.off+n<=arr.size/\cs'=(arr.toList.drop a.off).take n:=by
 unfold World.cells? at h;rw [if_pos (Nat.zero_le _)]at h;obtain⟨s,t⟩:=Wj h;rw [List.length_range]at s;have d: ∀i,i<n-> ∃b,cs'[i]? =some b/\w.cell? (a.add i)=some b:=λi l=>t i i (by rw [List.getElem?_range l])
 obtain⟨z,_,k⟩:=d 0 r;have p:a.add 0=a:=by simp [Addr.add]
 rw [p]at k;unfold World.cell? at k;split at k
 ·rename_i arr e fr q;split at k
  ·cases k
  ·rename_i u;have j:a.spot=none:=by simpa using u
   refine⟨j,arr,e,fr,q, ?_, ?_⟩
   ·obtain⟨v,_,f⟩:=d (n-1) aa;have c:(a.add (n-1)).block=a.block/\(a.add (n-1)).off=a.off+(n-1)/\(a.add (n-1)).spot=none:=by
     unfold Addr.add;split
     ·rename_i x;exact⟨rfl,aa,j⟩
     ·exact⟨rfl,rfl,rfl⟩
    unfold World.cell? at f;rw [c.1,q]at f;simp only [c.2.2,c.2.1,Option.isSome_none,aEj,if_false]at f;have:=(Array.getElem?_eq_some_iff.1 f).1;omega
   ·apply List.ext_getElem?;intro i;rw [List.getElem?_take];by_cases l:i<n
    ·rw [if_pos l,List.getElem?_drop];obtain⟨v,y,f⟩:=d i l;have c:(a.add i).block=a.block/\(a.add i).off=a.off+i/\(a.add i).spot=none:=by
      unfold Addr.add;split
      ·rename_i x;exact⟨rfl,aa,j⟩
      ·exact⟨rfl,rfl,rfl⟩
     unfold World.cell? at f;rw [c.1,q]at f;simp only [c.2.2,c.2.1,Option.isSome_none,aEj,if_false]at f;rw [y,<-f,Array.getElem?_toList]
    ·rw [if_neg l,List.getElem?_eq_none aa]
 ·cases k
theorem ag2 {b:Type} {Q:Nat->b->Prop} : ∀n,(∀i,i<n-> ∃y,Q i y)-> ∃l:List b,l.length=n/\ ∀j x,l[j]? =some x->Q j x
 |0,_=>⟨[],rfl,λj x h=>by simp at h⟩
 |n+1,h=>by
  obtain⟨l,c,d⟩:=ag2 n λi p=>h i aa
  obtain⟨y,f⟩:=h n aa;refine⟨l++ [y],by simp [c],λj x a=> ?_⟩;by_cases k:j<l.length
  ·rw [List.getElem?_append_left k]at a;exact d j x a
  ·rw [List.getElem?_append_right aa]at a;have:j=n:=by
    have:=(List.getElem?_eq_some_iff.1 a).1;simp at this;omega
   subst this;simp [c]at a;subst a;exact f
def sized:(t:Ty)->t.Den->Prop
 | .str,s=>s.length<=maxLen
 | .list t,l=>l.length<=maxLen/\ ∀x∈l,sized t x
 | .pair a b,x=>sized a x.1/\sized b x.2
 |_,_=>True
section
variable {D:Type} {enc:TypeId×Value->D} {P:Program} {w:World} {B0:Nat} {cs0:Array Value} {H:AH}
theorem aoq (b:c≠0) (d:l<=c) (f:a.spot=none) (j:a.block<w.heap.size):Ja w B0 (.slice (some a) l c)= .slice (some (a.block,a.off)) l c 0:=by
 show(if l=0/\c=0 then _ else _)=_;rw [if_neg (λh=>b h.2)];show(if l<=c/\a.spot=none/\a.block<w.heap.size then _ else _)=_;rw [if_pos ⟨d,f,j⟩]
theorem at4 (hB:qm w B0=some cs0) (hM:Mir w B0 H) (Z:ae4 w.heap[Fy]?): ∀n,
  (∀T t,G0 P n (.ty T) t=true-> ∀d cs x,aEm enc P w 0 (λ_=>true) true d T cs=some x-> ∃y,eC (λb=>b<H.next) H t y (cs.map (Ja w B0))/\sized t y/\cs.length=t.w)/\
  (∀N F t,G0 P n (.fl N F) t=true-> ∀d (cs:List Value),(∀f∈N,∃x,aEm enc P w 0 (λ_=>true) true d f.type ((cs.drop f.offset).take (P.cellsOf f.type))=some x)->cs.length=F+t.w->
   ∃y,eC (λb=>b<H.next) H t y ((cs.drop F).map (Ja w B0))/\sized t y):=by
 have K: ∀ {b cs},qm w b=some cs->b<H.next/\H.get b=some (.cells (cs.toList.map (Ja w B0)) true none):=λ{b cs} h=>by
  refine⟨?_,by rw [hM.2,h];rfl⟩;have:=(AR h).1;rw [hM.1];omega
 intro n;induction n with
 |zero=>exact⟨λT t h=>by simp [G0]at h,λN F t h=>by rcases N with _ |⟨f,_ |⟨f2,N⟩⟩<;>simp [G0]at h⟩
 |succ n ih=>
  refine⟨λT t h d cs x p=> ?_,λN F t h d cs vc vg=> ?_⟩
  ·simp only [G0]at h;cases hu:P.underlying T with
   |none=>rw [hu]at h;cases h
   |some u=>
    rw [hu]at h;cases u<;>simp only [aEj]at h
    case bool=>
     cases t<;>simp only [aEj]at h;obtain⟨b,rfl,_⟩:=DataW.trod_bool hu p;exact⟨b,rfl,trivial,rfl⟩
    case int k=>
     cases t<;>simp only [aEj]at h;have:=IntKind.dG h;subst this;obtain⟨z,rfl,_⟩:=DataW.trod_int hu p;exact⟨z,rfl,trivial,rfl⟩
    case string=>
     cases t<;>simp only [aEj]at h;obtain⟨s,rfl,_,hs⟩:=DataW.trod_string hu p;exact⟨s.data.toList,rfl,by simpa [sized]using hs,rfl⟩
    case slice E=>
     cases t<;>simp only [aEj]at h;rename_i e;simp only [aEd,aEt]at h;obtain⟨⟨hw,hf⟩,he⟩:=h;rcases Deep.open_slice hu p with⟨rfl,_⟩ |⟨a,vd,V,m,n2,Dd,Pl,rfl,_,vh,vv,hm,_,vo⟩
     ·exact⟨[],⟨_,rfl,.inl ⟨rfl,rfl⟩⟩,⟨Nat.zero_le _,λx p=>by simp at p⟩,rfl⟩
     ·have hm:V=m:=by simpa using hm.symm
      subst hm;by_cases hc:V=0
      ·subst hc;have vp:vd=0:=aa
       subst vp;refine⟨[],⟨_,rfl,.inr ⟨B0,0,0,0,_,(true,none),rfl,aEw _,.inl rfl,(K hB).1,(K hB).2,ab,λj x p=>by simp at p⟩⟩,⟨Nat.zero_le _,λx p=>by simp at p⟩,rfl⟩
      ·have ve: ∀i,i<_-> ∃q x',w.cells? 0 (a.add (i*e.w)) e.w=some q/\aEm enc P w 0 (λ_=>true) true n2 E q=some x':=λi hi=>by
        obtain⟨q,U,W⟩:=vo i hi;rw [hw]at U;exact⟨q,_,U,W⟩
       have O:0<e.w:=by
        obtain⟨q,x',U,W⟩:=ve 0 aa;obtain⟨y,L,_,vx⟩:=ih.1 E e he n2 q x' W;obtain⟨c,r,M,_⟩:=VB e hf L;have:=congrArg List.length M;rw [List.length_map,aEq]at this;omega
       obtain⟨vj,x1,U,W⟩:=ve 0 aa;rw [Nat.zero_mul,show a.add 0=a by simp [Addr.add]]at U;obtain⟨vq,A,ee,fr,G,vk,vl⟩:=ac7 U O;have vm:a.block≠Fy:=λhb=>by
        obtain⟨y,L,_,_⟩:=ih.1 E e he n2 vj x1 W;obtain⟨c,r,M,h4⟩:=VB e hf L;rw [<-hb,G]at Z;have R: ∀v∈A.toList,∃z,v=Value.int .u64 z:=λv hv=>by
         have hl:A=(aud.map λz=>Value.int .u64 z).toArray:=Z;rw [hl]at hv;simp only [List.mem_map]at hv;obtain⟨z,_,rfl⟩:=hv;exact⟨z,rfl⟩
        cases vj with
        |nil=>simp at M
        |cons v vs=>
         have hv:v∈A.toList:=by
          have:v∈(A.toList.drop a.off).take e.w:=by rw [<-vl];simp
          exact List.mem_of_mem_drop (List.mem_of_mem_take this)
         obtain⟨z,rfl⟩:=R v hv;simp only [List.map_cons,List.cons.injEq]at M;exact h4 z M.1.symm
       have I:=akT G vm;have vf:=(AR I).1;have S: ∀i,i<V-> ∃y,(eC (λb=>b<H.next) H e y (((A.toList.map (Ja w B0)).drop (a.off+i*e.w)).take e.w)/\sized e y)/\a.off+i*e.w+e.w<=A.size:=λi hi=>by
        obtain⟨q,x',M,h4⟩:=ve i hi;obtain⟨y,L,vr,_⟩:=ih.1 E e he n2 q x' h4;obtain⟨_,vw,e',vz,g1,g2,g3⟩:=ac7 M O;have va:(a.add (i*e.w)).block=a.block/\(a.add (i*e.w)).off=a.off+i*e.w:=by
         unfold Addr.add;split
         ·rename_i e0;exact⟨rfl,aa⟩
         ·exact⟨rfl,rfl⟩
        rw [va.1,G]at g1;cases g1;rw [va.2]at g2 g3;refine⟨y,⟨?_,vr⟩,g2⟩;rw [<-List.map_drop,<-List.map_take,<-g3];exact L
       obtain⟨l,Y,vn⟩:=ag2 (Q:=λi y=>eC (λb=>b<H.next) H e y (((A.toList.map (Ja w B0)).drop (a.off+i*e.w)).take e.w)/\sized e y) vd λi hi=>let⟨y,h,_⟩:=S i aa;⟨y,h⟩
       refine⟨l,⟨_,by rw [List.map_cons,List.map_nil,aoq hc vh vq vf],.inr ⟨a.block,a.off,V,0,A.toList.map (Ja w B0),(true,none),by rw [Y],by rw [Y];exact vh,.inl rfl,(K I).1,(K I).2, ?_,λj x hj=>(vn j x hj).1⟩⟩,⟨by rw [Y];omega,λx p=> ?_⟩,rfl⟩
       ·rw [Y,List.length_map,Array.length_toList];cases vd with
        |zero=>obtain⟨_,_,h5⟩:=S 0 aa;omega
        |succ k=>
         obtain⟨_,_,h5⟩:=S k aa;rw [Nat.succ_mul];omega
       ·obtain⟨j,hj⟩:=List.mem_iff_getElem?.1 p;exact(vn j x hj).2
    case struct N=>
     simp only [aEd,aEt]at h;obtain⟨xs,n2,_,_,hl,vt,R⟩:=DataW.trod_struct hu p;rw [h.1]at hl;obtain⟨y,L,hs⟩:=ih.2 N.toList 0 t h.2 n2 cs (λf hf=>by
      obtain⟨i,hi⟩:=List.mem_iff_getElem?.1 hf;have M:=R i f (by simpa using hi);have vf:i<xs.length:=by
       have:=(List.getElem?_eq_some_iff.1 hi).1;rw [vt];simpa using this
      exact⟨xs[i],by rw [M,List.getElem?_eq_getElem vf]⟩) aa
     exact⟨y,by simpa using L,hs,hl⟩
  ·rcases N with _ |⟨f,_ |⟨f2,N⟩⟩
   ·simp [G0]at h
   ·simp only [G0,aEd,aEt]at h;obtain⟨⟨U,W⟩,M⟩:=h;obtain⟨x,p⟩:=vc f ab;obtain⟨y,L,hs,_⟩:=ih.1 f.type t M d _ x p;rw [U,W,aEu (by rw [List.length_drop];omega)]at L;exact⟨y,L,hs⟩
   ·cases t<;>simp only [G0,aEj]at h;rename_i ta tb;simp only [aEd,aEt]at h;obtain⟨⟨⟨U,W⟩,M⟩,h4⟩:=h;obtain⟨x,p⟩:=vc f ab;obtain⟨y,L,hs,_⟩:=ih.1 f.type ta M d _ x p;have vu:cs.length=F+(ta.w+tb.w):=vg;obtain⟨z,hz,vk⟩:=ih.2 (f2::N) (F+ta.w) tb h4 d cs (λg hg=>vc g (by simp [hg])) aa;rw [U,W]at L;refine⟨(y,z),⟨_,_, ?_,L,hz⟩,hs,vk⟩;rw [<-List.map_append];congr 1;rw [<-List.drop_drop];exact(List.take_append_drop _ _).symm
theorem akb (U: ∀b,b<w.heap.size->w'.heap[b]? =w.heap[b]?): ∀n,
  (∀T t,G0 P n (.ty T) t=true-> ∀c cs x,aEm enc P w 0 (λ_=>true) true c T cs=some x->(∀p∈x.2,R p.block=true)->aEm enc P w' 0 R true c T cs=some x)/\
  (∀l G t,G0 P n (.fl l G) t=true-> ∀c (cs:List Value),∀f∈l,∀x,aEm enc P w 0 (λ_=>true) true c f.type ((cs.drop f.offset).take (P.cellsOf f.type))=some x->(∀p∈x.2,R p.block=true)->
   aEm enc P w' 0 R true c f.type ((cs.drop f.offset).take (P.cellsOf f.type))=some x):=by
 have V: ∀ {a v},w.cell? a=some v->w'.cell? a=some v:=λ{a v} h=>by
  unfold World.cell? at h⊢;cases hb:w.heap[a.block]? with
  |none=>rw [hb]at h;cases h
  |some o=>rw [U _ (gl hb)];exact h
 have K: ∀ {a n cs},w.cells? 0 a n=some cs->w'.cells? 0 a n=some cs:=λ{a n cs} h=>by
  unfold World.cells? at h⊢;rw [if_pos (Nat.zero_le _)]at h⊢;exact MI h λi _ v _ F=>V F
 intro n;induction n with
 |zero=>exact⟨λT t h=>by simp [G0]at h,λl G t h=>by rcases l with _ |⟨f,_ |⟨f2,l⟩⟩<;>simp [G0]at h⟩
 |succ n W=>
  refine⟨λT t h c cs x d L=> ?_,λl G t h c cs f q x d L=> ?_⟩
  ·simp only [G0]at h;cases c with
   |zero=>simp [aEm]at d
   |succ c=>
   cases j:P.underlying T with
   |none=>rw [j]at h;cases h
   |some u=>
    rw [j]at h;cases u<;>simp only [aEj]at h
    case bool=>
     obtain⟨b,rfl,rfl⟩:=DataW.trod_bool j d;simp only [aEm,j]at d⊢
    case int k=>
     obtain⟨z,rfl,rfl,_⟩:=DataW.trod_int j d;simp only [aEm,j]at d⊢;exact d
    case string=>
     obtain⟨s,rfl,rfl,hs⟩:=DataW.trod_string j d;simp only [aEm,j]at d⊢;exact d
    case slice E=>
     cases t<;>simp only [aEj]at h;rename_i e;simp only [aEd,aEt]at h;obtain⟨⟨hw,q⟩,he⟩:=h;rcases DataW.trod_slice j d with⟨rfl,rfl⟩ |⟨a,vl,ve,r,I,n2,hn,rfl,rfl,hb,vf,Y,vm,_⟩
     ·simp only [aEm,j]
     ·simp only [aEm,j]at d⊢;rw [if_pos ⟨hb,vf,Y⟩]at d⊢;simp only [aEr,Option.map_eq_some_iff,if_true]at d⊢;obtain⟨S,h1,M,h2,h3⟩:=d;have N:=(Wj h1).1;have O:=(Wj h2).1;rw [List.length_range]at N O;have Z:MemPlace.row a ((S.length+M.length)*P.cellsOf E)++(S++M).flatMap (·.2)=MemPlace.row a ((r.length+I.length)*P.cellsOf E)++(r++I).flatMap (·.2):=by
       have:=congrArg Prod.snd h3;simpa using this
      have vg: ∀p∈(S++M).flatMap (·.2),R p.block=true:=λp A=>L p (by show p∈_;rw [<-Z];exact List.mem_append.2 (.inr A))
      have va: ∀(i:Nat) (y:DataW D×List MemPlace),y∈S++M->(w.cells? 0 (a.add (i*P.cellsOf E)) (P.cellsOf E)).bind (aEm enc P w 0 (λ_=>true) true c E)=some y->
        (w'.cells? 0 (a.add (i*P.cellsOf E)) (P.cellsOf E)).bind (aEm enc P w' 0 R true c E)=some y:=λi y Q F=>by
       simp only [aEr]at F⊢;obtain⟨vc,g1,g2⟩:=F;exact⟨vc,K g1,W.1 E e he c vc y g2 λp A=>vg p (List.mem_flatMap.2 ⟨y,Q,A⟩)⟩
      refine⟨S,MI h1 λi _ y Q F=>va i y (by simp [Q]) F,M, ?_,h3⟩;cases vh:R a.block with
      |true=>simp only [if_true];exact MI h2 λi _ y Q F=>va _ y (by simp [Q]) F
      |false=>
       simp only [aEj,if_false];have vk:ve=0:=by
        refine Classical.byContradiction λhc=> ?_
        have vd:0<(S.length+M.length)*P.cellsOf E:=by
         refine Nat.mul_pos aa ?_;rw [hw];cases e<;>simp [xC]at q<;>first |(show 0<1;decide) |skip
         rename_i ta tb;show 0<ta.w+tb.w;have: ∀t:Ty,xC t=true->0<t.w:=λt=>by
          induction t with
          |pair a b vj vn=>intro h;have:=vj (by simpa [xC]using h);show 0<a.w+b.w;omega
          |unit=>intro h;simp [xC]at h
          |_=>intro _;show 0<1;decide
         have:=this ta q;omega
        have:=L (.cell a.block (a.off+0)) (by
         show _∈_;rw [<-Z];exact List.mem_append.2 (.inl (MemPlace.mem_row.2 ⟨0,vd,rfl⟩)))
        rw [show(MemPlace.cell a.block (a.off+0)).block=a.block from rfl,vh]at this;cases this
       have:M=[]:=List.eq_nil_of_length_eq_zero aa;rw [this]
    case struct l=>
     simp only [aEd,aEt]at h;simp only [aEm,j]at d⊢;split at d
     ·rename_i hl;rw [if_pos hl];simp only [Option.map_eq_some_iff]at d⊢;obtain⟨xs,h1,rfl⟩:=d;refine⟨xs,MI h1 λf q y Q F=> ?_,rfl⟩;exact W.2 l.toList 0 t h.2 c cs f q y F λp A=>L p (List.mem_flatMap.2 ⟨y,Q,A⟩)
     ·cases d
  ·rcases l with _ |⟨f1,_ |⟨f2,l⟩⟩
   ·simp at q
   ·simp only [G0,aEd,aEt]at h;simp only [List.mem_singleton]at q;subst q;exact W.1 f.type t h.2 c _ x d L
   ·cases t<;>simp only [G0,aEj]at h;rename_i ta tb;simp only [aEd,aEt]at h;rcases List.mem_cons.1 q with rfl |q
    ·exact W.1 f.type ta h.1.2 c _ x d L
    ·exact W.2 (f2::l) (G+ta.w) tb h.2 c cs f q x d L
end
noncomputable def afr (w:World) (B0:Nat) (v:Value):AV:=match v with | .agg a=> .agg (a.toList.map (Ja w B0)) |v=>Ja w B0 v
theorem Yl (a:qm w B0=some cs0): ∀l,ca (Ol w) (l.map (afr w B0)) l
 | []=>trivial
 |v::l=>⟨by
   cases v with
   |agg b=>exact⟨b,rfl,agC a _⟩
   |_=>simp only [afr];exact Zq a _,Yl a l⟩
theorem anx (p:yA P tab) (q:P.follows .mixedOrders=true) (U:EW P tab E) {pre y:t.Den->Bool} (L:aN E g (.val gs t [none] .bool pre y)) (hf:(E.fn g).isSome=true)
  (r:ae4 w.heap[Fy]?) (M:qm w B0=some cs0) (hg:Jp gs (d.toList.map (afr w B0)) cs)
  (hx: ∀H,Mir w B0 H-> ∃x,eC (λb=>b<H.next) H t x cs/\pre x=true/\y x=true):Calls P g d w λe w'=>e= .returned (.bool true)/\Kept w w'/\ ∀b,b<w.heap.size->w'.heap[b]? =w.heap[b]? :=by
 obtain⟨H,N,V⟩:=ax4 (tab:=tab) r M;obtain⟨x,G,hp,hy⟩:=hx H N;obtain⟨v,W,va,Z2,l,Y,u⟩:=(show aiO E g (.val gs t [none] .bool pre y)from L) (λb=>b<H.next) H _ cs x (λ_ h=>h) hg G hp;have hv:v= .bool true:=by
  have: [v]=[AV.bool (y x)]:=u;simpa [hy]using this
 subst hv;have z:=dC.enters_of U hf;obtain⟨n,A⟩:=azO l;have F:uM (Ol w) H W:=λi I _=>by
  rw [N.1]at I;unfold Ol;rw [if_neg aa]
 rcases(ZC p q U n).2 g _ H _ W A with⟨_,f⟩ |⟨_,f⟩
 ·have l:=f (Ol w) w d (Yl M _) V F 0 none;refine(callsIn_wide.1 l).mono λe w' k=> ?_
  obtain⟨y',O,rfl,h1,h2,K⟩:=k;have Q:y'= .bool true:=h1;subst Q;have j: ∀b,b<w.heap.size->w'.heap[b]? =w.heap[b]? :=λb Z=>by
   cases R:qm w b with
   |some c=>exact(K.fix b _ b _ (by rw [N.2,R];rfl) (YK R)).1
   |none=>
    refine K.gQ b Z λ⟨i,ob,s,I,S⟩=> ?_
    obtain⟨rfl,c,l,_⟩:=RN S;rw [R]at l;cases l
  refine⟨rfl,⟨⟨K.os,K.output,λi I=> ?_⟩,λa ha=> ?_⟩,j⟩
  ·rw [j i I];cases Z:w.heap[i]? with
   |none=>rfl
   |some ob=>cases ob with
    |cells c t fr=>exact⟨rfl,rfl,rfl,λ_ _=>rfl⟩
    |map es T=>exact .inr ⟨rfl,rfl⟩
    |_=>rfl
  ·simp only [World.frozen?,j a.block ha]
 ·obtain⟨y,w',O,G,_⟩:=f (Ol w) w d (Yl M _) V F;rw [z]at G;cases G
theorem aaN {P:Program} {w:World} {name:String} {g:Nat} {cs:Array Value} (hg:P.globalNamed name=some g) (h:w.var? P name=some cs): ∃e fr,w.heap[g]? =some (.cells cs e fr):=by
 unfold World.var? at h;rw [hg,aEl]at h;split at h
 ·rename_i c e fr he;cases h;exact⟨e,fr,he⟩
 ·cases h
theorem amb {P:Program} {w:World} {name:String} (hg:P.globalNamed name=some Fy) (h:Lib.TabIs P w name .u64 aud):ae4 w.heap[Fy]? :=by
 obtain⟨e,fr,hb⟩:=aaN hg h;rw [hb];exact rfl
theorem akP {P:Program} {w:World} {name:String} {g:Nat} {k:IntKind} {zs:List Int} (hg:P.globalNamed name=some g) (hl:g≠Fy) (h:Lib.TabIs P w name k zs): ∃cs0,qm w g=some cs0:=by
 obtain⟨e,fr,hb⟩:=aaN hg h;exact⟨_,akT hb hl⟩
section
variable {D:Type} {enc:TypeId×Value->D} {P:Program} {w:World} {B0:Nat} {cs0:Array Value} {H:AH}
theorem adu {n:Nat} {T:TypeId} {t:Ty} {fs:Array Field} {r:Reach} {base:Nat} {v:Value} {d:DataW D} {p:List MemPlace} (hu:P.underlying T=some (.struct fs)) (ht:G0 P n (.ty T) t=true)
  (hok:Value.okWide P w r base T v) (hd:DataW.Trod enc P w 0 (λ_=>true) true T v d p):
  (∃cs,afr w B0 v= .agg cs/\cs.length=t.w/\(qm w B0=some cs0->ae4 w.heap[Fy]? -> ∀H,Mir w B0 H-> ∃y,eC (λb=>b<H.next) H t y cs/\sized t y))/\
  (∀w' sp,(∀b,b<w.heap.size->w'.heap[b]? =w.heap[b]?)->(∀q∈p,sp q.block=true)->DataW.Trod enc P w' 0 sp true T v d p):=by
 obtain⟨cs,rfl,hsz⟩:=okWide_struct hu hok;obtain⟨fuel,hf⟩:=hd;refine⟨⟨_,rfl, ?_,λhB aBv H hM=> ?_⟩,λw' sp hold hp=>⟨fuel,(akb hold n).1 T t ht fuel _ _ hf hp⟩⟩
 ·cases n with
  |zero=>simp [G0]at ht
  |succ n=>
   simp only [G0,hu,aEd,aEt]at ht;rw [List.length_map,Array.length_toList,hsz,ht.1]
 ·obtain⟨y,h1,h2,_⟩:=(at4 hB hM aBv n).1 T t ht fuel _ _ hf;exact⟨y,h1,h2⟩
theorem aqT {n:Nat} {T E:TypeId} {t:Ty} {r:Reach} {base:Nat} {v:Value} {d:DataW D} {p:List MemPlace} (hu:P.underlying T=some (.slice E)) (ht:G0 P n (.ty T) t=true)
  (hok:Value.okWide P w r base T v) (hd:DataW.Trod enc P w 0 (λ_=>true) true T v d p):
  (∃c,afr w B0 v=c/\(qm w B0=some cs0->ae4 w.heap[Fy]? -> ∀H,Mir w B0 H-> ∃y,eC (λb=>b<H.next) H t y [c]/\sized t y))/\
  (∀w' sp,(∀b,b<w.heap.size->w'.heap[b]? =w.heap[b]?)->(∀q∈p,sp q.block=true)->DataW.Trod enc P w' 0 sp true T v d p):=by
 obtain⟨a,len,cap,rfl⟩:=okWide_slice hu hok;obtain⟨fuel,hf⟩:=hd;refine⟨⟨_,rfl,λhB aBv H hM=> ?_⟩,λw' sp hold hp=>⟨fuel,(akb hold n).1 T t ht fuel _ _ hf hp⟩⟩;obtain⟨y,h1,h2,_⟩:=(at4 hB hM aBv n).1 T t ht fuel _ _ hf;exact⟨y,h1,h2⟩
end
end Ls
namespace simplexChecks
open Go Go.ChangeShapes Go.WideShapes Go.ChangeAt Go.RowKit
open Ls
theorem own:ownKnob Tryz.prog.godebug=none:=af
abbrev laid:List (String×DataW Unit):=Rows.simplexChecksRow.laid
theorem plain:(laid.all λx=>x.2.handleName?.isNone)=true:=af
noncomputable abbrev ahr (os:Os):World:=World.laidAll Tryz.prog os laid
set_option maxRecDepth 100000 in
theorem asN (os:Os) (args:Array Value):laidMetH Tryz.prog laid ((ahr os).forCall (λ_ _=>0) ⟨#[],args,[]⟩).memory:=by
 rw [Go.MakeChecks.laidMetH_plain _ _ _ plain];exact laidMet_laidAll args (by kernel_rfl) (by kernel_rfl)
def tyL:Ty:= .pair (.list .str) .str
def tyF:Ty:= .list (.pair (.int .i64) (.pair (.list .str) (.pair .str .str)))
def tyO:Ty:= .pair (.int .i64) (.pair .str (.pair (.list .str) (.pair (.list .str) (.list .str))))
def azT:List Int:=[0,1,28,2,29,14,24,3,30,22,20,15,25,17,4,8,31,27,13,23,21,19,16,7,26,12,18,6,11,5,10,9]
theorem axK : Tryz.prog.globalNamed "internal/strconv.uint64pow10" = some dC.Fy := by kernel_rfl
theorem axW : Tryz.prog.globalNamed "math/bits.deBruijn32tab" = some 6 := by kernel_rfl
theorem aob {w:World} (h:laidMetH Tryz.prog laid w):dC.ae4 w.heap[dC.Fy]? /\ ∃cs0,qm w 6=some cs0:=by
 rw [Go.MakeChecks.laidMetH_plain _ _ _ plain] at h;have h0 : laidMet Tryz.prog (("math/bits.deBruijn32tab", Lib.tabData .u8 azT) :: laid.tail) w := h;have h2 : laidMet Tryz.prog (("internal/strconv.uint64pow10", Lib.tabData .u64 dC.aud) :: laid.tail.tail.tail) w := laidMet.tail (laidMet.tail h);exact ⟨amb axK (Lib.tabIs_of_head (t := 273) (e := 230) (n := 20) axK (by kernel_rfl) (by kernel_rfl) (by kernel_rfl) (by kernel_rfl) (by kernel_rfl) h2),
  akP axW ah (Lib.tabIs_of_head (t:=295) (e:=5) (n:=32) axW af af af af af h0)⟩
theorem walk {w:World} {v0 v1 v2:Value} {l1:List dC.AV} {c2:dC.AV} {l3:List dC.AV} (aBv:dC.ae4 w.heap[dC.Fy]?) {cs0:Array Value} (hB:qm w 6=some cs0)
  (e0:afr w 6 v0= .agg l1) (n0:l1.length=2) (r0: ∀H,Mir w 6 H-> ∃y,eC (λb=>b<H.next) H tyL y l1/\sized tyL y) (e1:afr w 6 v1=c2) (r1: ∀H,Mir w 6 H-> ∃y,eC (λb=>b<H.next) H tyF y [c2]/\sized tyF y)
  (e2:afr w 6 v2= .agg l3) (n2:l3.length=5) (r2: ∀H,Mir w 6 H-> ∃y,eC (λb=>b<H.next) H tyO y l3/\sized tyO y):
  Calls Tryz.prog 3 #[v0,v1,v2] w λe w'=>e= .returned (.bool true)/\dC.Kept w w'/\ ∀b,b<w.heap.size->w'.heap[b]? =w.heap[b]? :=by
 refine anx (tab:=dC.SB) dC.Gy dC.mixed Ls.Lib.azz (gs:=[some 2,none,some 5]) (t:= .pair tyL (.pair tyF tyO)) (pre:=o3) (y:=mJ) (cs:=l1++(c2::(l3++ []))) Ls.Lib.K7 af aBv hB ?_ λH hM=> ?_
 ·show Jp _ [afr w 6 v0,afr w 6 v1,afr w 6 v2] _;rw [e0,e1,e2];exact⟨l1,_,rfl,n0,rfl,_,rfl,l3,[],rfl,n2,rfl,rfl⟩
 ·obtain⟨y0,h0,_⟩:=r0 H hM;obtain⟨y1,h1,s1⟩:=r1 H hM;obtain⟨y2,h2,_⟩:=r2 H hM;refine⟨(y0,y1,y2),⟨l1,c2::(l3++ []),rfl,h0,[c2],l3++ [],rfl,h1,by rw [List.append_nil];exact h2⟩, ?_,rfl⟩;refine aEh.2 λf hf=> ?_
  have:=(s1.2 f hf).2.1.1;unfold maxLen at this;simpa [aEi]using this
set_option maxRecDepth 100000 in
theorem lifted (os:Os) (started:os.Started) (H:Type) (enc:TypeId×Value->H):
  ReturnsInHanded {} Tryz.checked os 3 .any (λw args=>(Rows.simplexChecksSpec.pre enc Tryz.prog Tryz.f3 [] false w args/\laidMetH Tryz.prog laid w)/\sizedMet enc Tryz.prog Tryz.f3 (OpenSpec.ofChange Rows.simplexChecksSpec) false w args)
   (Rows.simplexChecksSpec.post enc Tryz.prog Tryz.f3 false true false false):=by
 refine returnsInHanded_of_change_and (C:=Tryz.checked) (X:=λw _=>laidMetH Tryz.prog laid w) (λ_ _ _ hh h=>h.of_heap hh) own started (by kernel_rfl) Tryz.func3
  (ChangeSpec.witness_shaped (enc:=enc) (C:=Tryz.checked) (os:=os) (X:=λw _=>laidMetH Tryz.prog laid w) false (ahr os) #[.agg #[.slice none 0 0,.string ⟨#[]⟩],.slice none 0 0,.agg #[.int .i64 0,.string ⟨#[]⟩,.slice none 0 0,.slice none 0 0,.slice none 0 0]] 8 (World.laidAll_os _ _ _) (World.shaped_of_ZipB (by kernel_rfl) (by kernel_rfl)) (by kernel_rfl) (by kernel_rfl) (by kernel_rfl) (asN os _)) ?_
 intro W base args ds gs before aBP hW _ _ hX _;have aBA: ∀(j:Nat) t v,Tryz.f3.params[j]? =some t->args[j]? =some v->Value.okWide Tryz.prog W .any base t v:=aBP;have hW':=hW;obtain⟨p,q,hA0,hV,rfl,hfz,hnd⟩:=hW;have hA:DataW.TrodAll enc Tryz.prog W 0 (λ_=>true) true Tryz.f3.params.toList args.toList ds p:=hA0;rw [Tryz.params3]at hA aBA;obtain⟨v0,vs0,d0,ds0,p0,q0,aBp,rfl,rfl,h0,r0⟩:=trodAll_cons hA;obtain⟨v1,vs1,d1,ds1,p1,q1,rfl,rfl,rfl,h1,r1⟩:=trodAll_cons r0;obtain⟨v2,vs2,d2,ds2,p2,q2,rfl,rfl,rfl,h2,r2⟩:=trodAll_cons r1;obtain⟨rfl,rfl,rfl⟩:=trodAll_nil r2;obtain rfl:args= #[v0,v1,v2]:=by cases args;simp_all
 obtain⟨rfl,rfl⟩:=trodVars_none hV;obtain⟨aBv,cs0,hB⟩:=aob hX;obtain⟨⟨l1,e0,n0,g0⟩,k0⟩:=adu (n:=4) (t:=tyL) (B0:=6) (cs0:=cs0) Tryz.underlying25 (by kernel_rfl) (aBA 0 25 v0 rfl rfl) h0;obtain⟨⟨c2,e1,g1⟩,k1⟩:=aqT (n:=8) (t:=tyF) (B0:=6) (cs0:=cs0) Tryz.underlying26 (by kernel_rfl) (aBA 1 26 v1 rfl rfl) h1;obtain⟨⟨l3,e2,n2,g2⟩,k2⟩:=adu (n:=8) (t:=tyO) (B0:=6) (cs0:=cs0) Tryz.underlying28 (by kernel_rfl) (aBA 2 28 v2 rfl rfl) h2;simp only [List.append_nil]at hW';refine(walk aBv hB e0 n0 (g0 hB aBv) e1 (g1 hB aBv) e2 n2 (g2 hB aBv)).mono λe W' ⟨he,hg,hold⟩=> ?_
 subst he;refine⟨_,rfl,dC.ahA (pa:=p0++(p1++(p2++ []))) (pv:=[]) hW' (λ_ _ _=>(trodAll_cons_mk (shut_bool Tryz.underlying4 _) trodAll_mk0)) (λsp hsp=> ?_) (λ_ _=>rfl) (by simp)
  hg (ok_one (by kernel_rfl) rfl (okWide_bool_mk Tryz.underlying4 _))⟩
 exact trodAll_cons_mk (k0 W' sp hold λq hq=>hsp q (by simp [hq])) (trodAll_cons_mk (k1 W' sp hold λq hq=>hsp q (by simp [hq])) (trodAll_cons_mk (k2 W' sp hold λq hq=>hsp q (by simp [hq])) trodAll_mk0))
theorem over:Rows.simplexChecksRow.holds Tryz.pinned (OpenSpec.ofChange Rows.simplexChecksSpec):=
 OpenClaim.holds_of_wide 3 Tryz.f3 rfl rfl rfl rfl rfl rfl rfl ⟨rfl,rfl,rfl,rfl,rfl⟩ rfl rfl rfl rfl rfl af Tryz.func3 af
  (of_decide_eq_true af) (by unfold Func.isWrapper;first |(rw [if_pos (by decide+kernel)];kernel_rfl) |(rw [if_neg (by decide+kernel)];exact⟨rfl,rfl⟩))
  (λos started H enc _=>lifted os started H enc)
theorem said:Rows.SimplexChecksSaid:=
 over
theorem aiJ {j t:Nat} (h:Tryz.f3.params[j]? =some t):t=25\/t=26\/t=28:=by
 rw [Tryz.params3]at h;rcases j with _ |_ |_ |j<;>simp at h<;>simp [h.symm]
theorem proved:Rows.SimplexChecksCardSaid:=
 Claim7.holds_tied_plain_at .later [] [.data, .data, .data, .data, .sentinel, .sentinel, .pinned] true (true, "1a116ce9c7f932bd553c497cac4c60944923369d61d7296bd10d108ecfaa65c3") true
  said (λ_ h=>by cases h) af (λ_ h=>by cases h) simplexChecks_row_tie rfl ⟨rfl,rfl⟩ af rfl
  (λf fn hf hfn=>by
   obtain rfl : f = 3 := Option.some.inj ((show Tryz.prog.funcNamed "surveyor/surveyorlaw05.SimplexChecks" = some 3 by kernel_rfl).symm.trans hf) |>.symm;obtain rfl : fn = Tryz.f3 := (Option.some.inj (Tryz.func3.symm.trans hfn)).symm;exact ⟨by kernel_rfl, fun j t ht => by
    rcases aiJ ht with rfl |rfl |rfl
    ·exact(show Tryz.prog.wantsStandIn 25=false by kernel_rfl)
    ·exact(show Tryz.prog.wantsStandIn 26=false by kernel_rfl)
    ·exact(show Tryz.prog.wantsStandIn 28=false by kernel_rfl)⟩)
  af
#print axioms proved
end simplexChecks
end Go.Proofs.YtccmgnimoheekaaGreatDoor
