/-
  Part 4 of the proof, joined and thinned by a program.
-/
import Derived.Test.YtccmgnimoheekaaGreatDoorPk3
import Derived.Shelf.Strconv.Itoa3
import Derived.Test.YtccmgnimoheekaaGreatDoorProg
import Derived.KernelRfl
set_option autoImplicit true
set_option relaxedAutoImplicit true
set_option linter.all false
set_option linter.unusedVariables false
set_option linter.unusedSimpArgs false
set_option linter.unusedSectionVars false
open Go.IntKind renaming wrap -> aCw
open Int renaming ofNat -> aCx, tmod -> aCC, tdiv -> aCG
open List renaming cons_append -> aCy, append_nil -> aCz, nil_append -> aCA, replicate -> aCE, drop -> aCI, length_map -> aCJ, length_append -> aCK, eq_nil_of_length_eq_zero -> aCM, all_append -> aCQ
open Bool renaming cond_self -> aCB, and_eq_true -> aCO, and_self -> aCP, and_true -> aCR
open Nat renaming beq -> aCD, ble -> aCF, eq_of_beq_eq_true -> aCH, mul_one -> aCN
namespace Go.Proofs.YtccmgnimoheekaaGreatDoor
namespace Ls
open dC
open Go
def CD (l:List (List UInt8)):Bool:=room l.length
def B9 (x:List UInt8):Bool:=aCF (Fz x) 100
def mu (x:List UInt8):Bool:=eX x&&E7 x
def Xf (x:List UInt8):Bool:=B9 (sG x)&&B9 (pX x)
def r7 (x:List UInt8):Bool:=Xf x
def KB (x:List UInt8):Int:=cond (Int.same (kv x) 0) (cond (Xf x) 0 10) (kv x)
def lr (x:List UInt8):Bool:=eX x
def kU (x:List UInt8):Int:=KB x
def jQ (f:List UInt8->Int):List (List UInt8)->Int
 | []=>0
 |a::l=>cond (Int.same (f a) 0) (jQ f l) (f a)
def ka (x:List (List UInt8)):Bool:=CD x&&x.all eX
def pw (x:List (List UInt8)):Int:=jQ KB x
def XI (x:List (List UInt8)×List UInt8):Int:=cond (bZ 32 (aCx x.1.length)) 5 (cond (Int.same (jQ KB x.1) 0) (KB x.2) (jQ KB x.1))
def mB (x:List (List UInt8)×List UInt8):Bool:=(CD x.1&&x.1.all eX)&&eX x.2
def oT (x:List (List UInt8)×List UInt8):Int:=XI x
def lg (x:List UInt8):Bool:=eX x
def jr (x:List UInt8):Int:=cond (B9 x) 0 10
def j2 (x:List UInt8):Bool:=oB x
def jZ (x:List UInt8):Int:=KB x
def jy (x:List (List UInt8)):Bool:=CD x&&x.all oB
def n7 (x:List (List UInt8)):Int:=jQ KB x
def lh (x:List (List UInt8)×List UInt8):Bool:=(CD x.1&&x.1.all oB)&&oB x.2
def nm (x:List (List UInt8)×List UInt8):Int:=XI x
def jD (x:List UInt8):Bool:=neS x&&eX x
def n8 (x:List UInt8):Int:=aCx (Fz x)
def Jw (x:List UInt8):Int:=cond (Int.same (yo x) 0) (cond (B9 x) 0 10) (yo x)
def pN (x:List UInt8):Bool:=eX x
def lA (x:List UInt8):Int:=Jw x
abbrev dx:=Int×List (List UInt8)×List UInt8×List UInt8
def X3 (f:dx) (n:Int):Int:=
 cond (!Int.same f.1 0&& !Int.same f.1 1) 1 (cond (!Int.same (aCx f.2.1.length) n) 15 (cond (Int.same (jQ Jw (f.2.1++ [f.2.2.1])) 0) (cond (aD f.2.2.2 [48]) 0 2) (jQ Jw (f.2.1++ [f.2.2.1]))))
def abC (f:dx):Bool:=(Nat.blt f.2.1.length 1073741824&&f.2.1.all eX)&&eX f.2.2.1
def lS (x:dx×Int):Bool:=abC x.1
def ij (x:dx×Int):Int:=X3 x.1 x.2
def nE (x:dx×Int):Bool:=abC x.1
def jA (x:dx×Int):Int:=X3 x.1 x.2
def af3 (n:Int):List dx->Int
 | []=>0
 |f::l=>cond (Int.same (X3 f n) 0) (af3 n l) (X3 f n)
def Qa (c:List (List UInt8)×List UInt8) (l:List dx):Int:=
 cond (Int.same (XI c) 0) (cond (bZ 64 (aCx l.length)) 5 (af3 (aCx c.1.length) l)) (XI c)
def fj (x:(List (List UInt8)×List UInt8)×List dx):Bool:=((CD x.1.1&&x.1.1.all oB)&&oB x.1.2)&&(room x.2.length&&x.2.all abC)
def ix (x:(List (List UInt8)×List UInt8)×List dx):Int:=Qa x.1 x.2
def gr (x:(List (List UInt8)×List UInt8)×List dx):Bool:=((CD x.1.1&&x.1.1.all eX)&&eX x.1.2)&&(room x.2.length&&x.2.all abC)
def j7 (x:(List (List UInt8)×List UInt8)×List dx):Int:=Qa x.1 x.2
def eH (x:List (List UInt8)):Bool:=Nat.blt x.length 1073741824
def eY (x:List (List UInt8)):List (List UInt8):=x
noncomputable def DO:Spec:= .val [some 2,none] (.pair (.pair (.list .str) .str) (.list (.pair (.int .i64) (.pair (.list .str) (.pair .str .str))))) [none] (.int .i64) fj ix
noncomputable def HT:Spec:= .val [some 2,none] (.pair (.pair (.list .str) .str) (.list (.pair (.int .i64) (.pair (.list .str) (.pair .str .str))))) [none] (.int .i64) gr j7
noncomputable def OR:Spec:= .val [some 2] (.pair (.list .str) .str) [none] (.int .i64) lh nm
noncomputable def Dc:Spec:= .val [some 4,none] (.pair (.pair (.int .i64) (.pair (.list .str) (.pair .str .str))) (.int .i64)) [none] (.int .i64) lS ij
noncomputable def QI:Spec:= .val [some 2] (.pair (.list .str) .str) [none] (.int .i64) mB oT
noncomputable def Gc:Spec:= .val [some 4,none] (.pair (.pair (.int .i64) (.pair (.list .str) (.pair .str .str))) (.int .i64)) [none] (.int .i64) nE jA
noncomputable def lK:Spec:= .own [none] (.list .str) .str eH eY
noncomputable def JP:Spec:= .val [none] (.list .str) [none] (.int .i64) jy n7
noncomputable def DJ:Spec:= .val [none] .str [none] (.int .i64) j2 jZ
noncomputable def Kx:Spec:= .val [none] .str [none] (.int .i64) pN lA
noncomputable def Mc:Spec:= .val [none] (.list .str) [none] (.int .i64) ka pw
noncomputable def FH:Spec:= .val [none] .str [none] (.int .i64) lr kU
noncomputable def Pb:Spec:= .val [none] .str [none] (.int .i64) lg jr
noncomputable def Ka:Spec:= .val [none] .str [none] (.int .i64) jD n8
noncomputable def Qe:Spec:= .val [none] .str [none] .bool mu r7
abbrev kD:=List (List UInt8)×List UInt8
abbrev Oe:=Int×List UInt8×List (List UInt8)×List (List UInt8)×List (List UInt8)
def eM (x:List (List UInt8)):Bool:=Nat.blt x.length 1073741824
def pW (x:List (List UInt8)):List (List UInt8):=x
def eA (x:List (List (List UInt8))):Bool:=Nat.blt x.flatten.length 1073741824&&Nat.blt x.length 1073741824
def dV (x:List (List (List UInt8))):List (List UInt8):=x.flatten
def ey (x:List (List UInt8)×Int):Bool:=aCD x.1.length 1&&(dD 0 x.2&&dD x.2 1000)
def gp (x:List (List UInt8)×Int):List (List UInt8):=(aCE x.2.toNat x.1).flatten
def mV (x:Int):Bool:=dD 0 x&&dD x 1000
def o4 (x:Int):List (List UInt8):=aCE x.toNat [48]
def oa (x:Int):Bool:=dD 0 x&&dD x 1000
def nH (x:Int):kD:=(aCE x.toNat [48],[48])
def ej (x:List UInt8):Bool:=neS x
def fC (x:List UInt8):Bool:=CW x
def BC (n m:Int) (o:Oe):Bool:=
 let p:=aCx o.2.2.1.length
 let r:=aCx o.2.2.2.1.length
 let u:=aCx o.2.2.2.2.length
 cond (Int.same o.1 0) (Int.same p n&&(Int.same r 0&&Int.same u m))
  (cond (Int.same o.1 1) ((Int.same p n&&(Int.same r n&&Int.same u 0))&&aD o.2.1 [])
   ((Int.same p 0&&(Int.same r 0&&Int.same u m))&&aD o.2.1 []))
def pH (x:Int×Int×Oe):Bool:=true
def n4 (x:Int×Int×Oe):Bool:=BC x.1 x.2.1 x.2.2
def rj (x:Int×Int×Oe):Bool:=true
def qI (x:Int×Int×Oe):Bool:=BC x.1 x.2.1 x.2.2
def kb (x:List (List UInt8)):Bool:=CD x&&x.all eX
def pe (x:List (List UInt8)):Int:=jQ kv x
noncomputable def Kt:Spec:= .val [none,none,some 5] (.pair (.int .i64) (.pair (.int .i64) (.pair (.int .i64) (.pair .str (.pair (.list .str) (.pair (.list .str) (.list .str))))))) [none] .bool pH n4
noncomputable def kJ:Spec:= .val [none] (.list (.list .str)) [none] (.list .str) eA dV
noncomputable def OJ:Spec:= .val [none,none,some 5] (.pair (.int .i64) (.pair (.int .i64) (.pair (.int .i64) (.pair .str (.pair (.list .str) (.pair (.list .str) (.list .str))))))) [none] .bool rj qI
noncomputable def LR:Spec:= .val [none] (.list .str) [none] (.int .i64) kb pe
noncomputable def rl:Spec:= .val [none] .str [none] .bool ej fC
noncomputable def O4:Spec:= .val [none] (.int .i64) [some 2] (.pair (.list .str) .str) oa nH
noncomputable def lI:Spec:= .own [none] (.list .str) .str eM pW
noncomputable def Dn:Spec:= .own [none] (.int .i64) .str mV o4
noncomputable def k9:Spec:= .own [none,none] (.pair (.list .str) (.int .i64)) .str ey gp
end Ls
namespace Ls.Lib
open dC
open Ls
open Go
theorem ajv {y}
  (h: ∀A H aCL cs x,(∀b,A b->b<H.next)->Jp gs aCL cs->eC A H t x cs->pre x=true-> ∃v H',C E g aCL H=some (v,H')/\jh H H'/\
   ((v= .slice none 0 0 0/\y x=[])\/ ∃b ex cs el,v= .slice (some (b,0)) (y x).length (y x).length ex/\(ex=0\/ex=c.w)/\H.next<=b/\b<H'.next/\H'.get b=some (.cells cs false el)/\cG A H' c (y x) cs)):aN E g (.own gs t c pre y):=by
 intro A H aCL cs x r K L M;obtain⟨v,H',G,s,k⟩:=h A H aCL cs x r K L M;have l: ∀ {id:Nat} {B:LB},cd (iq [.seq c (y x)]) id=some B->id=0/\B= .seq c (y x):=λ{id B} d=>by
  cases id with
  |zero=>simp [iq,cd]at d;exact⟨rfl,d.symm⟩
  |succ id=>simp [iq,cd]at d
 have a: ∀ {id:Nat},cd (iq [.seq c (y x)]) id≠none->id=0:=λ{id} d=>by
  cases id with
  |zero=>rfl
  |succ id=>simp [iq,cd]at d
 rcases k with⟨rfl,I⟩ |⟨b,ex,u,el,rfl,z,D,F,n,p⟩
 ·refine⟨_,H',λ_=>none,A,G,⟨s,λid B d=> ?_,λid b _ q=>(by cases q),λi j b _ _ q=>(by cases q),λb f=>Nat.lt_of_lt_of_le (r b f) s.1,λb f=> .inl f⟩, ?_⟩
  ·obtain⟨rfl,rfl⟩:=l d;exact .inr ⟨I,rfl⟩
  ·show aC (λ_=>none) A H' (iq [.seq c (y x)]) (.own 0) _;simp only [aC];exact⟨c,0,by rw [I];rfl,.inr ⟨by trivial,by trivial,.inl trivial⟩⟩
 ·refine⟨_,H',λ_=>some b,A,G,⟨s,λid B d=> ?_,λid N _ q=> ?_,λi j N O P _ _=> ?_,λb f=>Nat.lt_of_lt_of_le (r b f) s.1,λb f=> .inl f⟩, ?_⟩
  ·obtain⟨rfl,rfl⟩:=l d;exact .inl ⟨b,u,el,rfl,n,p⟩
  ·cases q;exact⟨D,F,λf=>by have:=r b f;omega⟩
  ·rw [a O,a P]
  ·show aC (λ_=>some b) A H' (iq [.seq c (y x)]) (.own 0) _;simp only [aC];exact⟨c,(y x).length,rfl,.inl ⟨b,ex,rfl,rfl,z⟩⟩
theorem acm {x:List (List UInt8)} (h:MZ Z H 1 (λx c=>eC Z H .str x c) x v):
  (x=[]/\v= .slice none 0 0 0)\/ ∃b o cap ex cells f el,v= .slice (some (b,o)) x.length cap ex/\x.length<=cap/\(ex=0\/ex=1)/\Z b/\H.get b=some (.cells cells f el)/\o+x.length<=cells.length/\(cells.drop o).take x.length=x.map AV.str:=by
 rcases h with h |⟨b,o,cap,ex,cells,el,j,k,l,n,p,q,r⟩
 ·exact .inl h
 ·refine .inr ⟨b,o,cap,ex,cells,el.1,el.2,j,k,l,n,p,by simpa using q, ?_⟩;apply List.ext_getElem?;intro i;rw [List.getElem?_take,List.getElem?_map];by_cases a:i<x.length
  ·rw [if_pos a];have:=r i x[i] (List.getElem?_eq_getElem a);rw [List.getElem?_eq_getElem a];have d:(cells.drop (o+i*1)).take 1=[AV.str x[i]]:=this;rw [aCN]at d;have:((cells.drop (o+i)).take 1)[0]? =some (AV.str x[i]):=by rw [d];rfl
   rw [List.getElem?_take,if_pos ah,List.getElem?_drop]at this;rw [List.getElem?_drop];simpa using this
  ·rw [if_neg a,List.getElem?_eq_none aa];rfl
theorem aks: ∀x:List (List UInt8),aB (x.map AV.str)=true
 | []=>rfl
 |_::x=>aks x
theorem V5: ∀x:List (List UInt8),cG Z H .str x (x.map AV.str)
 | []=>cG.nil
 |a::x=>cG.cons (c:=[.str a]) rfl (V5 x)
section
variable {E:Env}
theorem amF (k:eD E 42 F42):aN E 42 lK:=
 ajv λA H aCL p x T U V w=>by
  obtain⟨v,e,W⟩:=V;rw [Xp U e];have hl:x.length<1073741824:=by simpa [eH,Nat.blt_eq]using w
  rcases acm W with⟨rfl,rfl⟩ |⟨b,o,d,r,s,Y,Z,rfl,R,va,hz,y,S,l⟩
  ·have G:yD .sn (.slice none 0 0 0) (.slice none 0 0 0)=some true:=rfl;refine⟨.slice none 0 0 0,H,abf ?_,jh.refl H,.inl ⟨rfl,rfl⟩⟩;rw [k.C];refine vK ?_;show Ok (X E ajW _ _) _;unfold ajW;simp [cR,bj,bC,bQ,bN,bx,cV,bt,aT,dQ,cls,aw,aR,aW,aZ,bd,AF.cX,bR,bz,IntKind.same,bm,bk,cellsOf,ba,aB,bD,bh,bn,bu,aL,nk,b5,aH,aCz,aCA,aCy,aX,cW,bJ,AV.aV,aCB,Int.aU,bS,qz,atI,asW,axG,axT,F42,AF.sW,AK,G,gY,fp,mE]
  ·have G:yD .sn (.slice (some (b,o)) x.length d r) (.slice none 0 0 0)=some false:=rfl;have hb:=T b hz;have I:Ok (C E 42 [.slice (some (b,o)) x.length d r] H) λq=>jh H q.2/\ ∃j a p f,q.1= .slice (some (j,0)) x.length x.length a/\(a=0\/a=1)/\H.next<=j/\j<q.2.next/\q.2.get j=some (.cells p false f)/\p=x.map AV.str:=by
    rw [k.C];refine vK ?_;show Ok (X E ajW _ _) _;unfold ajW;refine cL (λg h=>g.n=8/\g.get 0= .slice (some (b,o)) x.length d r/\h=H) (by simp [cR,bj,bC,bQ,bN,bx,cV,bt,aT,dQ,cls,aw,aR,aW,aZ,bd,AF.cX,bR,bz,IntKind.same,bm,bk,cellsOf,ba,aB,bD,bh,bn,bu,aL,nk,b5,aH,aCz,aCA,aCy,aX,cW,bJ,AV.aV,aCB,Int.aU,bS,qz,atI,F42,AF.sW,AK]) ?_;rintro g h ⟨z,t,rfl⟩;refine cL (λg c=>g.n=8/\g.get 0= .slice (some (b,o)) x.length d r/\c=h) ?_ ?_
    ·refine cL (λg c=>g.n=8/\g.get 0= .slice (some (b,o)) x.length d r/\g.get 4= .bool false/\c=h) (by simp [cR,bj,bC,bQ,bN,bx,cV,bt,aT,dQ,cls,aw,aR,aW,aZ,bd,AF.cX,bR,bz,IntKind.same,bm,bk,cellsOf,ba,aB,bD,bh,bn,bu,aL,nk,b5,aH,aCz,aCA,aCy,aX,cW,bJ,AV.aV,aCB,Int.aU,bS,qz,asW,z,t,G]) ?_;rintro g c ⟨z,t,h4,rfl⟩;rw [bC];simp only [AF.KS,h4];simp [bN,z,t]
    rintro g c ⟨z,t,rfl⟩;have K:(c.new (.cells [] false none)).get b=some (.cells s Y Z):=by rw [AH.eg _ aa];exact y
    have D:eu (c.new (.cells [] false none)) 1 (.slice (some (b,o)) x.length d r) x.length=some (x.map AV.str):=by
     simp only [eu,aCN,db,K];rw [bh,decide_eq_true aa,cond_true,l]
    have F:Ok (ew (c.new (.cells [] false none)) 41 [.str []] 16 (.slice (some (c.next,0)) 0 0 0) (.slice (some (b,o)) x.length d r)) λq=>jh c q.2/\ ∃j a p f,q.1= .slice (some (j,0)) x.length x.length a/\(a=0\/a=1)/\c.next<=j/\j<q.2.next/\q.2.get j=some (.cells p false f)/\p=x.map AV.str:=by
     simp only [ew,ja,List.length_cons,List.length_nil,Nat.zero_add,D];by_cases t:x.length=0
     ·have L:x=[]:=aCM t;subst L;refine⟨(.slice (some (c.next,0)) 0 0 0,(c.new (.cells [] false none)).set c.next (some (.cells [] false none))),by simp [bd,aB,bu,ba,bh],⟨ab,λi hi=>by rw [AH.dS _ aa,AH.eg _ aa]⟩,c.next,0,[],none,rfl,.inl rfl,Nat.le_refl _,ab,ab,rfl⟩
     ·have h1:aCF x.length 0=false:=Sc aa;have h2:aCF (x.length*16) 1099511627776=true:=by rw [bh];exact decide_eq_true aa
      have h3:aCF x.length 1099511627776=true:=by rw [bh];exact decide_eq_true aa
      refine⟨(.slice (some (c.next+1,0)) x.length x.length 1,(c.new (.cells [] false none)).new (.cells ([]++x.map AV.str) false (some (41,true)))),by simp [h1,h2,h3,bn,db,bh],((jh.new _ _).ace _),c.next+1,1,[]++x.map AV.str,some (41,true),rfl,.inr rfl,aa,ab,by simp [AH.rm],rfl⟩
    obtain⟨⟨v1,H1⟩,ha,hq⟩:=F;have u:rep [AV.str []] 0=[]:=rfl;simp only [axu];simp [cR,bj,bC,bQ,bN,bx,cV,bt,aT,dQ,cls,aw,aR,aW,aZ,bd,AF.cX,bR,bz,IntKind.same,bm,bk,cellsOf,ba,aB,bD,bh,bn,bu,aL,nk,b5,aH,aCz,aCA,aCy,aX,cW,bJ,AV.aV,aCB,Int.aU,bS,qz,z,t,fill,u,ha,gY,fp,mE,F42];obtain⟨M,j,a,p,f,N,O,P,Q,q5,rfl⟩:=hq;exact⟨M,j,a,N,O,P,Q,f,q5⟩
   obtain⟨⟨v,H'⟩,hr,hk,j,a,vc,f,rfl,N,O,P,Q,rfl⟩:=I;exact⟨_,H',hr,hk,.inr ⟨j,a,_,f,rfl,N,O,P,Q,V5 x⟩⟩
theorem am9 (k:eD E 93 F93):aN E 93 lI:=
 ajv λA H aCL p x T U V w=>by
  obtain⟨v,e,W⟩:=V;rw [Xp U e];have hl:x.length<1073741824:=by simpa [eM,Nat.blt_eq]using w
  rcases acm W with⟨rfl,rfl⟩ |⟨b,o,d,r,s,Y,Z,rfl,R,va,hz,y,S,l⟩
  ·have G:yD .sn (.slice none 0 0 0) (.slice none 0 0 0)=some true:=rfl;refine⟨.slice none 0 0 0,H,abf ?_,jh.refl H,.inl ⟨rfl,rfl⟩⟩;rw [k.C];refine vK ?_;show Ok (X E ajJ _ _) _;unfold ajJ;simp [cR,bj,bC,bQ,bN,bx,cV,bt,aT,dQ,cls,aw,aR,aW,aZ,bd,AF.cX,bR,bz,IntKind.same,bm,bk,cellsOf,ba,aB,bD,bh,bn,bu,aL,nk,b5,aH,aCz,aCA,aCy,aX,cW,bJ,AV.aV,aCB,Int.aU,bS,qz,avE,asf,axA,axE,F93,AF.sW,AK,G,gY,fp,mE]
  ·have G:yD .sn (.slice (some (b,o)) x.length d r) (.slice none 0 0 0)=some false:=rfl;have hb:=T b hz;have I:Ok (C E 93 [.slice (some (b,o)) x.length d r] H) λq=>jh H q.2/\ ∃j a p f,q.1= .slice (some (j,0)) x.length x.length a/\(a=0\/a=1)/\H.next<=j/\j<q.2.next/\q.2.get j=some (.cells p false f)/\p=x.map AV.str:=by
    rw [k.C];refine vK ?_;show Ok (X E ajJ _ _) _;unfold ajJ;refine cL (λg h=>g.n=8/\g.get 0= .slice (some (b,o)) x.length d r/\h=H) (by simp [cR,bj,bC,bQ,bN,bx,cV,bt,aT,dQ,cls,aw,aR,aW,aZ,bd,AF.cX,bR,bz,IntKind.same,bm,bk,cellsOf,ba,aB,bD,bh,bn,bu,aL,nk,b5,aH,aCz,aCA,aCy,aX,cW,bJ,AV.aV,aCB,Int.aU,bS,qz,avE,F93,AF.sW,AK]) ?_;rintro g h ⟨z,t,rfl⟩;refine cL (λg c=>g.n=8/\g.get 0= .slice (some (b,o)) x.length d r/\c=h) ?_ ?_
    ·refine cL (λg c=>g.n=8/\g.get 0= .slice (some (b,o)) x.length d r/\g.get 4= .bool false/\c=h) (by simp [cR,bj,bC,bQ,bN,bx,cV,bt,aT,dQ,cls,aw,aR,aW,aZ,bd,AF.cX,bR,bz,IntKind.same,bm,bk,cellsOf,ba,aB,bD,bh,bn,bu,aL,nk,b5,aH,aCz,aCA,aCy,aX,cW,bJ,AV.aV,aCB,Int.aU,bS,qz,asf,z,t,G]) ?_;rintro g c ⟨z,t,h4,rfl⟩;rw [bC];simp only [AF.KS,h4];simp [bN,z,t]
    rintro g c ⟨z,t,rfl⟩;have K:(c.new (.cells [] false none)).get b=some (.cells s Y Z):=by rw [AH.eg _ aa];exact y
    have D:eu (c.new (.cells [] false none)) 1 (.slice (some (b,o)) x.length d r) x.length=some (x.map AV.str):=by
     simp only [eu,aCN,db,K];rw [bh,decide_eq_true aa,cond_true,l]
    have F:Ok (ew (c.new (.cells [] false none)) 23 [.str []] 16 (.slice (some (c.next,0)) 0 0 0) (.slice (some (b,o)) x.length d r)) λq=>jh c q.2/\ ∃j a p f,q.1= .slice (some (j,0)) x.length x.length a/\(a=0\/a=1)/\c.next<=j/\j<q.2.next/\q.2.get j=some (.cells p false f)/\p=x.map AV.str:=by
     simp only [ew,ja,List.length_cons,List.length_nil,Nat.zero_add,D];by_cases t:x.length=0
     ·have L:x=[]:=aCM t;subst L;refine⟨(.slice (some (c.next,0)) 0 0 0,(c.new (.cells [] false none)).set c.next (some (.cells [] false none))),by simp [bd,aB,bu,ba,bh],⟨ab,λi hi=>by rw [AH.dS _ aa,AH.eg _ aa]⟩,c.next,0,[],none,rfl,.inl rfl,Nat.le_refl _,ab,ab,rfl⟩
     ·have h1:aCF x.length 0=false:=Sc aa;have h2:aCF (x.length*16) 1099511627776=true:=by rw [bh];exact decide_eq_true aa
      have h3:aCF x.length 1099511627776=true:=by rw [bh];exact decide_eq_true aa
      refine⟨(.slice (some (c.next+1,0)) x.length x.length 1,(c.new (.cells [] false none)).new (.cells ([]++x.map AV.str) false (some (23,true)))),by simp [h1,h2,h3,bn,db,bh],((jh.new _ _).ace _),c.next+1,1,[]++x.map AV.str,some (23,true),rfl,.inr rfl,aa,ab,by simp [AH.rm],rfl⟩
    obtain⟨⟨v1,H1⟩,ha,hq⟩:=F;have u:rep [AV.str []] 0=[]:=rfl;simp only [axQ];simp [cR,bj,bC,bQ,bN,bx,cV,bt,aT,dQ,cls,aw,aR,aW,aZ,bd,AF.cX,bR,bz,IntKind.same,bm,bk,cellsOf,ba,aB,bD,bh,bn,bu,aL,nk,b5,aH,aCz,aCA,aCy,aX,cW,bJ,AV.aV,aCB,Int.aU,bS,qz,z,t,fill,u,ha,gY,fp,mE,F93];obtain⟨M,j,a,p,f,N,O,P,Q,q5,rfl⟩:=hq;exact⟨M,j,a,N,O,P,Q,f,q5⟩
   obtain⟨⟨v,H'⟩,hr,hk,j,a,vc,f,rfl,N,O,P,Q,rfl⟩:=I;exact⟨_,H',hr,hk,.inr ⟨j,a,_,f,rfl,N,O,P,Q,V5 x⟩⟩
end
abbrev zS:List AV:=[.str []]
def aa2 {n:Nat} (h:n<=1099511627776):IntKind.u64.wrap n=n:=by
 have a:IntKind.u64.bits=64:=rfl;have b:IntKind.u64.signed=false:=rfl;simp only [aCw,a,b,Bool.false_and];have:(n:Int)%2^64=n:=aa
 rw [this];rfl
def adG (G:f.length=1) (I:aB f=true) (S:k<=1000):
  ∀d n g H,k-n<=d->0<n->n<=k->g.n=48->g.get 7= .slice (some (b,0)) k k 0->g.get 8= .int .i64 n->H.get b=some (.cells (rep f n++rep zS (k-n)) false none)->
  Ok (X E WJ g H) λr=>r.1= .exit 0/\r.2.1.n=48/\r.2.1.get 7= .slice (some (b,0)) k k 0/\r.2.2.next=H.next/\ ∀j,r.2.2.get j=if j=b then some (.cells (rep f k) false none)else H.get j:=by
 intro d;induction d with
 |zero=>
  intro n g H K L l p q y s;have:n=k:=aa
  subst this;unfold WJ;rw [Vp];simp [VI,Wz,cR,bj,bC,bQ,bN,bx,cV,bt,aT,dQ,cls,aw,aR,aW,aZ,bd,AF.cX,bR,bz,IntKind.same,bm,bk,cellsOf,ba,aB,bD,bh,bn,bu,aL,nk,b5,aH,aCz,aCA,aCy,aX,cW,bJ,AV.aV,aCB,Int.aU,bS,qz,p,q,y,ja];rw [s];simp [rep]
 |succ d M=>
  intro n g H K L l p q y s;unfold WJ;rw [Vp];by_cases z:n<k
  ·have A:min n (k-n)<=n:=Nat.min_le_left _ _;have D:min n (k-n)<=k-n:=Nat.min_le_right _ _;have t:=amV (cap:=k) (m:=min n (k-n)) (w:=1) G (show(zS:List AV).length=1 from rfl) s A;have u:=agY (m:=min n (k-n)) (w:=1) G (show(zS:List AV).length=1 from rfl) I s D;rw [aCN]at u;have v:(bif decide (n<=k-n)then n else k-n)=min n (k-n):=by
    by_cases c:n<=k-n
    ·simp [c,Nat.min_eq_left c]
    ·simp [c,Nat.min_eq_right (Nat.le_of_not_le c)]
   have x:n<=k:=l;have a:IntKind.i64.wrap ((n:Int)+(min n (k-n):Nat))=((n+min n (k-n):Nat):Int):=by
    rw [show(n:Int)+(min n (k-n):Nat)=((n+min n (k-n):Nat):Int) by simp];exact wsX aa
   simp only [VI,Wz,aqg,aqq,apf];simp [cR,bj,bC,bQ,bN,bx,cV,bt,aT,dQ,cls,aw,aR,aW,aZ,AF.cX,bR,bz,IntKind.same,bm,bk,cellsOf,ba,bD,bh,bn,aL,nk,b5,aH,aCz,aCA,aCy,aX,cW,bJ,AV.aV,aCB,Int.aU,bS,qz,p,q,y,z,bound,nA,afN,uK,ja,v,t,u,x,a];have F:n+min n (k-n)<=k:=aa
   refine(M (n+min n (k-n)) _ _ aa aa F (by simp [p]) (by simp [q]) ab (by simp [show k-n-min n (k-n)=k-(n+min n (k-n)) by omega])).mono ?_;rintro⟨e,T,U⟩ ⟨N,O,P,Q,R⟩;refine⟨N,O,P,by simpa using Q,λj=> ?_⟩;rw [R,AH.mK];by_cases e:j=b
   ·simp [e]
   ·have: ¬b=j:=λh=>e h.symm
    simp [e,this]
  ·have:n=k:=aa
   subst this;simp [VI,Wz,cR,bj,bC,bQ,bN,bx,cV,bt,aT,dQ,cls,aw,aR,aW,aZ,bd,AF.cX,bR,bz,IntKind.same,bm,bk,cellsOf,ba,aB,bD,bh,bn,bu,aL,nk,b5,aH,aCz,aCA,aCy,aX,cW,bJ,AV.aV,aCB,Int.aU,bS,qz,p,q,y,ja];rw [s];simp [rep]
def aln (K:eD E 134 arn) {k:Nat} (hk:k<=1000) (hm:E.vP 173 [.int .u64 1,.int .u64 k]=some (.tuple [.int .u64 0,.int .u64 k])) (S:f.length=1) (T:aB f=true) (hg:H.get b0=some (.cells cells U el)) (va:b0<H.next) (vc:o0+1<=cells.length) (F:(cells.drop o0).take 1=f):
  Ok (C E 134 [.slice (some (b0,o0)) 1 cap ex,.int .i64 k] H) λq=>q.1= .slice (some (H.next,0)) k k 0/\q.2.next=H.next+1/\ ∀j,q.2.get j=if j=H.next then some (.cells (rep f k) false none)else H.get j:=by
 have hw:IntKind.u64.wrap (k:Int)=(k:Int):=aa2 aa;have G:IntKind.u64.wrap 1=1:=aa2 (n:=1) aa;have I:IntKind.i64.wrap (k:Int)=(k:Int):=wsX aa;have t:bZ (k:Int) 0=false:=by simp [bZ]
 have u:bZ 9223372036854775807 (k:Int)=false:=by simp only [bZ,decide_eq_false_iff_not];omega
 have L:k*16<=1099511627776:=aa
 have M:k<=1099511627776:=aa
 have hC: ∀H,C E 173 [.int .u64 1,.int .u64 (k:Int)] H=some (.tuple [.int .u64 0,.int .u64 (k:Int)],H):=λH=>afh hm
 rw [K.C];refine vK ?_;show Ok (X E amW _ _) _;unfold amW;refine cL (λg h=>g.n=48/\g.get 0= .slice (some (b0,o0)) 1 cap ex/\g.get 1= .int .i64 (k:Int)/\h=H) (by simp [arn,auT,cR,bj,bC,bQ,bN,bx,cV,bt,aT,dQ,cls,aw,aR,aW,aZ,bd,AF.cX,bR,bz,IntKind.same,bm,bk,cellsOf,ba,aB,bD,bh,bn,bu,aL,nk,b5,aH,aCz,aCA,aCy,aX,cW,bJ,AV.aV,aCB,Int.aU,bS,qz,AF.sW,sE]) ?_;rintro g h ⟨d,l,r,rfl⟩;refine cL (λg a=>g.n=48/\g.get 0= .slice (some (b0,o0)) 1 cap ex/\g.get 1= .int .i64 (k:Int)/\a=h) (by simp [as2,cR,bj,bC,bQ,bN,bx,cV,bt,aT,dQ,cls,aw,aR,aW,aZ,bd,AF.cX,bR,bz,IntKind.same,bm,bk,cellsOf,ba,aB,bD,bh,bn,bu,aL,nk,b5,aH,aCz,aCA,aCy,aX,cW,bJ,AV.aV,aCB,Int.aU,bS,qz,d,l,r,t]) ?_;rintro g a ⟨d,l,r,rfl⟩;refine cL (λg c=>g.n=48/\g.get 0= .slice (some (b0,o0)) 1 cap ex/\g.get 5= .int .u64 0/\g.get 6= .int .u64 (k:Int)/\c=a) (by simp [ast,cR,bj,bC,bQ,bN,bx,cV,bt,aT,dQ,cls,aw,aR,aW,aZ,bd,AF.cX,bR,bz,IntKind.same,bm,bk,cellsOf,ba,aB,bD,bh,bn,bu,aL,nk,b5,aH,aCz,aCA,aCy,aX,cW,bJ,AV.aV,aCB,Int.aU,bS,qz,d,l,r,ja,hw,G,hC]) ?_;rintro g c ⟨d,l,h5,N,rfl⟩;refine cL (λg a=>g.n=48/\g.get 0= .slice (some (b0,o0)) 1 cap ex/\g.get 6= .int .u64 (k:Int)/\a=c) (by simp [atl,cR,bj,bC,bQ,bN,bx,cV,bt,aT,dQ,cls,aw,aR,aW,aZ,bd,AF.cX,bR,bz,IntKind.same,bm,bk,cellsOf,ba,aB,bD,bh,bn,bu,aL,nk,b5,aH,aCz,aCA,aCy,aX,cW,bJ,AV.aV,aCB,Int.aU,bS,qz,d,l,h5,N,u]) ?_;rintro g a ⟨d,l,N,rfl⟩;refine cL (λg c=>g.n=48/\g.get 0= .slice (some (b0,o0)) 1 cap ex/\g.get 7= .slice (some (a.next,0)) k k 0/\c=a.new (.cells (rep zS k) false none)) (by simp [aug,cR,bj,bC,bQ,bN,bx,cV,bt,aT,dQ,cls,aw,aR,aW,aZ,bd,AF.cX,bR,bz,IntKind.same,bm,bk,cellsOf,ba,aB,bD,bh,bn,bu,aL,nk,b5,aH,aCz,aCA,aCy,aX,cW,bJ,AV.aV,aCB,Int.aU,bS,qz,d,l,N,I,L,M]) ?_;rintro g c ⟨d,l,p,rfl⟩;have v:(a.new (.cells (rep zS k) false none)).get b0=some (.cells cells U el):=by rw [AH.eg _ aa];exact hg
 by_cases O:k=0
 ·subst O;refine cL (λg h=>g.n=48/\g.get 7= .slice (some (a.next,0)) 0 0 0/\g.get 8= .int .i64 0/\h.next=a.next+1/\ ∀j,h.get j=if j=a.next then some (.cells [] false none)else a.get j) ?_ ?_
  ·have P:(a.new (.cells [] false none)).get b0=some (.cells cells U el):=v;have x:o0<=cells.length:=aa
   simp [aiR,cR,bj,bC,bQ,bN,bx,cV,bt,aT,dQ,cls,aw,aR,aW,aZ,bd,AF.cX,bR,bz,IntKind.same,bm,bk,cellsOf,ba,aB,bD,bh,bn,bu,aL,nk,b5,aH,aCz,aCA,aCy,aX,cW,bJ,AV.aV,aCB,Int.aU,bS,qz,d,l,p,ja,eu,db,P,rep,x,aB,bu];intro j;by_cases e:j=a.next
   ·subst e;simp
   ·rw [if_neg e,AH.dS _ e,AH.eg _ e]
  rintro g h ⟨d,p,Q,R,s⟩;refine cL (λg c=>g.n=48/\g.get 7= .slice (some (a.next,0)) 0 0 0/\c=h) ?_ ?_
  ·refine rX ?_;unfold WJ;rw [Vp];simp [VI,Wz,cR,bj,bC,bQ,bN,bx,cV,bt,aT,dQ,cls,aw,aR,aW,aZ,bd,AF.cX,bR,bz,IntKind.same,bm,bk,cellsOf,ba,aB,bD,bh,bn,bu,aL,nk,b5,aH,aCz,aCA,aCy,aX,cW,bJ,AV.aV,aCB,Int.aU,bS,qz,d,p,Q,ja]
  rintro g c ⟨d,p,rfl⟩;simp [aih,cR,bj,bC,bQ,bN,bx,cV,bt,aT,dQ,cls,aw,aR,aW,aZ,bd,AF.cX,bR,bz,IntKind.same,bm,bk,cellsOf,ba,aB,bD,bh,bn,bu,aL,nk,b5,aH,aCz,aCA,aCy,aX,cW,bJ,AV.aV,aCB,Int.aU,bS,qz,d,p,arn,gY,fp,mE,R,s,rep]
 ·have y:=agY (H:=a.new (.cells (rep zS k) false none)) (b:=a.next) (k:=k) (n:=0) (m:=1) (f:=f) (z:=zS) (w:=1) (el:=none) S rfl T (by simp [rep]) aa;have A:eu (a.new (.cells (rep zS k) false none)) 1 (.slice (some (b0,o0)) 1 cap ex) 1=some (rep f 1):=by
   simp only [eu];exact alw v aa (by simpa [rep]using F)
  have D:(bif decide (1<=k)then 1 else k)=1:=by simp [show 1<=k by omega]
  refine cL (λg h=>g.n=48/\g.get 7= .slice (some (a.next,0)) k k 0/\g.get 8= .int .i64 1/\h=(a.new (.cells (rep zS k) false none)).set a.next (some (.cells (rep f 1++rep zS (k-1)) false none))) ?_ ?_
  ·simp at y;simp [aiR,cR,bj,bC,bQ,bN,bx,cV,bt,aT,dQ,cls,aw,aR,aW,aZ,AF.cX,bR,bz,IntKind.same,bm,bk,cellsOf,ba,bD,bh,bn,aL,nk,b5,aH,aCz,aCA,aCy,aX,cW,bJ,AV.aV,aCB,Int.aU,bS,qz,d,l,p,ja,D,A,y]
  rintro g h ⟨d,p,Q,rfl⟩;refine cL (λg h=>g.n=48/\g.get 7= .slice (some (a.next,0)) k k 0/\h.next=a.next+1/\ ∀j,h.get j=if j=a.next then some (.cells (rep f k) false none)else a.get j) ?_ ?_
  ·refine rX ?_;refine(adG S T aa k 1 g _ aa aa aa d p Q ab).mono ?_;rintro⟨e,g',H'⟩ ⟨rfl,V,W,Y,Z⟩;simp only at V W Y Z;simp [bn,V,W,Y,Z];intro j;by_cases e:j=a.next
   ·simp [e]
   ·rw [if_neg e,if_neg e,AH.dS _ e,AH.eg _ e]
  rintro g h ⟨d,p,R,s⟩;simp [aih,cR,bj,bC,bQ,bN,bx,cV,bt,aT,dQ,cls,aw,aR,aW,aZ,bd,AF.cX,bR,bz,IntKind.same,bm,bk,cellsOf,ba,aB,bD,bh,bn,bu,aL,nk,b5,aH,aCz,aCA,aCy,aX,cW,bJ,AV.aV,aCB,Int.aU,bS,qz,d,p,arn,gY,fp,mE,R,s]
def adU a: ∀k,rep [AV.str a] k=((aCE k [a]).flatten).map AV.str
 |0=>rfl
 |k+1=>by rw [rep,adU a k,List.replicate_succ,List.flatten_cons];rfl
def aqY (k:eD E 134 arn) (L: ∀n:Nat,n<=1000->E.vP 173 [.int .u64 1,.int .u64 n]=some (.tuple [.int .u64 0,.int .u64 n])):aN E 134 k9:=
 ajv λA H aCL cs x M N O d=>by
  obtain⟨c1,P,e,⟨v,Q,z⟩,R⟩:=O;have S:P=[.int .i64 x.2]:=R;rw [Q,S]at e;rw [Rb N e];simp only [ey,aCO,Nat.beq_eq]at d;obtain⟨p,u,D⟩:=d;simp only [dD,decide_eq_true_eq]at u D;obtain⟨l,n⟩:=x;simp only at p u D z⊢;obtain⟨j,rfl⟩: ∃k:Nat,n=k:=⟨n.toNat,(Int.toNat_of_nonneg u).symm⟩;obtain⟨a,rfl⟩: ∃a,l=[a]:=by
   rcases l with _ |⟨a,_ |⟨b,l⟩⟩
   ·simp at p
   ·exact⟨a,rfl⟩
   ·simp at p
  rcases acm z with⟨h,_⟩ |⟨b,o,y,T,q,ro,el,rfl,F,U,V,s,t,c⟩
  ·cases h
  ·have W:=M b V;have G:gp ([a],(j:Int))=(aCE j [a]).flatten:=rfl;have r:((aCE j [a]).flatten).length=j:=by
    have:=congrArg List.length (adU a j);rw [rK (w:=1) rfl,aCJ]at this;omega
   obtain⟨⟨v,Y⟩,Z,rfl,I,K⟩:=aln k (k:=j) aa (L j aa) (H:=H) (b0:=b) (o0:=o) (cap:=y) (ex:=T) (cells:=q) (f:=[.str a]) rfl rfl s W (by simpa using t) (by simpa using c);refine⟨_,Y,Z,⟨by simp at I;omega,λi hi=>by rw [K,if_neg aa]⟩,.inr ⟨H.next,0,rep [.str a] j,none,by rw [G,r],.inl rfl,Nat.le_refl _,by simp at I;omega,by rw [K,if_pos rfl], ?_⟩⟩;rw [G,adU];exact V5 _
theorem asy {y:t.Den->List (List UInt8)}
  (h: ∀A H aCL cs x,(∀b,A b->b<H.next)->Jp gs aCL cs->eC A H t x cs->pre x=true-> ∃v H',C E g aCL H=some (v,H')/\jh H H'/\
   ∃Z,(∀b,Z b->b<H'.next/\(A b\/H.next<=b))/\MZ Z H' 1 (λx c=>eC Z H' .str x c) (y x) v):aN E g (.val gs t [none] (.list .str) pre y):=by
 intro A H aCL cs x k l n p;obtain⟨v,H',q,r,Z,f,s⟩:=h A H aCL cs x k l n p;refine⟨v,H',λ_=>none,Z,q,⟨r,λid B u=>by simp [Spec.val,iq,cd]at u,λid b _ a=>(by cases a),λi j b _ _ a=>(by cases a),λb d=>(f b d).1,λb d=>(f b d).2⟩, ?_⟩;show aC _ _ _ _ (.val (.list .str) (y x)) v;simp only [aC];exact⟨v,rfl,s⟩
theorem alH {x:List (List UInt8)} (h:MZ Z H 1 (λx c=>eC Z H .str x c) x v): ∃a cap ex,v= .slice a x.length cap ex:=by
 rcases h with⟨rfl,rfl⟩ |⟨b,o,cap,ex,_,_,rfl,_⟩
 ·exact⟨none,0,0,rfl⟩
 ·exact⟨_,_,_,rfl⟩
theorem al1 (j: ∀b,Z b->H'.get b=H.get b) {x:List (List UInt8)} (h:MZ Z H 1 (λx c=>eC Z H .str x c) x v):eu H' 1 v x.length=some (x.map AV.str):=by
 rcases acm h with⟨rfl,rfl⟩ |⟨b,o,k,p,f,q,r,rfl,_,_,l,a,d,n⟩
 ·rfl
 ·simp only [eu,db,aCN,j b l,a];rw [bh,decide_eq_true d,cond_true,n]
def asw (A:Nat->Prop) (H:AH) (x:List (List (List UInt8))) (b o:Nat) (cells:List AV):Prop:=
 A b/\(∃a d,H.get b=some (.cells cells a d))/\ ∀j y,x[j]? =some y-> ∃v,cells[o+j]? =some v/\MZ A H 1 (λx c=>eC A H .str x c) y v
section
variable {E:Env}
theorem ajF (hO:asw A H x b o cells) (hx:x.flatten.length<1073741824) (Y:x.length<1073741824):
  ∀s pre g,x=pre++s->g.n=36->g.get 0= .slice (some (b,o)) x.length cap ex->g.get 9= .slice (some (b,o)) x.length cap ex->g.get 10= .int .i64 (x.length:Int)->g.get 11= .int .i64 (pre.length:Int)->g.get 3= .int .i64 (pre.flatten.length:Int)->
  Ok (X E atE g H) λq=>q.1= .exit 0/\q.2.1.n=36/\q.2.1.get 0= .slice (some (b,o)) x.length cap ex/\q.2.1.get 3= .int .i64 (x.flatten.length:Int)/\q.2.2=H
 | [],pre,g,r,f,h,l,a,c,d=>by
  have K:x=pre:=by simpa using r
  subst K;refine Es ?_;unfold ajq;refine cL (λp I=>p.n=36/\p.get 0= .slice (some (b,o)) x.length cap ex/\p.get 3= .int .i64 (x.flatten.length:Int)/\p.get 12= .bool false/\I=H) (by simp only [aqn];simp [cR,bj,bC,bQ,bN,bx,cV,bt,aT,dQ,cls,aw,aR,aW,aZ,bd,AF.cX,bR,bz,IntKind.same,bm,bk,cellsOf,ba,aB,bD,bh,bn,bu,aL,nk,b5,aH,aCz,aCA,aCy,aX,cW,bJ,AV.aV,aCB,Int.aU,bS,qz,f,h,d,a,c]) ?_;rintro p I ⟨f,h,d,D,rfl⟩;refine GR (λ_ _=>False) ?_ (λ_ _ hf=>hf.elim);rw [bC];simp only [AF.KS,D];rw [bQ];simp [f,h,d]
 |y::s,pre,g,r,f,h,l,a,c,d=>by
  refine Es ?_;unfold ajq;have L:pre.length<x.length:=by rw [r];simp
  have hj:x[pre.length]? =some y:=by rw [r];simp
  obtain⟨Z,⟨ro,el,w⟩,M⟩:=hO;obtain⟨v,hv,N⟩:=M _ _ hj;obtain⟨a',O,va,rfl⟩:=alH N;have F:(pre++ [y]).flatten.length=pre.flatten.length+y.length:=ab
  have Q:pre.flatten.length+y.length<=x.flatten.length:=by rw [r,List.flatten_append,List.flatten_cons,aCK,aCK];omega
  have hw:IntKind.i64.wrap ((pre.flatten.length:Int)+(y.length:Int))=((pre.flatten.length+y.length:Nat):Int):=by
   rw [show(pre.flatten.length:Int)+(y.length:Int)=((pre.flatten.length+y.length:Nat):Int) by omega];exact wsX aa
  have t:bZ ((pre.flatten.length+y.length:Nat):Int) 0=false:=by rw [bZ];exact decide_eq_false aa
  have vc:IntKind.i64.wrap ((pre.length:Int)+1)=((pre.length+1:Nat):Int):=agV aa;obtain⟨S,hS⟩: ∃S:Nat,S=pre.flatten.length:=⟨_,rfl⟩;obtain⟨T,hT⟩: ∃T:Nat,T=S+y.length:=⟨_,rfl⟩;rw [<-hS]at d hw t Q F;rw [<-hT]at hw t Q F;refine cL (λp I=>p.n=36/\p.get 0= .slice (some (b,o)) x.length cap ex/\p.get 9= .slice (some (b,o)) x.length cap ex/\p.get 10= .int .i64 (x.length:Int)/\p.get 11= .int .i64 (pre.length:Int)/\p.get 3= .int .i64 (S:Int)/\p.get 12= .bool true/\I=H) (by simp only [aqn];simp [cR,bj,bC,bQ,bN,bx,cV,bt,aT,dQ,cls,aw,aR,aW,aZ,bd,AF.cX,bR,bz,IntKind.same,bm,bk,cellsOf,ba,aB,bD,bh,bn,bu,aL,nk,b5,aH,aCz,aCA,aCy,aX,cW,bJ,AV.aV,aCB,Int.aU,bS,qz,f,h,d,l,a,c,L]) ?_;rintro p I ⟨f,h,l,a,c,d,D,rfl⟩;refine cL (λG U=>G.n=36/\G.get 0= .slice (some (b,o)) x.length cap ex/\G.get 9= .slice (some (b,o)) x.length cap ex/\G.get 10= .int .i64 (x.length:Int)/\G.get 11= .int .i64 (pre.length:Int)/\G.get 3= .int .i64 (S:Int)/\U=I) ?_ ?_
  ·rw [bC];simp only [AF.KS,D];simp [bN,f,h,l,a,c,d]
  rintro G U ⟨f,h,l,a,c,d,rfl⟩;refine cL (λk j=>k.n=36/\k.get 0= .slice (some (b,o)) x.length cap ex/\k.get 9= .slice (some (b,o)) x.length cap ex/\k.get 10= .int .i64 (x.length:Int)/\k.get 11= .int .i64 (pre.length:Int)/\k.get 3= .int .i64 (T:Int)/\j=U) ?_ ?_
  ·refine rX ?_;unfold avI;refine cL (λk j=>k.n=36/\k.get 0= .slice (some (b,o)) x.length cap ex/\k.get 9= .slice (some (b,o)) x.length cap ex/\k.get 10= .int .i64 (x.length:Int)/\k.get 11= .int .i64 (pre.length:Int)/\k.get 3= .int .i64 (S:Int)/\k.get 5= .slice a' y.length O va/\j=U) ?_ ?_
   ·simp only [axI];obtain⟨R,vd⟩:=List.getElem?_eq_some_iff.1 hv;simp [cR,bj,bC,bQ,bN,bx,cV,bt,aT,dQ,cls,aw,aR,aW,aZ,bd,AF.cX,bR,bz,IntKind.same,bm,bk,cellsOf,ba,aB,bD,bh,bn,bu,aL,nk,b5,aH,aCz,aCA,aCy,aX,cW,bJ,AV.aV,aCB,Int.aU,bS,qz,f,h,l,a,c,d,L,w,R,vd]
   rintro k j ⟨f,h,l,a,c,d,V,rfl⟩;refine cL (λu W=>u.n=36/\u.get 0= .slice (some (b,o)) x.length cap ex/\u.get 9= .slice (some (b,o)) x.length cap ex/\u.get 10= .int .i64 (x.length:Int)/\u.get 11= .int .i64 (pre.length:Int)/\u.get 3= .int .i64 (T:Int)/\W=j) (by simp only [axP];simp [cR,bj,bC,bQ,bN,bx,cV,bt,aT,dQ,cls,aw,aR,aW,aZ,bd,AF.cX,bR,bz,IntKind.same,bm,bk,cellsOf,ba,aB,bD,bh,bn,bu,aL,nk,b5,aH,aCz,aCA,aCy,aX,cW,bJ,AV.aV,aCB,Int.aU,bS,qz,f,h,l,a,c,d,V,hw]) ?_;rintro u W ⟨f,h,l,a,c,d,rfl⟩;refine cL (λz V=>z.n=36/\z.get 0= .slice (some (b,o)) x.length cap ex/\z.get 9= .slice (some (b,o)) x.length cap ex/\z.get 10= .int .i64 (x.length:Int)/\z.get 11= .int .i64 (pre.length:Int)/\z.get 3= .int .i64 (T:Int)/\z.get 20= .bool false/\V=W) (by simp only [axv];simp [cR,bj,bC,bQ,bN,bx,cV,bt,aT,dQ,cls,aw,aR,aW,aZ,bd,AF.cX,bR,bz,IntKind.same,bm,bk,cellsOf,ba,aB,bD,bh,bn,bu,aL,nk,b5,aH,aCz,aCA,aCy,aX,cW,bJ,AV.aV,aCB,Int.aU,bS,qz,f,h,l,a,c,d,t]) ?_;rintro z V ⟨f,h,l,a,c,d,ve,rfl⟩;rw [bC];simp only [AF.KS,ve];simp [bN,f,h,l,a,c,d]
  rintro k j ⟨f,h,l,a,c,d,rfl⟩;have ih:=λu e1 e2 e3 e4 e5 e6=>ajF (H:=j) (x:=x) (b:=b) (o:=o) (cap:=cap) (ex:=ex) (cells:=cells) ⟨Z,⟨ro,el,w⟩,M⟩ hx Y s (pre++ [y]) u (by rw [r];simp) e1 e2 e3 e4 e5 e6
  refine Ok.mono (P:=λq=>q.1= .normal/\q.2.1.n=36/\q.2.1.get 0= .slice (some (b,o)) x.length cap ex/\q.2.1.get 9= .slice (some (b,o)) x.length cap ex/\q.2.1.get 10= .int .i64 (x.length:Int)/\q.2.1.get 11= .int .i64 ((pre.length+1:Nat):Int)/\q.2.1.get 3= .int .i64 (T:Int)/\q.2.2=j) (by simp only [asD];simp [cR,bj,bC,bQ,bN,bx,cV,bt,aT,dQ,cls,aw,aR,aW,aZ,bd,AF.cX,bR,bz,IntKind.same,bm,bk,cellsOf,ba,aB,bD,bh,bn,bu,aL,nk,b5,aH,aCz,aCA,aCy,aX,cW,bJ,AV.aV,aCB,Int.aU,bS,qz,f,h,l,a,c,d,vc]) ?_;rintro⟨e,u,W⟩ ⟨rfl,q1,q2,q3,q4,q5,q6,rfl⟩;simp only at q1 q2 q3 q4 q5 q6;exact .inl ⟨rfl,ih u q1 q2 q3 q4 (by rw [q5];simp) (by rw [q6,F])⟩
def Acc (a:AH) (B S m:Nat) (l:List (List UInt8)) (v:AV) (h:AH):Prop:=
 l.length=m/\((S=0/\v= .slice none 0 0 0/\h=a)\/
  (0<S/\v= .slice (some (B,0)) m S 1/\h.get B=some (.cells (l.map AV.str++rep zS (S-m)) false (some (23,true)))/\h.next=a.next/\ ∀i,i≠B->h.get i=a.get i))
theorem asg {l y:List (List UInt8)} (f: ∀b,A b->b≠B/\u.get b=H.get b) (p:MZ A H 1 (λx c=>eC A H .str x c) y vy) (q:Acc u B S m l v h) (r:m+y.length<=S):
  ∃z D,ew h 23 [.str []] 16 v vy=some (z,D)/\Acc u B S (m+y.length) (l++y) z D:=by
 obtain⟨s,q⟩:=q;obtain⟨P,F,K,rfl⟩:=alH p;rcases q with⟨rfl,rfl,rfl⟩ |⟨L,rfl,M,N,G⟩
 ·have O:y.length=0:=aa
  have t:y=[]:=aCM O;have a:=al1 (H':=h) (λb n=>(f b n).2) p;subst t;refine⟨.slice none 0 0 0,h, ?_,by simpa using s,.inl ⟨rfl,rfl,rfl⟩⟩;simp only [List.length_nil]at a;simp [ew,ja,a,bh]
 ·have a:=al1 (H':=h) (λb n=>by rw [G b (f b n).1];exact(f b n).2) p;have d:m+y.length<=(l.map AV.str++rep zS (S-m)).length:=by rw [aCK,aCJ,rK (w:=1) rfl];omega
  have j:bu (l.map AV.str++rep zS (S-m)) m (y.map AV.str)=(l++y).map AV.str++rep zS (S-(m+y.length)):=by
   rw [kx _ _ _ (by rw [aCJ];exact d),aCJ,List.take_append_of_le_length (by rw [aCJ];omega),List.take_of_length_le (by rw [aCJ];omega),List.map_append,List.append_assoc];congr 2;rw [List.drop_append,List.drop_of_length_le (by rw [aCJ];omega),aCA,aCJ,s,show m+y.length-m=y.length*1 by omega,aj9 (w:=1) rfl aa];congr 1;omega
  have k:=aks y;refine⟨.slice (some (B,0)) (m+y.length) S 1,h.set B (some (.cells ((l++y).map AV.str++rep zS (S-(m+y.length))) false (some (23,true)))), ?_,by simp [s],.inr ⟨L,rfl,ab,by simpa using N,λi I=>by rw [AH.dS _ I];exact G i I⟩⟩;simp only [ew,ja,List.length_cons,List.length_nil,Nat.zero_add,a];rw [show aCF (m+y.length) S=true by rw [bh];exact decide_eq_true r,cond_true];simp only [ba,aCN,Nat.zero_add,bd,M,aCJ];rw [show aCF (m+y.length) (l.map AV.str++rep zS (S-m)).length=true by rw [bh];exact decide_eq_true d,k,aCP,cond_true,j]
theorem ag7 (t: ∀b,A b->b≠B/\H1.get b=H.get b) (hO:asw A H x b o cells) (T:S=x.flatten.length) (U:x.length<1073741824):
  ∀r pre g h v,x=pre++r->Acc H1 B S pre.flatten.length pre.flatten v h->g.n=36->g.get 25= .slice (some (b,o)) x.length cap ex->g.get 26= .int .i64 (x.length:Int)->g.get 27= .int .i64 (pre.length:Int)->g.get 6=v->
  Ok (X E asR g h) λq=>q.1= .exit 2/\q.2.1.n=36/\ ∃D,q.2.1.get 6=D/\Acc H1 B S S x.flatten D q.2.2
 | [],pre,g,h,v,j,G,k,a,c,d,l=>by
  have I:x=pre:=by simpa using j
  subst I;refine Es ?_;unfold ah2;refine cL (λp R=>p.n=36/\p.get 6=v/\p.get 28= .bool false/\R=h) (by simp only [ahO];simp [cR,bj,bC,bQ,bN,bx,cV,bt,aT,dQ,cls,aw,aR,aW,aZ,bd,AF.cX,bR,bz,IntKind.same,bm,bk,cellsOf,ba,aB,bD,bh,bn,bu,aL,nk,b5,aH,aCz,aCA,aCy,aX,cW,bJ,AV.aV,aCB,Int.aU,bS,qz,k,a,c,d,l]) ?_;rintro p R ⟨k,l,u,rfl⟩;refine GR (λ_ _=>False) ?_ (λ_ _ hf=>hf.elim);rw [bC];simp only [AF.KS,u];rw [bQ];rw [<-T]at G;simp [k,l,G]
 |y::r,pre,g,h,v,j,G,k,a,c,d,l=>by
  refine Es ?_;unfold ah2;have K:pre.length<x.length:=by rw [j];simp
  have hj:x[pre.length]? =some y:=by rw [j];simp
  obtain⟨L,⟨ro,el,s⟩,M⟩:=hO;obtain⟨vy,hv,N⟩:=M _ _ hj;have V:pre.flatten.length+y.length<=S:=by rw [T,j,List.flatten_append,List.flatten_cons,aCK,aCK];omega
  obtain⟨D,R,O,W⟩:=asg t N G V;have w:h.get b=some (.cells cells ro el):=by
   have Y:=t b L;rcases G.2 with⟨_,_,rfl⟩ |⟨_,_,_,_,hr⟩
   ·rw [Y.2];exact s
   ·rw [hr b Y.1,Y.2];exact s
  have Z:IntKind.i64.wrap ((pre.length:Int)+1)=((pre.length+1:Nat):Int):=agV aa;refine cL (λp h2=>p.n=36/\p.get 25= .slice (some (b,o)) x.length cap ex/\p.get 26= .int .i64 (x.length:Int)/\p.get 27= .int .i64 (pre.length:Int)/\p.get 6=v/\p.get 28= .bool true/\h2=h) (by simp only [ahO];simp [cR,bj,bC,bQ,bN,bx,cV,bt,aT,dQ,cls,aw,aR,aW,aZ,bd,AF.cX,bR,bz,IntKind.same,bm,bk,cellsOf,ba,aB,bD,bh,bn,bu,aL,nk,b5,aH,aCz,aCA,aCy,aX,cW,bJ,AV.aV,aCB,Int.aU,bS,qz,k,a,c,d,l,K]) ?_;rintro p h2 ⟨k,a,c,d,l,u,rfl⟩;refine cL (λF h3=>F.n=36/\F.get 25= .slice (some (b,o)) x.length cap ex/\F.get 26= .int .i64 (x.length:Int)/\F.get 27= .int .i64 (pre.length:Int)/\F.get 6=v/\h3=h2) ?_ ?_
  ·rw [bC];simp only [AF.KS,u];simp [bN,k,a,c,d,l]
  rintro F h3 ⟨k,a,c,d,l,rfl⟩;refine cL (λf z=>f.n=36/\f.get 25= .slice (some (b,o)) x.length cap ex/\f.get 26= .int .i64 (x.length:Int)/\f.get 27= .int .i64 (pre.length:Int)/\f.get 6=D/\z=R) ?_ ?_
  ·refine rX ?_;unfold avs;refine cL (λf z=>f.n=36/\f.get 25= .slice (some (b,o)) x.length cap ex/\f.get 26= .int .i64 (x.length:Int)/\f.get 27= .int .i64 (pre.length:Int)/\f.get 6=v/\f.get 8=vy/\z=h3) ?_ ?_
   ·simp only [au4];obtain⟨Q,va⟩:=List.getElem?_eq_some_iff.1 hv;simp [cR,bj,bC,bQ,bN,bx,cV,bt,aT,dQ,cls,aw,aR,aW,aZ,bd,AF.cX,bR,bz,IntKind.same,bm,bk,cellsOf,ba,aB,bD,bh,bn,bu,aL,nk,b5,aH,aCz,aCA,aCy,aX,cW,bJ,AV.aV,aCB,Int.aU,bS,qz,k,a,c,d,l,K,w,Q,va]
   rintro f z ⟨k,a,c,d,l,h8,rfl⟩;simp only [asH];simp [cR,bj,bC,bQ,bN,bx,cV,bt,aT,dQ,cls,aw,aR,aW,aZ,bd,AF.cX,bR,bz,IntKind.same,bm,bk,cellsOf,ba,aB,bD,bh,bn,bu,aL,nk,b5,aH,aCz,aCA,aCy,aX,cW,bJ,AV.aV,aCB,Int.aU,bS,qz,k,a,c,d,l,h8,O]
  rintro f z ⟨k,a,c,d,l,rfl⟩;have ih:=λg4 e1 e2 e3 e4 e5=>ag7 t (b:=b) (o:=o) (cap:=cap) (ex:=ex) (cells:=cells) ⟨L,⟨ro,el,s⟩,M⟩ T U r (pre++ [y]) g4 z D (by rw [j];simp) (by
   have e:(pre++ [y]).flatten=pre.flatten++y:=ab
   rw [e,aCK];exact W) e1 e2 e3 e4 e5
  refine Ok.mono (P:=λq=>q.1= .normal/\q.2.1.n=36/\q.2.1.get 25= .slice (some (b,o)) x.length cap ex/\q.2.1.get 26= .int .i64 (x.length:Int)/\q.2.1.get 27= .int .i64 ((pre.length+1:Nat):Int)/\q.2.1.get 6=D/\q.2.2=z) (by simp only [auf];simp [cR,bj,bC,bQ,bN,bx,cV,bt,aT,dQ,cls,aw,aR,aW,aZ,bd,AF.cX,bR,bz,IntKind.same,bm,bk,cellsOf,ba,aB,bD,bh,bn,bu,aL,nk,b5,aH,aCz,aCA,aCy,aX,cW,bJ,AV.aV,aCB,Int.aU,bS,qz,k,a,c,d,l,Z]) ?_;rintro⟨e,g4,h5⟩ ⟨rfl,q1,q2,q3,q4,q5,rfl⟩;simp only at q1 q2 q3 q4 q5;exact .inl ⟨rfl,ih g4 q1 q2 q3 (by rw [q4];simp) q5⟩
theorem avd (k:eD E 48 F48) (S:Nat) (z:S<1073741824) H:
  Ok (C E 48 [.slice none 0 0 0,.int .i64 S] H) λq=>(S=0/\q.1= .slice none 0 0 0/\q.2=H)\/(0<S/\q.1= .slice (some (H.next,0)) 0 S 1/\q.2=H.new (.cells (rep zS S) false (some (23,true)))):=by
 rw [k.C];refine vK ?_;show Ok (X E avc _ _) _;unfold avc;have j:bZ (S:Int) 0=false:=by rw [bZ];exact decide_eq_false aa
 refine cL (λg h=>g.n=27/\g.get 0= .slice none 0 0 0/\g.get 1= .int .i64 (S:Int)/\h=H) (by simp [cR,bj,bC,bQ,bN,bx,cV,bt,aT,dQ,cls,aw,aR,aW,aZ,bd,AF.cX,bR,bz,IntKind.same,bm,bk,cellsOf,ba,aB,bD,bh,bn,bu,aL,nk,b5,aH,aCz,aCA,aCy,aX,cW,bJ,AV.aV,aCB,Int.aU,bS,qz,axC,F48,AF.sW,sE]) ?_;rintro g h ⟨b,a,c,rfl⟩;refine cL (λg d=>g.n=27/\g.get 0= .slice none 0 0 0/\g.get 1= .int .i64 (S:Int)/\d=h) ?_ ?_
 ·refine cL (λg d=>g.n=27/\g.get 0= .slice none 0 0 0/\g.get 1= .int .i64 (S:Int)/\g.get 6= .bool false/\d=h) (by simp only [axH];simp [cR,bj,bC,bQ,bN,bx,cV,bt,aT,dQ,cls,aw,aR,aW,aZ,bd,AF.cX,bR,bz,IntKind.same,bm,bk,cellsOf,ba,aB,bD,bh,bn,bu,aL,nk,b5,aH,aCz,aCA,aCy,aX,cW,bJ,AV.aV,aCB,Int.aU,bS,qz,b,a,c,j]) ?_;rintro g d ⟨b,a,c,x,rfl⟩;rw [bC];simp only [AF.KS,x];simp [bN,b,a,c]
 rintro g d ⟨b,a,c,rfl⟩;have y:IntKind.i64.wrap (S:Int)=(S:Int):=wsX aa;have p:IntKind.i64.wrap 0=0:=wsX (n:=0) aa;refine cL (λg f=>g.n=27/\((S=0/\g.get 0= .slice none 0 0 0/\f=d)\/(0<S/\g.get 0= .slice (some (d.next,0)) 0 S 1/\f=d.new (.cells (rep zS S) false (some (23,true)))))) ?_ ?_
 ·refine cL (λg f=>g.n=27/\g.get 0= .slice none 0 0 0/\g.get 1= .int .i64 (S:Int)/\f=d) (by simp only [axF];simp [cR,bj,bC,bQ,bN,bx,cV,bt,aT,dQ,cls,aw,aR,aW,aZ,bd,AF.cX,bR,bz,IntKind.same,bm,bk,cellsOf,ba,aB,bD,bh,bn,bu,aL,nk,b5,aH,aCz,aCA,aCy,aX,cW,bJ,AV.aV,aCB,Int.aU,bS,qz,b,a,c,y,p]) ?_;rintro g f ⟨b,a,c,rfl⟩;refine cL (λg w=>g.n=27/\g.get 0= .slice none 0 0 0/\g.get 1= .int .i64 (S:Int)/\g.get 16= .bool (decide (0<S))/\w=f) (by
   have:bZ 0 (S:Int)=decide (0<S):=by rw [bZ];exact decide_eq_decide.2 aa
   simp only [axZ];simp [cR,bj,bC,bQ,bN,bx,cV,bt,aT,dQ,cls,aw,aR,aW,aZ,bd,AF.cX,bR,bz,IntKind.same,bm,bk,cellsOf,ba,aB,bD,bh,bn,bu,aL,nk,b5,aH,aCz,aCA,aCy,aX,cW,bJ,AV.aV,aCB,Int.aU,bS,qz,b,a,c,this]) ?_
  rintro g w ⟨b,a,c,r,rfl⟩;rw [bC];simp only [AF.KS,r];by_cases l:0<S
  ·have s:S*16<=1099511627776:=aa
   have t:S<=1099511627776:=aa
   have u:uK (.int .i64 0)=some 0:=rfl;simp only [l,decide_true,axx,axB];simp [cR,bj,bC,bQ,bN,bx,cV,bt,aT,dQ,cls,aw,aR,aW,aZ,bd,AF.cX,bR,bz,IntKind.same,bm,bk,cellsOf,ba,aB,bD,bh,bn,bu,aL,nk,b5,aH,aCz,aCA,aCy,aX,cW,bJ,AV.aV,aCB,Int.aU,bS,qz,b,a,c,bound,nA,afN,l,s,t,u]
  ·have:S=0:=aa
   subst this;simp [bN,b,a]
 rintro g f ⟨b,v⟩;rcases v with⟨rfl,a,rfl⟩ |⟨l,a,rfl⟩
 ·simp [cR,bj,bC,bQ,bN,bx,cV,bt,aT,dQ,cls,aw,aR,aW,aZ,bd,AF.cX,bR,bz,IntKind.same,bm,bk,cellsOf,ba,aB,bD,bh,bn,bu,aL,nk,b5,aH,aCz,aCA,aCy,aX,cW,bJ,AV.aV,aCB,Int.aU,bS,qz,ata,b,a,gY,fp,mE,F48]
 ·simp [cR,bj,bC,bQ,bN,bx,cV,bt,aT,dQ,cls,aw,aR,aW,aZ,bd,AF.cX,bR,bz,IntKind.same,bm,bk,cellsOf,ba,aB,bD,bh,bn,bu,aL,nk,b5,aH,aCz,aCA,aCy,aX,cW,bJ,AV.aV,aCB,Int.aU,bS,qz,ata,b,a,gY,fp,mE,F48,l]
theorem arx (k:eD E 48 F48) (k2:eD E 25 F25):aN E 25 kJ:=
 asy λA H aCL cs x hA hg hx K=>by
  obtain⟨v,e,hs⟩:=hx;rw [Xp hg e];simp only [eA,aCO,Nat.blt_eq]at K;obtain⟨N,va⟩:=K;have hy:dV x=x.flatten:=rfl;rw [hy];obtain⟨S,hS⟩: ∃S,S=x.flatten.length:=⟨_,rfl⟩;rw [<-hS]at N;rcases hs with⟨rfl,rfl⟩ |⟨b,o,p,L,r,el,rfl,vo,vq,hz,vc,vp,vf⟩
  ·obtain⟨⟨W,M⟩,O,P⟩:=avd k 0 aa H;have hq:W= .slice none 0 0 0/\M=H:=by
    rcases P with⟨_,Y,f⟩ |⟨h,_⟩
    ·exact⟨Y,f⟩
    ·omega
   obtain⟨rfl,rfl⟩:=hq;refine⟨.slice none 0 0 0,M,abf ?_,jh.refl _,λ_=>False,λ_ h=>h.elim,.inl ⟨rfl,rfl⟩⟩;rw [k2.C];refine vK ?_;show Ok (X E akN _ _) _;unfold akN;refine cL (λg h=>g.n=36/\g.get 0= .slice none 0 0 0/\h=M) (by simp [cR,bj,bC,bQ,bN,bx,cV,bt,aT,dQ,cls,aw,aR,aW,aZ,bd,AF.cX,bR,bz,IntKind.same,bm,bk,cellsOf,ba,aB,bD,bh,bn,bu,aL,nk,b5,aH,aCz,aCA,aCy,aX,cW,bJ,AV.aV,aCB,Int.aU,bS,qz,asU,F25,AF.sW,AK]) ?_;rintro g h ⟨a,d,rfl⟩;refine cL (λg f=>g.n=36/\g.get 0= .slice none 0 0 0/\g.get 3= .int .i64 0/\f=h) (by simp [cR,bj,bC,bQ,bN,bx,cV,bt,aT,dQ,cls,aw,aR,aW,aZ,bd,AF.cX,bR,bz,IntKind.same,bm,bk,cellsOf,ba,aB,bD,bh,bn,bu,aL,nk,b5,aH,aCz,aCA,aCy,aX,cW,bJ,AV.aV,aCB,Int.aU,bS,qz,as8,a,d]) ?_;rintro g f ⟨a,d,l,rfl⟩;refine cL (λg h=>g.n=36/\g.get 0= .slice none 0 0 0/\g.get 3= .int .i64 0/\h=f) ?_ ?_
   ·refine cL (λg h=>g.n=36/\g.get 0= .slice none 0 0 0/\g.get 3= .int .i64 0/\g.get 10= .int .i64 0/\g.get 11= .int .i64 0/\h=f) (by simp only [atA];simp [cR,bj,bC,bQ,bN,bx,cV,bt,aT,dQ,cls,aw,aR,aW,aZ,bd,AF.cX,bR,bz,IntKind.same,bm,bk,cellsOf,ba,aB,bD,bh,bn,bu,aL,nk,b5,aH,aCz,aCA,aCy,aX,cW,bJ,AV.aV,aCB,Int.aU,bS,qz,a,d,l]) ?_;rintro g h ⟨a,d,l,Q,R,rfl⟩;refine rX ?_;refine Es ?_;unfold ajq;refine cL (λF G=>F.n=36/\F.get 0= .slice none 0 0 0/\F.get 3= .int .i64 0/\F.get 12= .bool false/\G=h) (by simp only [aqn];simp [cR,bj,bC,bQ,bN,bx,cV,bt,aT,dQ,cls,aw,aR,aW,aZ,bd,AF.cX,bR,bz,IntKind.same,bm,bk,cellsOf,ba,aB,bD,bh,bn,bu,aL,nk,b5,aH,aCz,aCA,aCy,aX,cW,bJ,AV.aV,aCB,Int.aU,bS,qz,a,d,l,Q,R]) ?_;rintro F G ⟨a,d,l,vg,rfl⟩;refine GR (λ_ _=>False) ?_ (λ_ _ hf=>hf.elim);rw [bC];simp only [AF.KS,vg];rw [bQ];simp [a,d,l,bn]
   rintro g h ⟨a,d,l,rfl⟩;refine cL (λg f=>g.n=36/\g.get 0= .slice none 0 0 0/\g.get 6= .slice none 0 0 0/\f=h) ?_ ?_
   ·have vd:C E 48 [.slice none 0 0 0,.int .i64 0] h=some (.slice none 0 0 0,h):=O;simp only [ana];simp [cR,bj,bC,bQ,bN,bx,cV,bt,aT,dQ,cls,aw,aR,aW,aZ,bd,AF.cX,bR,bz,IntKind.same,bm,bk,cellsOf,ba,aB,bD,bh,bn,bu,aL,nk,b5,aH,aCz,aCA,aCy,aX,cW,bJ,AV.aV,aCB,Int.aU,bS,qz,a,d,l,vd]
   rintro g f ⟨a,d,t,rfl⟩;refine cL (λg h=>g.n=36/\g.get 6= .slice none 0 0 0/\h=f) ?_ ?_
   ·refine cL (λg h=>g.n=36/\g.get 6= .slice none 0 0 0/\g.get 26= .int .i64 0/\g.get 27= .int .i64 0/\h=f) (by simp only [amK];simp [cR,bj,bC,bQ,bN,bx,cV,bt,aT,dQ,cls,aw,aR,aW,aZ,bd,AF.cX,bR,bz,IntKind.same,bm,bk,cellsOf,ba,aB,bD,bh,bn,bu,aL,nk,b5,aH,aCz,aCA,aCy,aX,cW,bJ,AV.aV,aCB,Int.aU,bS,qz,a,d,t]) ?_;rintro g h ⟨a,t,T,U,rfl⟩;refine rX ?_;refine Es ?_;unfold ah2;refine cL (λF G=>F.n=36/\F.get 6= .slice none 0 0 0/\F.get 28= .bool false/\G=h) (by simp only [ahO];simp [cR,bj,bC,bQ,bN,bx,cV,bt,aT,dQ,cls,aw,aR,aW,aZ,bd,AF.cX,bR,bz,IntKind.same,bm,bk,cellsOf,ba,aB,bD,bh,bn,bu,aL,nk,b5,aH,aCz,aCA,aCy,aX,cW,bJ,AV.aV,aCB,Int.aU,bS,qz,a,t,T,U]) ?_;rintro F G ⟨a,t,vh,rfl⟩;refine GR (λ_ _=>False) ?_ (λ_ _ hf=>hf.elim);rw [bC];simp only [AF.KS,vh];rw [bQ];simp [a,t,bn]
   rintro g h ⟨a,t,rfl⟩;simp [cR,bj,bC,bQ,bN,bx,cV,bt,aT,dQ,cls,aw,aR,aW,aZ,bd,AF.cX,bR,bz,IntKind.same,bm,bk,cellsOf,ba,aB,bD,bh,bn,bu,aL,nk,b5,aH,aCz,aCA,aCy,aX,cW,bJ,AV.aV,aCB,Int.aU,bS,qz,amc,a,t,gY,fp,mE,F25]
  ·have hb:=hA b hz;have hO:asw A H x b o r:=⟨hz,⟨el.1,el.2,vc⟩,λj y hj=>by
    obtain⟨vj,Y,f⟩:=vf j y hj;refine⟨vj, ?_,f⟩;have l:(r.drop (o+j*1)).take 1=[vj]:=Y;rw [aCN]at l;have:((r.drop (o+j)).take 1)[0]? =some vj:=by rw [l];rfl
    rw [List.getElem?_take,if_pos ah,List.getElem?_drop]at this;simpa using this⟩
   have vk:Ok (C E 25 [.slice (some (b,o)) x.length p L] H) λq=> ∃u,jh H u/\Acc u H.next S S x.flatten q.1 q.2/\(0<S->H.next<q.2.next):=by
    rw [k2.C];refine vK ?_;show Ok (X E akN _ _) _;unfold akN;refine cL (λg h=>g.n=36/\g.get 0= .slice (some (b,o)) x.length p L/\h=H) (by simp [cR,bj,bC,bQ,bN,bx,cV,bt,aT,dQ,cls,aw,aR,aW,aZ,bd,AF.cX,bR,bz,IntKind.same,bm,bk,cellsOf,ba,aB,bD,bh,bn,bu,aL,nk,b5,aH,aCz,aCA,aCy,aX,cW,bJ,AV.aV,aCB,Int.aU,bS,qz,asU,F25,AF.sW,AK]) ?_;rintro g h ⟨a,d,rfl⟩;refine cL (λg f=>g.n=36/\g.get 0= .slice (some (b,o)) x.length p L/\g.get 3= .int .i64 0/\f=h) (by simp [cR,bj,bC,bQ,bN,bx,cV,bt,aT,dQ,cls,aw,aR,aW,aZ,bd,AF.cX,bR,bz,IntKind.same,bm,bk,cellsOf,ba,aB,bD,bh,bn,bu,aL,nk,b5,aH,aCz,aCA,aCy,aX,cW,bJ,AV.aV,aCB,Int.aU,bS,qz,as8,a,d]) ?_;rintro g f ⟨a,d,l,rfl⟩;refine cL (λg h=>g.n=36/\g.get 0= .slice (some (b,o)) x.length p L/\g.get 3= .int .i64 (S:Int)/\h=f) ?_ ?_
    ·refine cL (λg h=>g.n=36/\g.get 0= .slice (some (b,o)) x.length p L/\g.get 9= .slice (some (b,o)) x.length p L/\g.get 10= .int .i64 (x.length:Int)/\g.get 11= .int .i64 0/\g.get 3= .int .i64 0/\h=f) (by simp only [atA];simp [cR,bj,bC,bQ,bN,bx,cV,bt,aT,dQ,cls,aw,aR,aW,aZ,bd,AF.cX,bR,bz,IntKind.same,bm,bk,cellsOf,ba,aB,bD,bh,bn,bu,aL,nk,b5,aH,aCz,aCA,aCy,aX,cW,bJ,AV.aV,aCB,Int.aU,bS,qz,a,d,l]) ?_;rintro g h ⟨a,d,h9,Q,R,l,rfl⟩;refine rX ?_;refine(ajF hO (by rw [<-hS];exact N) va x [] g ab a d h9 Q R l).mono ?_;rintro⟨e,g2,l⟩ ⟨rfl,q1,q2,q3,rfl⟩;simp only at q1 q2 q3⊢;simp only [bn,decide_true,cond_true];exact⟨trivial,q1,q2,by rw [q3,hS],trivial⟩
    rintro g h ⟨a,d,l,rfl⟩;obtain⟨⟨W,M⟩,O,P⟩:=avd k S N h;have vl: ∃u,jh h u/\(∀c,A c->c≠h.next/\u.get c=h.get c)/\Acc u h.next S 0 [] W M/\(0<S->h.next<u.next):=by
     rcases P with⟨Y,rfl,f⟩ |⟨hp,rfl,rfl⟩
     ·have:M=h:=f;subst this;exact⟨M,jh.refl _,λc Z=>⟨by have:=hA c Z;omega,rfl⟩,⟨rfl,.inl ⟨Y,rfl,rfl⟩⟩,λh=>aa⟩
     ·exact⟨h.new (.cells (rep zS S) false (some (23,true))),jh.new _ _,λc Z=>⟨by have:=hA c Z;omega,AH.eg _ (by have:=hA c Z;omega)⟩,⟨rfl,.inr ⟨hp,rfl,ab,rfl,λ_ _=>rfl⟩⟩,λ_=>ab⟩
    obtain⟨u,w,vm,z,V⟩:=vl;refine cL (λg G=>g.n=36/\g.get 0= .slice (some (b,o)) x.length p L/\g.get 6=W/\G=M) (by simp only [ana];simp [cR,bj,bC,bQ,bN,bx,cV,bt,aT,dQ,cls,aw,aR,aW,aZ,bd,AF.cX,bR,bz,IntKind.same,bm,bk,cellsOf,ba,aB,bD,bh,bn,bu,aL,nk,b5,aH,aCz,aCA,aCy,aX,cW,bJ,AV.aV,aCB,Int.aU,bS,qz,a,d,l,O]) ?_;rintro g G ⟨a,d,t,rfl⟩;refine cL (λg s=>g.n=36/\ ∃v',g.get 6=v'/\Acc u h.next S S x.flatten v' s) ?_ ?_
    ·refine cL (λg s=>g.n=36/\g.get 25= .slice (some (b,o)) x.length p L/\g.get 26= .int .i64 (x.length:Int)/\g.get 27= .int .i64 0/\g.get 6=W/\s=G) (by simp only [amK];simp [cR,bj,bC,bQ,bN,bx,cV,bt,aT,dQ,cls,aw,aR,aW,aZ,bd,AF.cX,bR,bz,IntKind.same,bm,bk,cellsOf,ba,aB,bD,bh,bn,bu,aL,nk,b5,aH,aCz,aCA,aCy,aX,cW,bJ,AV.aV,aCB,Int.aU,bS,qz,a,d,t]) ?_;rintro g s ⟨a,vn,T,U,t,rfl⟩;refine rX ?_;refine(ag7 vm hO hS va x [] g s W ab (by simpa using z) a vn T U t).mono ?_;rintro⟨e,g2,l⟩ ⟨rfl,q1,v',q2,q3⟩;simp only at q1 q2 q3⊢;simp only [bn,decide_true,cond_true];exact⟨trivial,q1,v',q2,q3⟩
    rintro g s ⟨a,v',t,D⟩;have ve:0<S->h.next<s.next:=λhp=>by
     rcases D.2 with⟨Y,_⟩ |⟨_,_,_,h4,_⟩
     ·omega
     ·rw [h4];exact V hp
    simp [cR,bj,bC,bQ,bN,bx,cV,bt,aT,dQ,cls,aw,aR,aW,aZ,bd,AF.cX,bR,bz,IntKind.same,bm,bk,cellsOf,ba,aB,bD,bh,bn,bu,aL,nk,b5,aH,aCz,aCA,aCy,aX,cW,bJ,AV.aV,aCB,Int.aU,bS,qz,amc,a,t,gY,fp,mE,F25];exact⟨u,w,D,ve⟩
   obtain⟨⟨v,H'⟩,hr,u,w,z,V⟩:=vk;rcases z with⟨hl,⟨vr,rfl,rfl⟩ |⟨hp,rfl,hB,a,I⟩⟩
   ·exact⟨_,H',hr,w,λ_=>False,λ_ h=>h.elim,.inl ⟨aCM aa,rfl⟩⟩
   ·refine⟨_,H',hr,⟨by rw [a];exact w.1,λi hi=>by rw [I i aa];exact w.2 i hi⟩,λc=>c=H.next,λc Z=>by subst Z;exact⟨V hp,.inr (Nat.le_refl _)⟩,.inr ⟨H.next,0,S,1,_,(false,some (23,true)),by rw [hl],aa,.inr rfl,rfl,hB, ?_, ?_⟩⟩
    ·rw [aCK,aCJ,aCN];omega
    ·intro j y hj;have vt:j<x.flatten.length:=(List.getElem?_eq_some_iff.1 hj).1;show(((x.flatten.map AV.str++rep zS (S-S)).drop (0+j*1)).take 1)=[.str y];rw [Nat.sub_self,show rep zS 0=[]from rfl,aCz,aCN,Nat.zero_add];apply List.ext_getElem?;intro i;rw [List.getElem?_take];cases i with
     |zero=>rw [if_pos ah,List.getElem?_drop,List.getElem?_map,Nat.add_zero,hj];rfl
     |succ i=>rw [if_neg aa];rfl
end
end Ls.Lib
end Go.Proofs.YtccmgnimoheekaaGreatDoor
namespace Go.Proofs
open Go.Shelf
def Tryz.ahU:Go.Shelf.Ren:=⟨λ|171=>167 |243=>207 |246=>228 |283=>244 |284=>245 |285=>246 |286=>247 |129=>263 |317=>262 |318=>264 |319=>265 |320=>266 |337=>275 |338=>276 |n=>n,λ|3=>3 |9=>9 |2=>2 |4=>4 |171=>250 |0=>0 |53=>230 |37=>118 |5=>5 |173=>253 |212=>273 |51=>208 |20=>20 |213=>274 |46=>175 |232=>295 |233=>296 |n=>n,λ|17=>3 |18=>6 |19=>7 |n=>n⟩
def Tryz.asY:Go.Proofs.LaysM.n171 Tryz.prog Tryz.ahU:= {
 mixed:=af
 f129:=Tryz.func263.trans (congrArg some af)
 f171:=Tryz.func167.trans (congrArg some af)
 f243:=Tryz.func207.trans (congrArg some af)
 f246:=Tryz.func228.trans (congrArg some af)
 f283:=Tryz.func244.trans (congrArg some af)
 f284:=Tryz.func245.trans (congrArg some af)
 f285:=Tryz.func246.trans (congrArg some af)
 f286:=Tryz.func247.trans (congrArg some af)
 f317:=Tryz.func262.trans (congrArg some af)
 f318:=Tryz.func264.trans (congrArg some af)
 f319:=Tryz.func265.trans (congrArg some af)
 f320:=Tryz.func266.trans (congrArg some af)
 f337:=Tryz.func275.trans (congrArg some af)
 f338:=Tryz.func276.trans (congrArg some af)
 t0:=Tryz.underlying0
 a0:=Tryz.isAgg0
 z0:=Tryz.sizeOf0
 v0:=Tryz.zeroValue0
 t2:=Tryz.underlying2
 a2:=Tryz.isAgg2
 z2:=Tryz.sizeOf2
 v2:=Tryz.zeroValue2
 t3:=Tryz.underlying3
 a3:=Tryz.isAgg3
 z3:=Tryz.sizeOf3
 v3:=Tryz.zeroValue3
 t4:=Tryz.underlying4
 a4:=Tryz.isAgg4
 z4:=Tryz.sizeOf4
 v4:=Tryz.zeroValue4
 t5:=Tryz.underlying5
 a5:=Tryz.isAgg5
 z5:=Tryz.sizeOf5
 v5:=Tryz.zeroValue5
 t9:=Tryz.underlying9
 a9:=Tryz.isAgg9
 z9:=Tryz.sizeOf9
 v9:=Tryz.zeroValue9
 t20:=Tryz.underlying20
 a20:=Tryz.isAgg20
 z20:=Tryz.sizeOf20
 v20:=Tryz.zeroValue20
 t37:=Tryz.underlying118
 a37:=Tryz.isAgg118
 z37:=Tryz.sizeOf118
 v37:=Tryz.zeroValue118
 t46:=Tryz.underlying175
 a46:=Tryz.isAgg175
 z46:=Tryz.sizeOf175
 v46:=Tryz.zeroValue175
 t51:=Tryz.underlying208
 a51:=Tryz.isAgg208
 z51:=Tryz.sizeOf208
 v51:=Tryz.zeroValue208
 t53:=Tryz.underlying230
 a53:=Tryz.isAgg230
 z53:=Tryz.sizeOf230
 v53:=Tryz.zeroValue230
 t171:=Tryz.underlying250
 a171:=Tryz.isAgg250
 z171:=Tryz.sizeOf250
 v171:=Tryz.zeroValue250
 t173:=Tryz.underlying253
 a173:=Tryz.isAgg253
 z173:=Tryz.sizeOf253
 v173:=Tryz.zeroValue253
 t212:=Tryz.underlying273
 a212:=Tryz.isAgg273
 z212:=Tryz.sizeOf273
 v212:=Tryz.zeroValue273
 t213:=Tryz.underlying274
 a213:=Tryz.isAgg274
 z213:=Tryz.sizeOf274
 t232:=Tryz.underlying295
 a232:=Tryz.isAgg295
 z232:=Tryz.sizeOf295
 v232:=Tryz.zeroValue295
 t233:=Tryz.underlying296
 a233:=Tryz.isAgg296
 z233:=Tryz.sizeOf296
 v233:=Tryz.zeroValue296
 g17:=af
 g18:=af
 g19:=af
 i0:=af
 i2:=af
 i3:=af
 i4:=af
 i5:=af
 i9:=af
 i20:=af
 i37:=af
 i46:=af
 i51:=af
 i53:=af
 i171:=af
 i173:=af
 i212:=af
 i232:=af
 i233:=af
 m17:=af
 m18:=af
 m19:=by kernel_rfl}
end Go.Proofs
namespace Go.Proofs.YtccmgnimoheekaaGreatDoor
namespace dC
open Go
set_option maxRecDepth 100000
noncomputable def SB:Fu:=akS Tryz.prog (List.range Tryz.prog.types.size)
def Gy:yA Tryz.prog SB:=akY _ _
def mixed:Tryz.prog.follows .mixedOrders=true:=af
def awM:Nat->Option (List AV->AH->Option (AV×AH)):=λg=>cond (aCD g 159) (some pb) (cond (aCD g 227) (some Y5) (cond (aCD g 248) (some (Yw 5)) none))
def awq: ∀g p,awM g=some p->ap8 Tryz.prog SB g p:=by
 intro g p h;simp only [awM]at h;cases h1:aCD g 159 with
 |true=>
  rw [h1,cond_true]at h;cases h;have e:=aCH h1;subst e;exact agp Tryz.func159 af af af af
 |false=>
  rw [h1,cond_false]at h;cases h2:aCD g 227 with
  |true=>
   rw [h2,cond_true]at h;cases h;have e:=aCH h2;subst e;exact are Tryz.func227 af af af af
  |false=>
   rw [h2,cond_false]at h;cases h3:aCD g 248 with
   |true=>
    rw [h3,cond_true]at h;cases h;have e:=aCH h3;subst e;exact ah4 Tryz.func248 af af af af (t:=118) af af
   |false=>rw [h3,cond_false]at h;cases h
noncomputable def E0:Env:=att Tryz.prog SB (λ_ _=>none) awM
def aj6:EW Tryz.prog SB E0:=atH awq (λ_ _ _ h=>by cases h)
end dC
namespace Ls.Lib
open dC
open Ls
open Go Go.RowKit Go.Sort
def ad7: ∀u,u≠0->Lib.decDigits u=ue u:=λu=>by
 induction u using Nat.strongRecOn with
 |ind u ih=>
  intro h;rw [Lib.decDigits,ue,bG.qq h,List.reverse_cons,List.map_append];split
  ·rename_i hu;have h0:u/10=0:=aa
   rw [h0];have:u%10=u:=aa
   rw [this];show [UInt8.ofNat (48+u)]=[]++ [chD (u:Int)];rw [chD];congr 2
  ·rename_i hu;rw [ih (u/10) aa aa];rfl
def asO n:Lib.itoa n=bb n:=by
 unfold Lib.itoa bb;by_cases h0:n=0
 ·subst h0;rw [if_neg ah];show Lib.decDigits 0=_;rw [Lib.decDigits];rfl
 ·rw [av h0,cond_false];by_cases h:n<0
  ·rw [if_pos h,ax h,cond_true,ad7 _ aa];rfl
  ·rw [if_neg h,az h,cond_false,ad7 _ aa];congr 1;omega
def awb:Lib.pow10Tab=aud:=ah
def ar7 (hG : Tryz.prog.globalNamed "internal/strconv.uint64pow10" = some Fy) (aBB : Enters Tryz.prog 167) n (h0 : -9223372036854775808 ≤ n) (h1 : n ≤ 9223372036854775807) : Yq Tryz.prog SB 167 [.int .i64 n] (.str (bb n)) := by
 refine⟨aBB,λρ H w aBo aBp hs m r=> ?_⟩;obtain⟨l,rfl⟩: ∃l,aBo=List.toArray l:=⟨aBo.toList,ab⟩;have hl:l=[Value.int .i64 n]:=by
  rcases l with _ |⟨a,_ |⟨b,l⟩⟩
  ·exact aBp.elim
  ·have h2:a= .int .i64 n:=aBp.1;rw [h2]
  ·exact aBp.2.elim
 subst hl;have aBl : Lib.TabIs Tryz.prog w "internal/strconv.uint64pow10" .u64 Lib.pow10Tab := by
  unfold Lib.TabIs World.var?;rw [hG,awb];have hv:=hs.lay.1;show(match w.heap[Fy]? with |some (.cells cs _ _)=>some cs |_=>none)=_;cases hb:w.heap[Fy]? with
  |none=>rw [hb]at hv;exact hv.elim
  |some o=>
   rw [hb]at hv;cases o with
   |cells cs e fr=>exact congrArg some hv
   |_=>exact hv.elim
 have hc:CallsIn (Fr r) m Tryz.prog 167 #[.int .i64 n] w λe w'=>e= .returned (.string ⟨(Lib.itoa n).toArray⟩)/\ ∃k os,w'=grow (w.drewN k) os:=
  callsIn_wide.2 (Any.strconv_Itoa Tryz.asY n h0 h1 w aBl)
 refine CallsIn.mono hc ?_;rintro e w' ⟨rfl,k,os,rfl⟩;have hold: ∀b,b<w.heap.size->(grow (w.drewN k) os).heap[b]? =w.heap[b]? :=λb hb=>by
  show(w.heap++os)[b]? =_;rw [Array.getElem?_append_left hb]
 have hsz:w.heap.size<=(grow (w.drewN k) os).heap.size:=by
  show w.heap.size<=(w.heap++os).size;simp
 refine⟨_,ρ,rfl, ?_,⟨⟨λi ob hi=> ?_,hs.inj,hs.PU⟩,by rw [hold _ hs.lay.1.lt];exact hs.lay.1,hs.lay.2⟩,⟨hsz,.refl _,Nat.le_refl _,λ_ _=>rfl,λb hb _=>hold b hb,λ_ _ h=>h,λ_ _ _ h=>h,λ_ ob h=> .inl ⟨ob,h⟩,λ_ _ h=>h,rfl,rfl,rfl,λi c b s hi hr=>⟨hold b (by obtain⟨b',s',o,k1,k2,_⟩:=hs.obj i _ hi;rw [hr]at k1;cases k1;exact gl k2),hi,hr⟩⟩⟩
 ·rw [asO];exact rfl
 ·obtain⟨b,s,o,k1,k2,k3⟩:=hs.obj i ob hi;exact⟨b,s,o,k1,by rw [hold b (gl k2)];exact k2,k3⟩
end Ls.Lib
namespace dC
open Go
set_option maxRecDepth 100000
def ao2:List Hp:=[⟨51,310,[(.str [49]),(.str [47])],(.bool false)⟩,⟨51,305,[(.str [48]),(.str [47])],(.bool false)⟩,⟨51,1030,[(.str [45,52]),(.str [47])],(.bool false)⟩,⟨51,1015,[(.str [45,49]),(.str [47])],(.bool false)⟩,⟨51,315,[(.str [50]),(.str [47])],(.bool false)⟩,⟨51,1020,[(.str [45,50]),(.str [47])],(.bool false)⟩]
def anD:ao2.all (gg E0 4000)=true:=af
def apv:List Hp:=[⟨51,325,[(.str [52]),(.str [47])],(.bool false)⟩,⟨51,1035,[(.str [45,53]),(.str [47])],(.bool false)⟩,⟨51,1025,[(.str [45,51]),(.str [47])],(.bool false)⟩]
def anb:apv.all (gg E0 4000)=true:=af
def apK:List Hp:=[⟨57,55,[(.str [52])],(.bool false)⟩,⟨57,52,[(.str [49])],(.bool false)⟩,⟨57,193,[(.str [45,49])],(.bool true)⟩,⟨57,194,[(.str [45,50])],(.bool true)⟩,⟨57,51,[(.str [48])],(.bool false)⟩]
def ame:apK.all (gg E0 4000)=true:=af
def ao3:List Hp:=[⟨70,51,[(.str [48])],(.str [48])⟩,⟨70,52,[(.str [49])],(.str [45,49])⟩,⟨70,193,[(.str [45,49])],(.str [49])⟩,⟨70,55,[(.str [52])],(.str [45,52])⟩,⟨70,194,[(.str [45,50])],(.str [50])⟩,⟨70,56,[(.str [53])],(.str [45,53])⟩]
def anN:ao3.all (gg E0 4000)=true:=af
def aqy:List Hp:=[⟨70,54,[(.str [51])],(.str [45,51])⟩]
def ant:aqy.all (gg E0 4000)=true:=af
def apa:List Hp:=[⟨77,52,[(.str [49])],(.int .i64 0)⟩,⟨77,51,[(.str [48])],(.int .i64 0)⟩,⟨77,193,[(.str [45,49])],(.int .i64 0)⟩,⟨77,194,[(.str [45,50])],(.int .i64 0)⟩,⟨77,55,[(.str [52])],(.int .i64 0)⟩,⟨77,196,[(.str [45,52])],(.int .i64 0)⟩]
def anf:apa.all (gg E0 4000)=true:=af
def aqr:List Hp:=[⟨77,53,[(.str [50])],(.int .i64 0)⟩,⟨77,56,[(.str [53])],(.int .i64 0)⟩,⟨77,197,[(.str [45,53])],(.int .i64 0)⟩,⟨77,54,[(.str [51])],(.int .i64 0)⟩,⟨77,195,[(.str [45,51])],(.int .i64 0)⟩]
def aop:aqr.all (gg E0 4000)=true:=af
def apW:List Hp:=[⟨78,52,[(.str [49])],(.int .i64 1)⟩,⟨78,51,[(.str [48])],(.int .i64 1)⟩,⟨78,193,[(.str [45,49])],(.int .i64 1)⟩,⟨78,194,[(.str [45,50])],(.int .i64 1)⟩,⟨78,55,[(.str [52])],(.int .i64 1)⟩,⟨78,56,[(.str [53])],(.int .i64 1)⟩]
def ami:apW.all (gg E0 4000)=true:=af
def ap7:List Hp:=[⟨78,54,[(.str [51])],(.int .i64 1)⟩]
def am5:ap7.all (gg E0 4000)=true:=af
def ayf:Tbl:=(.node (.node (.node .leaf none (.node (.node .leaf none (.node .leaf (some (ao2++apv)) .leaf)) none .leaf)) none (.node (.node .leaf none (.node .leaf none (.node .leaf (some (apK)) .leaf))) none (.node .leaf none (.node (.node (.node .leaf (some (apa++aqr)) .leaf) none .leaf) none .leaf)))) none (.node .leaf none (.node .leaf none (.node (.node (.node (.node .leaf (some (ao3++aqy)) .leaf) none .leaf) none .leaf) none (.node (.node (.node .leaf (some (apW++ap7)) .leaf) none .leaf) none .leaf)))))
def aw2:Ou (gg E0 4000) ayf=true:=by
 simp only [ayf,Ou,aCQ,anD,anb,ame,anN,ant,anf,aop,ami,am5,aCR,aCP]
noncomputable def E1:Env:=E0.more ayf
def azt:EW Tryz.prog SB E1:=R5 Gy mixed aj6 aw2
def aqv:List Hp:=[⟨26,52,[(.str [49])],(.int .i64 0)⟩,⟨26,51,[(.str [48])],(.int .i64 0)⟩,⟨26,196,[(.str [45,52])],(.int .i64 0)⟩,⟨26,193,[(.str [45,49])],(.int .i64 0)⟩,⟨26,53,[(.str [50])],(.int .i64 0)⟩,⟨26,194,[(.str [45,50])],(.int .i64 0)⟩]
def anY:aqv.all (gg E1 4000)=true:=af
def apx:List Hp:=[⟨26,55,[(.str [52])],(.int .i64 0)⟩,⟨26,197,[(.str [45,53])],(.int .i64 0)⟩,⟨26,195,[(.str [45,51])],(.int .i64 0)⟩]
def am3:apx.all (gg E1 4000)=true:=af
def apR:List Hp:=[⟨43,52,[(.str [49])],(.int .i64 0)⟩,⟨43,51,[(.str [48])],(.int .i64 0)⟩,⟨43,193,[(.str [45,49])],(.int .i64 0)⟩,⟨43,194,[(.str [45,50])],(.int .i64 0)⟩,⟨43,55,[(.str [52])],(.int .i64 0)⟩,⟨43,56,[(.str [53])],(.int .i64 0)⟩]
def amG:apR.all (gg E1 4000)=true:=af
def apM:List Hp:=[⟨43,54,[(.str [51])],(.int .i64 0)⟩]
def am4:apM.all (gg E1 4000)=true:=af
def ao5:List Hp:=[⟨84,1173,[(.str [45,52]),(.str [45,49])],(.tuple [(.str [49]),(.int .i64 0)])⟩,⟨84,453,[(.str [49]),(.str [45,49])],(.tuple [(.str [49]),(.int .i64 0)])⟩,⟨84,458,[(.str [50]),(.str [45,49])],(.tuple [(.str [49]),(.int .i64 0)])⟩,⟨84,1017,[(.str [45,49]),(.str [49])],(.tuple [(.str [49]),(.int .i64 0)])⟩,⟨84,332,[(.str [53]),(.str [49])],(.tuple [(.str [49]),(.int .i64 0)])⟩,⟨84,307,[(.str [48]),(.str [49])],(.tuple [(.str [49]),(.int .i64 0)])⟩]
def amN:ao5.all (gg E1 4000)=true:=af
def aqc:List Hp:=[⟨84,1158,[(.str [45,49]),(.str [45,49])],(.tuple [(.str [49]),(.int .i64 0)])⟩,⟨84,312,[(.str [49]),(.str [49])],(.tuple [(.str [49]),(.int .i64 0)])⟩,⟨84,1032,[(.str [45,52]),(.str [49])],(.tuple [(.str [49]),(.int .i64 0)])⟩,⟨84,317,[(.str [50]),(.str [49])],(.tuple [(.str [49]),(.int .i64 0)])⟩]
def anT:aqc.all (gg E1 4000)=true:=af
def ap0:List Hp:=[⟨231,454,[(.str [49]),(.str [45,50])],(.tuple [(.str [45,49]),(.int .i64 0)])⟩,⟨231,327,[(.str [52]),(.str [49])],(.tuple [(.str [53]),(.int .i64 0)])⟩,⟨231,1017,[(.str [45,49]),(.str [49])],(.tuple [(.str [48]),(.int .i64 0)])⟩,⟨231,1040,[(.str [45,53]),(.str [52])],(.tuple [(.str [45,49]),(.int .i64 0)])⟩,⟨231,1030,[(.str [45,51]),(.str [52])],(.tuple [(.str [49]),(.int .i64 0)])⟩,⟨231,471,[(.str [52]),(.str [45,52])],(.tuple [(.str [48]),(.int .i64 0)])⟩]
def anI:ap0.all (gg E1 4000)=true:=af
def apt:List Hp:=[⟨231,312,[(.str [49]),(.str [49])],(.tuple [(.str [50]),(.int .i64 0)])⟩,⟨231,453,[(.str [49]),(.str [45,49])],(.tuple [(.str [48]),(.int .i64 0)])⟩,⟨231,459,[(.str [50]),(.str [45,50])],(.tuple [(.str [48]),(.int .i64 0)])⟩]
def aot:apt.all (gg E1 4000)=true:=af
def ap2:List Hp:=[⟨232,307,[(.str [48]),(.str [49])],(.tuple [(.str [45,49]),(.int .i64 0)])⟩]
def ane:ap2.all (gg E1 4000)=true:=af
def ajO:List Hp:=[⟨250,1032,[(.str [45,52]),(.str [49])],(.tuple [(.str [45,52]),(.int .i64 0)])⟩,⟨250,453,[(.str [49]),(.str [45,49])],(.tuple [(.str [45,49]),(.int .i64 0)])⟩,⟨250,312,[(.str [49]),(.str [49])],(.tuple [(.str [49]),(.int .i64 0)])⟩,⟨250,317,[(.str [50]),(.str [49])],(.tuple [(.str [50]),(.int .i64 0)])⟩,⟨250,1022,[(.str [45,50]),(.str [49])],(.tuple [(.str [45,50]),(.int .i64 0)])⟩,⟨250,327,[(.str [52]),(.str [49])],(.tuple [(.str [52]),(.int .i64 0)])⟩]
def akO:ajO.all (gg E1 4000)=true:=af
def alb:List Hp:=[⟨250,1017,[(.str [45,49]),(.str [49])],(.tuple [(.str [45,49]),(.int .i64 0)])⟩,⟨250,1037,[(.str [45,53]),(.str [49])],(.tuple [(.str [45,53]),(.int .i64 0)])⟩,⟨250,1027,[(.str [45,51]),(.str [49])],(.tuple [(.str [45,51]),(.int .i64 0)])⟩,⟨250,1020,[(.str [45,49]),(.str [52])],(.tuple [(.str [45,52]),(.int .i64 0)])⟩]
def alu:alb.all (gg E1 4000)=true:=af
def ajM:List Hp:=[⟨254,1016,[(.str [45,49]),(.str [48])],(.tuple [(.int .i64 (-1)),(.int .i64 0)])⟩,⟨254,311,[(.str [49]),(.str [48])],(.tuple [(.int .i64 1),(.int .i64 0)])⟩]
def alB:ajM.all (gg E1 4000)=true:=af
def akj:List Hp:=[⟨255,1173,[(.str [45,52]),(.str [45,49])],(.tuple [(.str [52]),(.str [48]),(.int .i64 0)])⟩,⟨255,1158,[(.str [45,49]),(.str [45,49])],(.tuple [(.str [49]),(.str [48]),(.int .i64 0)])⟩,⟨255,453,[(.str [49]),(.str [45,49])],(.tuple [(.str [45,49]),(.str [48]),(.int .i64 0)])⟩,⟨255,458,[(.str [50]),(.str [45,49])],(.tuple [(.str [45,50]),(.str [48]),(.int .i64 0)])⟩,⟨255,1017,[(.str [45,49]),(.str [49])],(.tuple [(.str [45,49]),(.str [48]),(.int .i64 0)])⟩,⟨255,312,[(.str [49]),(.str [49])],(.tuple [(.str [49]),(.str [48]),(.int .i64 0)])⟩]
def al5:akj.all (gg E1 4000)=true:=af
def alq:List Hp:=[⟨255,332,[(.str [53]),(.str [49])],(.tuple [(.str [53]),(.str [48]),(.int .i64 0)])⟩,⟨255,307,[(.str [48]),(.str [49])],(.tuple [(.str [48]),(.str [48]),(.int .i64 0)])⟩,⟨255,1032,[(.str [45,52]),(.str [49])],(.tuple [(.str [45,52]),(.str [48]),(.int .i64 0)])⟩,⟨255,317,[(.str [50]),(.str [49])],(.tuple [(.str [50]),(.str [48]),(.int .i64 0)])⟩]
def akm:alq.all (gg E1 4000)=true:=af
def ay6:Tbl:=(.node (.node (.node (.node (.node (.node (.node (.node (.node .leaf (some (akj++alq)) .leaf) none .leaf) none .leaf) none .leaf) none .leaf) none (.node (.node .leaf none (.node .leaf none (.node .leaf (some (ap0++apt)) .leaf))) none .leaf)) none (.node .leaf none (.node (.node .leaf (some (apR++apM)) .leaf) none .leaf))) none .leaf) none (.node (.node (.node .leaf none (.node (.node .leaf none (.node .leaf none (.node .leaf (some (ap2)) .leaf))) none .leaf)) none (.node (.node .leaf none (.node (.node .leaf (some (ao5++aqc)) .leaf) none .leaf)) none .leaf)) none (.node (.node .leaf none (.node .leaf (some (aqv++apx)) (.node .leaf none (.node .leaf none (.node .leaf (some (ajO++alb)) .leaf))))) none (.node .leaf none (.node .leaf none (.node .leaf none (.node .leaf none (.node .leaf (some (ajM)) .leaf))))))))
def aw6:Ou (gg E1 4000) ay6=true:=by
 simp only [ay6,Ou,aCQ,anY,am3,amG,am4,amN,anT,anI,aot,ane,akO,alu,alB,al5,akm,aCR,aCP]
noncomputable def E2:Env:=E1.more ay6
def azx:EW Tryz.prog SB E2:=R5 Gy mixed azt aw6
def apd:List Hp:=[⟨74,52,[(.str [49])],(.tuple [(.str [49]),(.int .i64 0)])⟩,⟨74,51,[(.str [48])],(.tuple [(.str [48]),(.int .i64 0)])⟩]
def amy:apd.all (gg E2 4000)=true:=af
def aqs:List Hp:=[⟨75,52,[(.str [49])],(.tuple [(.str [49]),(.int .i64 0)])⟩,⟨75,51,[(.str [48])],(.tuple [(.str [49]),(.int .i64 0)])⟩]
def aor:aqs.all (gg E2 4000)=true:=af
def aqe:List Hp:=[⟨211,1173,[(.str [45,52]),(.str [45,49])],(.tuple [(.agg [(.str [45,52]),(.str [49]),(.str [45,49]),(.str [49])]),(.int .i64 0)])⟩,⟨211,453,[(.str [49]),(.str [45,49])],(.tuple [(.agg [(.str [49]),(.str [49]),(.str [45,49]),(.str [49])]),(.int .i64 0)])⟩,⟨211,458,[(.str [50]),(.str [45,49])],(.tuple [(.agg [(.str [50]),(.str [49]),(.str [45,49]),(.str [49])]),(.int .i64 0)])⟩,⟨211,454,[(.str [49]),(.str [45,50])],(.tuple [(.agg [(.str [49]),(.str [49]),(.str [45,50]),(.str [49])]),(.int .i64 0)])⟩,⟨211,327,[(.str [52]),(.str [49])],(.tuple [(.agg [(.str [52]),(.str [49]),(.str [49]),(.str [49])]),(.int .i64 0)])⟩,⟨211,1017,[(.str [45,49]),(.str [49])],(.tuple [(.agg [(.str [45,49]),(.str [49]),(.str [49]),(.str [49])]),(.int .i64 0)])⟩]
def amm:aqe.all (gg E2 4000)=true:=af
def aql:List Hp:=[⟨211,1158,[(.str [45,49]),(.str [45,49])],(.tuple [(.agg [(.str [45,49]),(.str [49]),(.str [45,49]),(.str [49])]),(.int .i64 0)])⟩,⟨211,1040,[(.str [45,53]),(.str [52])],(.tuple [(.agg [(.str [45,53]),(.str [49]),(.str [52]),(.str [49])]),(.int .i64 0)])⟩,⟨211,1030,[(.str [45,51]),(.str [52])],(.tuple [(.agg [(.str [45,51]),(.str [49]),(.str [52]),(.str [49])]),(.int .i64 0)])⟩,⟨211,1020,[(.str [45,49]),(.str [52])],(.tuple [(.agg [(.str [45,49]),(.str [49]),(.str [52]),(.str [49])]),(.int .i64 0)])⟩,⟨211,471,[(.str [52]),(.str [45,52])],(.tuple [(.agg [(.str [52]),(.str [49]),(.str [45,52]),(.str [49])]),(.int .i64 0)])⟩,⟨211,312,[(.str [49]),(.str [49])],(.tuple [(.agg [(.str [49]),(.str [49]),(.str [49]),(.str [49])]),(.int .i64 0)])⟩]
def aoE:aql.all (gg E2 4000)=true:=af
def aqw:List Hp:=[⟨211,459,[(.str [50]),(.str [45,50])],(.tuple [(.agg [(.str [50]),(.str [49]),(.str [45,50]),(.str [49])]),(.int .i64 0)])⟩]
def an1:aqw.all (gg E2 4000)=true:=af
def aoN:List Hp:=[⟨234,26253,[(.str [45,52]),(.str [49]),(.str [49]),(.str [45,49])],(.tuple [(.str [45,52]),(.str [45,49]),(.int .i64 0)])⟩,⟨234,8253,[(.str [49]),(.str [49]),(.str [49]),(.str [45,49])],(.tuple [(.str [49]),(.str [45,49]),(.int .i64 0)])⟩,⟨234,8378,[(.str [50]),(.str [49]),(.str [49]),(.str [45,49])],(.tuple [(.str [50]),(.str [45,49]),(.int .i64 0)])⟩,⟨234,8822,[(.str [49]),(.str [49]),(.str [45,50]),(.str [49])],(.tuple [(.str [49]),(.str [45,50]),(.int .i64 0)])⟩,⟨234,8487,[(.str [52]),(.str [49]),(.str [49]),(.str [49])],(.tuple [(.str [52]),(.str [49]),(.int .i64 0)])⟩,⟨234,25737,[(.str [45,49]),(.str [49]),(.str [49]),(.str [49])],(.tuple [(.str [45,49]),(.str [49]),(.int .i64 0)])⟩]
def anR:aoN.all (gg E2 4000)=true:=af
def aoM:List Hp:=[⟨234,25878,[(.str [45,49]),(.str [49]),(.str [49]),(.str [45,49])],(.tuple [(.str [45,49]),(.str [45,49]),(.int .i64 0)])⟩,⟨234,26252,[(.str [45,53]),(.str [49]),(.str [52]),(.str [49])],(.tuple [(.str [45,53]),(.str [52]),(.int .i64 0)])⟩,⟨234,26002,[(.str [45,51]),(.str [49]),(.str [52]),(.str [49])],(.tuple [(.str [45,51]),(.str [52]),(.int .i64 0)])⟩,⟨234,25812,[(.str [45,49]),(.str [52]),(.str [49]),(.str [49])],(.tuple [(.str [45,52]),(.str [49]),(.int .i64 0)])⟩,⟨234,9207,[(.str [52]),(.str [49]),(.str [45,52]),(.str [49])],(.tuple [(.str [52]),(.str [45,52]),(.int .i64 0)])⟩,⟨234,8112,[(.str [49]),(.str [49]),(.str [49]),(.str [49])],(.tuple [(.str [49]),(.str [49]),(.int .i64 0)])⟩]
def aoy:aoM.all (gg E2 4000)=true:=af
def aqi:List Hp:=[⟨234,8817,[(.str [49]),(.str [49]),(.str [45,49]),(.str [49])],(.tuple [(.str [49]),(.str [45,49]),(.int .i64 0)])⟩,⟨234,8947,[(.str [50]),(.str [49]),(.str [45,50]),(.str [49])],(.tuple [(.str [50]),(.str [45,50]),(.int .i64 0)])⟩]
def amI:aqi.all (gg E2 4000)=true:=af
def apw:List Hp:=[⟨236,193,[(.str [45,49])],(.tuple [(.int .i64 (-1)),(.int .i64 0)])⟩,⟨236,52,[(.str [49])],(.tuple [(.int .i64 1),(.int .i64 0)])⟩]
def aog:apw.all (gg E2 4000)=true:=af
def alG:List Hp:=[⟨237,52,[(.str [49])],(.tuple [(.str [45,49]),(.int .i64 0)])⟩]
def ak6:alG.all (gg E2 4000)=true:=af
def ajD:List Hp:=[⟨238,1173,[(.str [45,52]),(.str [45,49])],(.tuple [(.str [52]),(.int .i64 0)])⟩,⟨238,1158,[(.str [45,49]),(.str [45,49])],(.tuple [(.str [49]),(.int .i64 0)])⟩,⟨238,453,[(.str [49]),(.str [45,49])],(.tuple [(.str [45,49]),(.int .i64 0)])⟩,⟨238,458,[(.str [50]),(.str [45,49])],(.tuple [(.str [45,50]),(.int .i64 0)])⟩,⟨238,1017,[(.str [45,49]),(.str [49])],(.tuple [(.str [45,49]),(.int .i64 0)])⟩,⟨238,312,[(.str [49]),(.str [49])],(.tuple [(.str [49]),(.int .i64 0)])⟩]
def ajL:ajD.all (gg E2 4000)=true:=af
def alY:List Hp:=[⟨238,332,[(.str [53]),(.str [49])],(.tuple [(.str [53]),(.int .i64 0)])⟩,⟨238,307,[(.str [48]),(.str [49])],(.tuple [(.str [48]),(.int .i64 0)])⟩,⟨238,1032,[(.str [45,52]),(.str [49])],(.tuple [(.str [45,52]),(.int .i64 0)])⟩,⟨238,317,[(.str [50]),(.str [49])],(.tuple [(.str [50]),(.int .i64 0)])⟩]
def ak4:alY.all (gg E2 4000)=true:=af
def ayb:Tbl:=(.node (.node (.node .leaf none (.node (.node .leaf none (.node (.node .leaf none (.node .leaf (some (aqe++aql++aqw)) .leaf)) none .leaf)) none (.node (.node (.node .leaf (some (aqs)) .leaf) none .leaf) none .leaf))) none (.node .leaf none (.node .leaf none (.node (.node .leaf none (.node .leaf none (.node .leaf (some (alG)) .leaf))) none .leaf)))) none (.node (.node .leaf none (.node .leaf none (.node (.node .leaf none (.node .leaf none (.node .leaf (some (apw)) .leaf))) none .leaf))) none (.node (.node .leaf none (.node (.node (.node .leaf (some (apd)) .leaf) none (.node .leaf none (.node .leaf (some (aoN++aoM++aqi)) .leaf))) none .leaf)) none (.node .leaf none (.node (.node .leaf none (.node .leaf none (.node .leaf (some (ajD++alY)) .leaf))) none .leaf)))))
def avQ:Ou (gg E2 4000) ayb=true:=by
 simp only [ayb,Ou,aCQ,amy,aor,amm,aoE,an1,anR,aoy,amI,aog,ak6,ajL,ak4,aCR,aCP]
noncomputable def E3:Env:=E2.more ayb
def az4:EW Tryz.prog SB E3:=R5 Gy mixed azx avQ
def apk:List Hp:=[⟨213,1173,[(.str [45,52]),(.str [45,49])],(.tuple [(.str [52]),(.int .i64 0)])⟩,⟨213,453,[(.str [49]),(.str [45,49])],(.tuple [(.str [45,49]),(.int .i64 0)])⟩,⟨213,458,[(.str [50]),(.str [45,49])],(.tuple [(.str [45,50]),(.int .i64 0)])⟩,⟨213,1017,[(.str [45,49]),(.str [49])],(.tuple [(.str [45,49]),(.int .i64 0)])⟩,⟨213,332,[(.str [53]),(.str [49])],(.tuple [(.str [53]),(.int .i64 0)])⟩,⟨213,307,[(.str [48]),(.str [49])],(.tuple [(.str [48]),(.int .i64 0)])⟩]
def an3:apk.all (gg E3 4000)=true:=af
def apz:List Hp:=[⟨213,1158,[(.str [45,49]),(.str [45,49])],(.tuple [(.str [49]),(.int .i64 0)])⟩,⟨213,312,[(.str [49]),(.str [49])],(.tuple [(.str [49]),(.int .i64 0)])⟩,⟨213,1032,[(.str [45,52]),(.str [49])],(.tuple [(.str [45,52]),(.int .i64 0)])⟩,⟨213,317,[(.str [50]),(.str [49])],(.tuple [(.str [50]),(.int .i64 0)])⟩]
def anh:apz.all (gg E3 4000)=true:=af
def ay9:Tbl:=(.node (.node .leaf none (.node .leaf none (.node (.node .leaf none (.node (.node .leaf none (.node .leaf (some (apk++apz)) .leaf)) none .leaf)) none .leaf))) none .leaf)
def awu:Ou (gg E3 4000) ay9=true:=by
 simp only [ay9,Ou,aCQ,an3,anh,aCR,aCP]
noncomputable def E4:Env:=E3.more ay9
def azV:EW Tryz.prog SB E4:=R5 Gy mixed az4 awu
def aqa:List Hp:=[⟨172,2348,[(.int .u8 47),(.str [45,52]),(.str [45,49])],(.tuple [(.str [52]),(.int .i64 0)])⟩,⟨172,1628,[(.int .u8 47),(.str [49]),(.str [45,49])],(.tuple [(.str [45,49]),(.int .i64 0)])⟩,⟨172,1633,[(.int .u8 47),(.str [50]),(.str [45,49])],(.tuple [(.str [45,50]),(.int .i64 0)])⟩,⟨172,1529,[(.int .u8 43),(.str [49]),(.str [45,50])],(.tuple [(.str [45,49]),(.int .i64 0)])⟩,⟨172,1402,[(.int .u8 43),(.str [52]),(.str [49])],(.tuple [(.str [53]),(.int .i64 0)])⟩,⟨172,2092,[(.int .u8 43),(.str [45,49]),(.str [49])],(.tuple [(.str [48]),(.int .i64 0)])⟩]
def amu:aqa.all (gg E4 4000)=true:=af
def aqk:List Hp:=[⟨172,2333,[(.int .u8 47),(.str [45,49]),(.str [45,49])],(.tuple [(.str [49]),(.int .i64 0)])⟩,⟨172,2115,[(.int .u8 43),(.str [45,53]),(.str [52])],(.tuple [(.str [45,49]),(.int .i64 0)])⟩,⟨172,2105,[(.int .u8 43),(.str [45,51]),(.str [52])],(.tuple [(.str [49]),(.int .i64 0)])⟩,⟨172,2070,[(.int .u8 42),(.str [45,49]),(.str [52])],(.tuple [(.str [45,52]),(.int .i64 0)])⟩,⟨172,1546,[(.int .u8 43),(.str [52]),(.str [45,52])],(.tuple [(.str [48]),(.int .i64 0)])⟩,⟨172,1387,[(.int .u8 43),(.str [49]),(.str [49])],(.tuple [(.str [50]),(.int .i64 0)])⟩]
def an7:aqk.all (gg E4 4000)=true:=af
def ao7:List Hp:=[⟨172,1528,[(.int .u8 43),(.str [49]),(.str [45,49])],(.tuple [(.str [48]),(.int .i64 0)])⟩,⟨172,1534,[(.int .u8 43),(.str [50]),(.str [45,50])],(.tuple [(.str [48]),(.int .i64 0)])⟩]
def am1:ao7.all (gg E4 4000)=true:=af
def ayy:Tbl:=(.node .leaf none (.node (.node .leaf none (.node .leaf none (.node (.node .leaf none (.node (.node .leaf (some (aqa++aqk++ao7)) .leaf) none .leaf)) none .leaf))) none .leaf))
def awF:Ou (gg E4 4000) ayy=true:=by
 simp only [ayy,Ou,aCQ,amu,an7,am1,aCR,aCP]
noncomputable def E5:Env:=E4.more ayy
def azw:EW Tryz.prog SB E5:=R5 Gy mixed azV awF
def aqb:List Hp:=[⟨131,454,[(.str [49]),(.str [45,50])],(.tuple [(.str [45,49]),(.int .i64 0)])⟩,⟨131,327,[(.str [52]),(.str [49])],(.tuple [(.str [53]),(.int .i64 0)])⟩,⟨131,1017,[(.str [45,49]),(.str [49])],(.tuple [(.str [48]),(.int .i64 0)])⟩,⟨131,1040,[(.str [45,53]),(.str [52])],(.tuple [(.str [45,49]),(.int .i64 0)])⟩,⟨131,1030,[(.str [45,51]),(.str [52])],(.tuple [(.str [49]),(.int .i64 0)])⟩,⟨131,471,[(.str [52]),(.str [45,52])],(.tuple [(.str [48]),(.int .i64 0)])⟩]
def ano:aqb.all (gg E5 4000)=true:=af
def aqm:List Hp:=[⟨131,312,[(.str [49]),(.str [49])],(.tuple [(.str [50]),(.int .i64 0)])⟩,⟨131,453,[(.str [49]),(.str [45,49])],(.tuple [(.str [48]),(.int .i64 0)])⟩,⟨131,459,[(.str [50]),(.str [45,50])],(.tuple [(.str [48]),(.int .i64 0)])⟩]
def anG:aqm.all (gg E5 4000)=true:=af
def apg:List Hp:=[⟨132,1020,[(.str [45,49]),(.str [52])],(.tuple [(.str [45,52]),(.int .i64 0)])⟩]
def amY:apg.all (gg E5 4000)=true:=af
def aqp:List Hp:=[⟨185,1173,[(.str [45,52]),(.str [45,49])],(.tuple [(.str [52]),(.int .i64 0)])⟩,⟨185,453,[(.str [49]),(.str [45,49])],(.tuple [(.str [45,49]),(.int .i64 0)])⟩,⟨185,458,[(.str [50]),(.str [45,49])],(.tuple [(.str [45,50]),(.int .i64 0)])⟩,⟨185,1158,[(.str [45,49]),(.str [45,49])],(.tuple [(.str [49]),(.int .i64 0)])⟩]
def an0:aqp.all (gg E5 4000)=true:=af
def ayl:Tbl:=(.node (.node (.node .leaf none (.node (.node (.node (.node (.node .leaf (some (aqb++aqm)) .leaf) none .leaf) none .leaf) none .leaf) none .leaf)) none (.node (.node .leaf none (.node .leaf none (.node .leaf none (.node (.node .leaf (some (aqp)) .leaf) none .leaf)))) none .leaf)) none (.node (.node .leaf none (.node (.node (.node (.node (.node .leaf (some (apg)) .leaf) none .leaf) none .leaf) none .leaf) none .leaf)) none .leaf))
def awp:Ou (gg E5 4000) ayl=true:=by
 simp only [ayl,Ou,aCQ,ano,anG,amY,an0,aCR,aCP]
noncomputable def E6:Env:=E5.more ayl
def az6:EW Tryz.prog SB E6:=R5 Gy mixed azw awp
def ard:Ll E6 4000 6 [] (.bool true)=true:=af
def aov:Yq Tryz.prog SB 6 [] (.bool true):=by
 obtain⟨H',h⟩:=YL ard;exact K2 Gy mixed az6 h af rfl rfl
end dC
namespace Ls.Lib
open dC
open Go
set_option maxRecDepth 100000
noncomputable def mulR (o n:Nat):Bool:=(List.range n).all λk=>Ll E0 4000 173 [.int .u64 1,.int .u64 (aCx (o+k))] (.tuple [.int .u64 0,.int .u64 (aCx (o+k))])
def aAB:mulR 0 91=true:=af
def aAO:mulR 91 91=true:=af
def aAt:mulR 182 91=true:=af
def aAW:mulR 273 91=true:=af
def aAL:mulR 364 91=true:=af
def aAo:mulR 455 91=true:=af
def aAG:mulR 546 91=true:=af
def aAV:mulR 637 91=true:=af
def aAA:mulR 728 91=true:=af
def aAu:mulR 819 91=true:=af
def azo:mulR 910 91=true:=af
def H6 (h:mulR o n=true) (h1:o<=k) (h2:k<o+n):Ll E0 4000 173 [.int .u64 1,.int .u64 (aCx k)] (.tuple [.int .u64 0,.int .u64 (aCx k)])=true:=by
 have:=List.all_eq_true.1 h (k-o) (by rw [List.mem_range];omega);rw [show o+(k-o)=k by omega]at this;exact this
def ax5 k (h:k<=1000):Ll E0 4000 173 [.int .u64 1,.int .u64 (aCx k)] (.tuple [.int .u64 0,.int .u64 (aCx k)])=true:=by
 by_cases c0:k<91
 ·exact H6 aAB aa aa
 by_cases c1:k<182
 ·exact H6 aAO aa aa
 by_cases c2:k<273
 ·exact H6 aAt aa aa
 by_cases c3:k<364
 ·exact H6 aAW aa aa
 by_cases c4:k<455
 ·exact H6 aAL aa aa
 by_cases c5:k<546
 ·exact H6 aAo aa aa
 by_cases c6:k<637
 ·exact H6 aAG aa aa
 by_cases c7:k<728
 ·exact H6 aAV aa aa
 by_cases c8:k<819
 ·exact H6 aAA aa aa
 by_cases c9:k<910
 ·exact H6 aAu aa aa
 exact H6 azo aa aa
end Ls.Lib
namespace Ls
open dC
open Go
def qB (k:Nat) (l:List (List UInt8)):Bool:=l.all (yO k)
def sR (k:Nat) (x:kD):Bool:=qB k x.1&&yO k x.2
def ur (l:List (List UInt8)):Bool:=aCF l.length 100
def sZ (x:kD) (c:List UInt8):kD:=(x.1.map λa=>cn (nS a*nS c),cn (nS x.2*nS c))
def iG (x:kD×List UInt8):Bool:=ur x.1.1&&(sR 100000000 x.1&&yO 100000000 x.2)
def cq (x:kD×List UInt8):kD:=sZ x.1 x.2
def Gv:List (List UInt8)->List (List UInt8)->List (List UInt8)
 |a::l,b::m=>cn (nS a+nS b)::Gv l m
 |_,_=> []
def JM (a b:kD):kD:=(Gv a.1 b.1,cn (nS a.2+nS b.2))
def gT (x:kD×kD):Bool:=(ur x.1.1&&aCD x.1.1.length x.2.1.length)&&(sR 100000000 x.1&&sR 100000000 x.2)
def iT (x:kD×kD):kD:=JM x.1 x.2
def tD:List (List UInt8)->List (List UInt8)->Rat
 |a::l,b::m=>nS a*nS b+tD l m
 |_,_=>0
def iN (x:kD×List (List UInt8)):Bool:=(ur x.1.1&&aCD x.1.1.length x.2.length)&&(sR 1000000 x.1&&qB 1000000 x.2)
def dI (x:kD×List (List UInt8)):List UInt8:=cn (nS x.1.2+tD x.1.1 x.2)
def jj (x:Int×List UInt8):Bool:=dD 0 x.1&&dD x.1 1000
def cB (x:Int×List UInt8):kD:=(aCE x.1.toNat [48],x.2)
def mZ:List (List UInt8)->List (List UInt8)->Bool
 |a::l,b::m=>aD a b&&mZ l m
 | [],[]=>true
 |_,_=>false
def l7 (x:List (List UInt8)×List (List UInt8)):Bool:=CD x.1&&CD x.2
def oo (x:List (List UInt8)×List (List UInt8)):Bool:=mZ x.1 x.2
def fU (x:kD×kD):Bool:=CD x.1.1&&CD x.2.1
def nU (x:kD×kD):Bool:=aD x.1.2 x.2.2&&mZ x.1.1 x.2.1
def atu (l:List (List UInt8)):Bool:=l.all (jS 1000000)
def TN (f:dx):Bool:=ur f.2.1&&(atu f.2.1&&jS 1000000 f.2.2.1)
def dr (x:dx):Bool:=TN x
def ar (x:dx):kD:=(x.2.1,x.2.2.1)
def ig (x:kD):Bool:=true
def b4 (x:kD):kD:=(x.1,[48])
def axn (op:Int) (v:Rat):Bool:=decide (v=0) ||(decide (0<v)&&Int.same op 0)
def auQ (f:dx) (p:List (List UInt8)):Bool:=axn f.1 (nS f.2.2.1+tD f.2.1 p)
def OD (n:Nat) (p:List (List UInt8)):Bool:=aCD n p.length&&qB 1000000 p
def kP (x:dx×List (List UInt8)):Bool:=TN x.1&&OD x.1.2.1.length x.2
def nh (x:dx×List (List UInt8)):Bool:=auQ x.1 x.2
def iZ (x:List dx×List (List UInt8)):Bool:=aCF x.1.length 100&&x.1.all λf=>TN f&&OD f.2.1.length x.2
def iD (x:List dx×List (List UInt8)):Bool:=x.1.all λf=>auQ f x.2
def anO (f:dx) (p:List (List UInt8)):Bool:= !decide (tD f.2.1 p<0)&& !(decide (0<tD f.2.1 p)&&Int.same f.1 1)
def lu (x:kD×List dx×List (List UInt8)):Bool:=((ur x.1.1&&sR 1000000 x.1)&&OD x.1.1.length x.2.2)&&iZ x.2
def nr (x:kD×List dx×List (List UInt8)):Bool:=decide (0<tD x.1.1 x.2.2)&&x.2.1.all λf=>anO f x.2.2
def apP (op:Int) (m:List UInt8):Bool:=Int.same op 1 ||decide (0<=nS m)
def yz:kD->List dx->List (List UInt8)->kD
 |c,f::l,m::ms=>yz (JM c (sZ (f.2.1,f.2.2.1) m)) l ms
 |c,_,_=>c
def okS:List dx->List (List UInt8)->Bool
 |f::l,m::ms=>apP f.1 m&&okS l ms
 |_,_=>true
def fw (x:kD×List dx×List (List UInt8)):Bool:=
 ((aCF x.2.1.length 100&&aCD x.2.1.length x.2.2.length)&&(ur x.1.1&&sR 1000 x.1))&&(qB 1000 x.2.2&&x.2.1.all λf=>aCD f.2.1.length x.1.1.length&&(f.2.1.all (jS 1000)&&jS 1000 f.2.2.1))
def dn (x:kD×List dx×List (List UInt8)):kD×Bool:=(yz x.1 x.2.1 x.2.2,okS x.2.1 x.2.2)
noncomputable def JZ:Spec:= .val [some 2,none,none] (.pair (.pair (.list .str) .str) (.pair (.list (.pair (.int .i64) (.pair (.list .str) (.pair .str .str)))) (.list .str))) [some 2,none] (.pair (.pair (.list .str) .str) .bool) fw dn
noncomputable def XV:Spec:= .val [none,none] (.pair (.list (.pair (.int .i64) (.pair (.list .str) (.pair .str .str)))) (.list .str)) [none] .bool iZ iD
noncomputable def Km:Spec:= .val [some 2,none] (.pair (.pair (.list .str) .str) (.list .str)) [none] .str iN dI
noncomputable def TP:Spec:= .val [some 2,some 2] (.pair (.pair (.list .str) .str) (.pair (.list .str) .str)) [none] .bool fU nU
noncomputable def To:Spec:= .val [none,none] (.pair (.int .i64) .str) [some 2] (.pair (.list .str) .str) jj cB
noncomputable def O0:Spec:= .val [some 2,none,none] (.pair (.pair (.list .str) .str) (.pair (.list (.pair (.int .i64) (.pair (.list .str) (.pair .str .str)))) (.list .str))) [none] .bool lu nr
noncomputable def TH:Spec:= .val [some 2,some 2] (.pair (.pair (.list .str) .str) (.pair (.list .str) .str)) [some 2] (.pair (.list .str) .str) gT iT
noncomputable def Rv:Spec:= .val [some 2,none] (.pair (.pair (.list .str) .str) .str) [some 2] (.pair (.list .str) .str) iG cq
noncomputable def ru:Spec:= .val [some 4] (.pair (.int .i64) (.pair (.list .str) (.pair .str .str))) [some 2] (.pair (.list .str) .str) dr ar
noncomputable def Iy:Spec:= .val [some 4,none] (.pair (.pair (.int .i64) (.pair (.list .str) (.pair .str .str))) (.list .str)) [none] .bool kP nh
noncomputable def JR:Spec:= .val [none,none] (.pair (.list .str) (.list .str)) [none] .bool l7 oo
noncomputable def Gk:Spec:= .val [some 2] (.pair (.list .str) .str) [some 2] (.pair (.list .str) .str) ig b4
def q9 (n:Nat) (c:List UInt8):kD:=(aCE n [48],c)
def aoW (a b:kD):Bool:=aD a.2 b.2&&mZ a.1 b.1
def DA (c:kD) (l:List dx) (o:Oe):Bool:=
 cond (Int.same o.1 0)
  (okS l o.2.2.2.2&&(iD (l,o.2.2.1)&&(aD (dI (c,o.2.2.1)) o.2.1&&aoW (yz c l o.2.2.2.2) (q9 c.1.length o.2.1))))
  (cond (Int.same o.1 1) (iD (l,o.2.2.1)&&nr (c,l,o.2.2.2.1))
   (okS l o.2.2.2.2&&aoW (yz (q9 c.1.length [48]) l o.2.2.2.2) (q9 c.1.length [45,49])))
def LC (n:Nat) (f:dx):Bool:=aCD f.2.1.length n&&(f.2.1.all (jS 1000)&&jS 1000 f.2.2.1)
def l9 (x:kD×List dx×Oe):Bool:=
 ((ur x.1.1&&sR 1000 x.1)&&(aCF x.2.1.length 100&&x.2.1.all (LC x.1.1.length)))&&
  (((qB 1000 x.2.2.2.2.1&&qB 1000 x.2.2.2.2.2.1)&&qB 1000 x.2.2.2.2.2.2)&&BC (aCx x.1.1.length) (aCx x.2.1.length) x.2.2)
def rN (x:kD×List dx×Oe):Bool:=DA x.1 x.2.1 x.2.2
def EV (s:List UInt8):Bool:=aCF s.length 450
def j8 (l:List (List UInt8)):Bool:=l.all EV
def si (l:List (List UInt8)):Bool:=aCF l.length 80
def anU (x:kD×List dx×Oe):Bool:=
 (((si x.1.1&&j8 x.1.1)&&EV x.1.2)&&(aCF x.2.1.length 80&&x.2.1.all λf=>(si f.2.1&&j8 f.2.1)&&EV f.2.2.1))&&
  ((((si x.2.2.2.2.1&&j8 x.2.2.2.2.1)&&(si x.2.2.2.2.2.1&&j8 x.2.2.2.2.2.1))&&(si x.2.2.2.2.2.2&&j8 x.2.2.2.2.2.2))&&EV x.2.2.2.1)
def orE (a b:Int):Int:=cond (Int.same a 0) b a
def axe (c:kD) (l:List dx) (o:Oe):Int:=
 orE (Qa c l) (cond (bZ o.1 0 ||bZ 2 o.1) 1 (cond (!BC (aCx c.1.length) (aCx l.length) o) 15
  (orE (cond (aD o.2.1 []) 0 (kv o.2.1)) (orE (jQ kv o.2.2.1) (orE (jQ kv o.2.2.2.1) (orE (jQ kv o.2.2.2.2)
   (cond (Int.same o.1 0&&aD o.2.1 []) 3 (cond (DA c l o) 0 18))))))))
def rh (x:kD×List dx×Oe):Bool:=anU x
def qA (x:kD×List dx×Oe):Int:=axe x.1 x.2.1 x.2.2
def kh (x:List UInt8):Bool:=true
def mo (x:List UInt8):Bool:=dD (aCx x.length) 450
def alW (x:kD):Bool:=(aCF x.1.length 40&&EV x.2)&&j8 x.1
def jb (x:kD):Bool:=true
def kQ (x:kD):Bool:=alW x
def j6 (x:List (List UInt8)):Bool:=true
def pc (x:List (List UInt8)):Bool:=alW (x,[])
def fY (x:List (List UInt8)):Bool:=true
def jV (x:List (List UInt8)):Bool:=si x&&j8 x
noncomputable def MB:Spec:= .val [none] (.list .str) [none] .bool fY jV
noncomputable def OQ:Spec:= .val [some 2,none,some 5] (.pair (.pair (.list .str) .str) (.pair (.list (.pair (.int .i64) (.pair (.list .str) (.pair .str .str)))) (.pair (.int .i64) (.pair .str (.pair (.list .str) (.pair (.list .str) (.list .str))))))) [none] (.int .i64) rh qA
noncomputable def Og:Spec:= .val [some 2] (.pair (.list .str) .str) [none] .bool jb kQ
noncomputable def Mm:Spec:= .val [none] (.list .str) [none] .bool j6 pc
noncomputable def P6:Spec:= .val [some 2,none,some 5] (.pair (.pair (.list .str) .str) (.pair (.list (.pair (.int .i64) (.pair (.list .str) (.pair .str .str)))) (.pair (.int .i64) (.pair .str (.pair (.list .str) (.pair (.list .str) (.list .str))))))) [none] .bool l9 rN
noncomputable def Mx:Spec:= .val [none] .str [none] .bool kh mo
abbrev aaw:=Int×List (List UInt8)×List UInt8×List dx
def dd (x:Int×List UInt8×List UInt8):Bool:=Int.same x.1 0&&((yO 4096 x.2.1&&yO 4096 x.2.2)&&avp (nS x.2.1) (nS x.2.2))
def dv (x:Int×List UInt8×List UInt8):List UInt8:=cn (nS x.2.1+nS x.2.2)
def dc (x:Int×List UInt8×List UInt8):Bool:=Int.same x.1 0&&((yO 4096 x.2.1&&yO 4096 x.2.2)&&atL (nS x.2.1) (nS x.2.2))
def b6 (x:Int×List UInt8×List UInt8):List UInt8:=cn (nS x.2.1*nS x.2.2)
def aiQ (x:aaw):Bool:=Int.same x.1 0
def YZ (l p:List (List UInt8)) (c:List UInt8):Bool:=(aCF l.length 6&&aCD l.length p.length)&&((qB 100 l&&qB 450 p)&&yO 100 c)
def ic (x:aaw×dx×List (List UInt8)×List UInt8):Bool:=aiQ x.1&&YZ x.2.1.2.1 x.2.2.1 x.2.2.2
def fB (x:aaw×dx×List (List UInt8)×List UInt8):List UInt8:=cn (nS x.2.2.2+tD x.2.1.2.1 x.2.2.1)
def dM (x:aaw×List (List UInt8)×List UInt8):Bool:=aiQ x.1&&YZ x.1.2.1 x.2.1 x.2.2
def cY (x:aaw×List (List UInt8)×List UInt8):List UInt8:=cn (nS x.2.2+tD x.1.2.1 x.2.1)
def agF (op:Int) (v:Rat):Bool:= !decide (v<0)&& !(Int.same op 1&& !decide (v=0))
def afc (a:Bool) (p:List (List UInt8)) (f:dx):Bool:=agF f.1 (cond a 0 (nS f.2.2.1)+tD f.2.1 p)
def du (x:aaw×List (List UInt8)×Bool):Bool:=aiQ x.1&&(aCF x.1.2.2.2.length 100&&x.1.2.2.2.all λf=>YZ f.2.1 x.2.1 f.2.2.1)
def bL (x:aaw×List (List UInt8)×Bool):Bool:=x.1.2.2.2.all (afc x.2.2 x.2.1)
def apF (op:Int) (m:List UInt8):Bool:= !(Int.same op 0&&decide (nS m<0))
def okP:List dx->List (List UInt8)->Bool
 |f::l,m::a=>apF f.1 m&&okP l a
 |_,_=>true
def XJ (c:kD) (l:List dx) (ms:List (List UInt8)) (v:List UInt8):Bool:=okP l ms&&(aD (yz c l ms).2 v&&(yz c l ms).1.all λa=>aD a [48])
def dA (x:aaw×kD×List (List UInt8)×List UInt8):Bool:=
 aiQ x.1&&(((aCF x.1.2.2.2.length 7&&aCD x.1.2.2.2.length x.2.2.1.length)&&(ur x.2.1.1&&sR 100 x.2.1))&&
  (qB 450 x.2.2.1&&x.1.2.2.2.all λf=>aCD f.2.1.length x.2.1.1.length&&(f.2.1.all (jS 100)&&jS 100 f.2.2.1)))
def fu (x:aaw×kD×List (List UInt8)×List UInt8):Bool:=XJ x.2.1 x.1.2.2.2 x.2.2.1 x.2.2.2
def arC (x:aaw):kD:=(x.2.1,x.2.2.1)
def ahM (x:aaw) (o:Oe):Bool:=
 cond (Int.same o.1 0)
  (bL (x,o.2.2.1,false)&&(aD (cY (x,o.2.2.1,x.2.2.1)) o.2.1&&XJ (arC x) x.2.2.2 o.2.2.2.2 o.2.1))
  (cond (Int.same o.1 1) (bL (x,o.2.2.1,false)&&(bL (x,o.2.2.2.1,true)&&decide (0<tD x.2.1 o.2.2.2.1)))
   (XJ (q9 x.2.1.length [48]) x.2.2.2 o.2.2.2.2 [45,49]))
def fP (x:aaw×Oe):Bool:=
 aiQ x.1&&(((aCF x.1.2.1.length 6&&sR 100 (arC x.1))&&(aCF x.1.2.2.2.length 7&&x.1.2.2.2.all λf=>aCD f.2.1.length x.1.2.1.length&&(f.2.1.all (jS 100)&&jS 100 f.2.2.1)))&&
  (((qB 450 x.2.2.2.1&&qB 450 x.2.2.2.2.1)&&qB 450 x.2.2.2.2.2)&&BC (aCx x.1.2.1.length) (aCx x.1.2.2.2.length) x.2))
def jK (x:aaw×Oe):Bool:=ahM x.1 x.2
def gR (x:kD×List dx×Oe):Bool:=anU x&&(aCF x.1.1.length 3 ||Nat.blt 32 x.1.1.length)&&(aCF x.2.1.length 7 ||Nat.blt 64 x.2.1.length)
def oh (x:kD×List dx×Oe):Int:=axe x.1 x.2.1 x.2.2
def iw (x:List UInt8):Bool:=true
def jt (x:List UInt8):Bool:= !aD x [48]
noncomputable def JE:Spec:= .val [some 2,none,some 5] (.pair (.pair (.list .str) .str) (.pair (.list (.pair (.int .i64) (.pair (.list .str) (.pair .str .str)))) (.pair (.int .i64) (.pair .str (.pair (.list .str) (.pair (.list .str) (.list .str))))))) [none] (.int .i64) gR oh
noncomputable def vD:Spec:= .val [none] .str [none] .bool iw jt
noncomputable def lV:Spec:= .val [none,none,none] (.pair (.ref (.int .i64)) (.pair .str .str)) [none] .str dd dv
noncomputable def lM:Spec:= .val [none,none,none] (.pair (.ref (.int .i64)) (.pair .str .str)) [none] .str dc b6
noncomputable def Ge:Spec:= .val [none,some 4,none,none] (.pair (.ref (.pair (.int .i64) (.pair (.list .str) (.pair .str (.list (.pair (.int .i64) (.pair (.list .str) (.pair .str .str)))))))) (.pair (.pair (.int .i64) (.pair (.list .str) (.pair .str .str))) (.pair (.list .str) .str))) [none] .str ic fB
noncomputable def C1:Spec:= .val [none,none,none] (.pair (.ref (.pair (.int .i64) (.pair (.list .str) (.pair .str (.list (.pair (.int .i64) (.pair (.list .str) (.pair .str .str)))))))) (.pair (.list .str) .str)) [none] .str dM cY
noncomputable def vT:Spec:= .val [none,none,none] (.pair (.ref (.pair (.int .i64) (.pair (.list .str) (.pair .str (.list (.pair (.int .i64) (.pair (.list .str) (.pair .str .str)))))))) (.pair (.list .str) .bool)) [none] .bool du bL
noncomputable def yx:Spec:= .val [none,some 2,none,none] (.pair (.ref (.pair (.int .i64) (.pair (.list .str) (.pair .str (.list (.pair (.int .i64) (.pair (.list .str) (.pair .str .str)))))))) (.pair (.pair (.list .str) .str) (.pair (.list .str) .str))) [none] .bool dA fu
noncomputable def BD:Spec:= .val [none,some 5] (.pair (.ref (.pair (.int .i64) (.pair (.list .str) (.pair .str (.list (.pair (.int .i64) (.pair (.list .str) (.pair .str .str)))))))) (.pair (.int .i64) (.pair .str (.pair (.list .str) (.pair (.list .str) (.list .str)))))) [none] .bool fP jK
def Fq (k:Int) (s:List UInt8):Bool:=dD (aCx s.length) k
def brF (f:dx):Bool:=(Fq 26 f.2.2.1&&Fq 26 f.2.2.2)&&f.2.1.all (Fq 26)
def ajn (l:List dx):Bool:=dD (aCx l.length) 4 ||(bZ 64 (aCx l.length) ||l.all brF)
def alm (l:List dx):Bool:=l.all λf=>aCF f.2.1.length 9223372036854775807
def s9 (x:List dx):Bool:=alm x
def sC (x:List dx):Bool:=ajn x
def fwF (f:dx):Bool:=(dD (aCx f.2.1.length) 40&&Fq 210 f.2.2.1)&&f.2.1.all (Fq 210)
def at3 (c:kD) (l:List dx):Bool:=
 (ajn l&&(!(bZ 3 (aCx c.1.length)&&dD (aCx c.1.length) 32)&&(!(bZ 7 (aCx l.length)&&dD (aCx l.length) 64)&&
  (dD (aCx c.1.length) 40&&(dD (aCx l.length) 70&&alW c)))))&&l.all fwF
def xP (x:kD×List dx):Bool:=alm x.2
def wQ (x:kD×List dx):Bool:=at3 x.1 x.2
def iE (x:Unit):Bool:=true
def j0 (x:Unit):Bool:=true
def o3 (x:kD×List dx×Oe):Bool:=alm x.2.1
def mJ (x:kD×List dx×Oe):Bool:=true
noncomputable def N6:Spec:= .val [some 2,none,some 5] (.pair (.pair (.list .str) .str) (.pair (.list (.pair (.int .i64) (.pair (.list .str) (.pair .str .str)))) (.pair (.int .i64) (.pair .str (.pair (.list .str) (.pair (.list .str) (.list .str))))))) [none] .bool o3 mJ
noncomputable def W2:Spec:= .val [some 2,none] (.pair (.pair (.list .str) .str) (.list (.pair (.int .i64) (.pair (.list .str) (.pair .str .str))))) [none] .bool xP wQ
noncomputable def IB:Spec:= .val [] .unit [none] .bool iE j0
noncomputable def Ql:Spec:= .val [none] (.list (.pair (.int .i64) (.pair (.list .str) (.pair .str .str)))) [none] .bool s9 sC
end Ls
namespace Ls
open dC
open Go
noncomputable section
def Tm:List (Nat×Spec)->Nat->Option Spec
 | [],_=>none
 |p::l,g=>cond (aCD g p.1) (some p.2) (Tm l g)
def lkL:List (Nat×LFn)->Nat->Option LFn
 | [],_=>none
 |p::l,g=>cond (aCD g p.1) (some p.2) (lkL l g)
def ab6 (E:Env):List (Nat×Spec)->Prop
 | []=>True
 |p::l=>aN E p.1 p.2/\ab6 E l
def abE (E:Env):List (Nat×LFn)->Prop
 | []=>True
 |p::l=>eD E p.1 p.2.erase/\abE E l
def avm: ∀ {l},ab6 E l-> ∀g sp,Tm l g=some sp->aN E g sp
 | [],_,g,sp,h=>by cases h
 |p::l,hl,g,sp,h=>by
  rcases bF h with⟨rfl,rfl⟩ |h
  ·exact hl.1
  ·exact avm hl.2 g sp h
def atS: ∀ {l},abE E l-> ∀g F,lkL l g=some F->eD E g F.erase
 | [],_,g,F,h=>by cases h
 |p::l,hl,g,F,h=>by
  rcases bF h with⟨rfl,rfl⟩ |h
  ·exact hl.1
  ·exact atS hl.2 g F h
def amn (hs:ab6 E s) (hk:abE E l):ar5 E (Tm s) (lkL l):=⟨avm hs,atS hk⟩
namespace Lf
abbrev LI:=List Int
abbrev BS:=List UInt8
abbrev cC:=List (List UInt8)
def Rn (s:List (Nat×Spec)) (l:List (Nat×LFn)) (K d:Nat) (c:ia) (st:St) (k:AE->St->Option α):Option α:=An (tA (Tm s) (lkL l) K d) (puS (Tm s)) K c st k
def S0 (n:Nat) (r:List (Nat×LV)) (h:List (Option LB)):St:=⟨⟨n,r⟩,[⟨0,[]⟩],h⟩
def vi (x:Int):LV:= .val (.int .i64) x
def vb (x:Bool):LV:= .val .bool x
def vs (x:List UInt8):LV:= .val .str x
def vy (x:Int):LV:= .val (.int .u8) x
def mP (x:List Int):LV:= .val (.list (.int .i64)) x
def vLy (x:List Int):LV:= .val (.list (.int .u8)) x
def rz (x:List (List UInt8)):LV:= .val (.list .str) x
instance (n:Nat):OfNat AX n:=⟨.t n⟩
def i (n:Int):AX:= .c (.int .i64 n)
def m (d s:Nat):bU:=⟨some d,.mv (.t s),none⟩
def o (d:Nat) (x:PH):bU:=⟨some d,x,none⟩
def g (d:Nat) (x:PH) (t:Nat) (b:Bool):bU:=⟨some d,x,some (t,b)⟩
class B (γ:Type) where
 n:Nat->γ->γ
 e: ∀K f,n K f=f
instance {β:Type} :B (Option β):=⟨bnd,λK f=>amg K f⟩
instance {α γ:Type} [B γ]:B (α->γ):=⟨λK f x=>B.n K (f x),λK f=>funext λx=>B.e K (f x)⟩
end Lf
end
end Ls
namespace Ls.Lib
open dC
open Ls
open Go
set_option maxRecDepth 100000
def ayC:Ll E0 4000 192 [.str Ut] (.tuple [.agg Ov,.bool true])=true:=af
def ayE:((List.range 9).all λk=>Ll E0 4000 169 [.str [48],.int .i64 (aCx k)] (.str (aCE k 48)))=true:=af
def apc (g:Nat) (b:List AV):Option AV:=
 cond (aCD g 6) (match b with | []=>some (.bool true) |_=>none)
 (cond (aCD g 192) (cond (AV.mZ [.str Ut] b) (some (.tuple [.agg Ov,.bool true])) none)
 (cond (aCD g 169) (match b with | [.str s,.int .i64 n]=>cond (aD s [48]&&(dD 0 n&&dD n 8)) (some (.str (aCE n.toNat 48))) none |_=>none)
 (cond (aCD g 173) (match b with | [.int .u64 a,.int .u64 n]=>cond (Int.same a 1&&(dD 0 n&&dD n 1000)) (some (.tuple [.int .u64 0,.int .u64 n])) none |_=>none)
 (cond (aCD g 167) (match b with | [.int .i64 n]=>cond (dD (-9223372036854775808) n&&dD n 9223372036854775807) (some (.str (bb n))) none |_=>none) none))))
def ae8 (h:Ll E0 4000 g a v=true) (b:(E0.fn g).isSome=true) (c:AV.aes a=true) (d:AV.flat v=true):Yq Tryz.prog SB g a v:=by
 obtain⟨j,f⟩:=YL h;exact K2 Gy mixed aj6 f b c d
def amz:AV.flat (.tuple [.agg Ov,.bool true])=true:=af
def avj g c v (h:apc g c=some v):Yq Tryz.prog SB g c v:=by
 simp only [apc]at h;cases d:aCD g 6 with
 |true=>
  rw [d,cond_true]at h;rw [aCH d];split at h
  ·cases h;exact aov
  ·cases h
 |false=>
 rw [d,cond_false]at h;cases f:aCD g 192 with
 |true=>
  rw [f,cond_true]at h;rw [aCH f];obtain⟨b,h⟩:=dC.bF h;cases h;rw [<-AV.qn _ _ b];exact ae8 ayC af rfl amz
 |false=>
 rw [f,cond_false]at h;cases j:aCD g 169 with
 |true=>
  rw [j,cond_true]at h;rw [aCH j];split at h
  ·rename_i s n;obtain⟨b,h⟩:=dC.bF h;cases h;simp only [aCO,dD,decide_eq_true_eq]at b;obtain⟨b,k,q⟩:=b;rw [dZ.1 b];have:=List.all_eq_true.1 ayE n.toNat (by rw [List.mem_range];omega);rw [show aCx n.toNat=n from Int.toNat_of_nonneg k]at this;exact ae8 this af rfl rfl
  ·cases h
 |false=>
 rw [j,cond_false]at h;cases l:aCD g 173 with
 |true=>
  rw [l,cond_true]at h;rw [aCH l];split at h
  ·rename_i a n;obtain⟨b,h⟩:=dC.bF h;cases h;simp only [aCO,dD,decide_eq_true_eq]at b;obtain⟨b,k,q⟩:=b;rw [Int.dG b];have:=ax5 n.toNat aa;rw [show aCx n.toNat=n from Int.toNat_of_nonneg k]at this;exact ae8 this af rfl rfl
  ·cases h
 |false=>
 rw [l,cond_false]at h;cases p:aCD g 167 with
 |true=>
  rw [p,cond_true]at h;rw [aCH p];split at h
  ·rename_i n;obtain⟨b,h⟩:=dC.bF h;cases h;simp only [aCO,dD,decide_eq_true_eq]at b;exact ar7 af (dC.enters_of aj6 af) n b.1 b.2
  ·cases h
 |false=>rw [p]at h;cases h
noncomputable def EM:Env:= {E0 with vP:=apc}
def azz:EW Tryz.prog SB EM where
 fn:=aj6.fn
 ext:=aj6.ext
 vP:=avj
def kn (h:E0.fn g=some F) (b: ∀a,apc g a=none) (c:awM g=none):eD EM g F:=⟨h,b,c⟩
def _root_.Go.Proofs.YtccmgnimoheekaaGreatDoor.Ls.ab6.c (h:aN E g a) (t:ab6 E l):ab6 E ((g,a)::l):=⟨h,t⟩
def _root_.Go.Proofs.YtccmgnimoheekaaGreatDoor.Ls.ab6.n:ab6 E []:=trivial
def _root_.Go.Proofs.YtccmgnimoheekaaGreatDoor.Ls.abE.c (h:eD E g F.erase) (t:abE E l):abE E ((g,F)::l):=⟨h,t⟩
def _root_.Go.Proofs.YtccmgnimoheekaaGreatDoor.Ls.abE.n:abE E []:=trivial
def k25:eD EM 25 F25:=kn af (λ_=>rfl) rfl
def k42:eD EM 42 F42:=kn af (λ_=>rfl) rfl
def k48:eD EM 48 F48:=kn af (λ_=>rfl) rfl
def k51:eD EM 51 F51:=kn af (λ_=>rfl) rfl
def k82:eD EM 82 F82:=kn af (λ_=>rfl) rfl
def k83:eD EM 83 F83:=kn af (λ_=>rfl) rfl
def k93:eD EM 93 F93:=kn af (λ_=>rfl) rfl
def azN:eD EM 121 anu:=kn af (λ_=>rfl) rfl
def aAz:eD EM 134 arn:=kn af (λ_=>rfl) rfl
def aAI:eD EM 158 aqF:=kn af (λ_=>rfl) rfl
def aAP:eD EM 193 arl:=kn af (λ_=>rfl) rfl
def aAM:eD EM 194 arz:=kn af (λ_=>rfl) rfl
def aAq:eD EM 205 arT:=kn af (λ_=>rfl) rfl
def aAn:eD EM 219 ajo:=kn af (λ_=>rfl) rfl
noncomputable def azP (F:Option AFn):dy:=match F with |some ⟨_,_,.seq _ (.seq _ (.seq _ r))⟩=>r |_=> .skip
noncomputable def azr (F:Option AFn):dy:=match F with |some ⟨_,_,.seq _ (.seq _ (.seq (.block _ (.seq _ (.cond _ _ (.seq _ (.cond _ _ c))))) _))⟩=>c |_=> .skip
def aAC:eD EM 122 (ari (azr (E0.fn 122)) (azP (E0.fn 122))):=kn af (λ_=>rfl) rfl
def auC: ∀n:Nat,n<=1000->EM.vP 173 [.int .u64 1,.int .u64 n]=some (.tuple [.int .u64 0,.int .u64 n]):=λn a=>by
 show cond (Int.same 1 1&&(dD 0 (n:Int)&&dD (n:Int) 1000)) _ none=_;rw [show Int.same 1 1=true from rfl,aF aa,aF aa];rfl
def avt:aN EM 6 IB:=
 MV (λ_=>rfl) λA H vs b x c a d f=>by
  have:vs=[]:=by cases vs with |nil=>rfl |cons=>exact a.elim
  subst this;exact⟨.bool true,H,afh rfl,jh.refl H,rfl⟩
def awl:aN EM 167 tk:=
 MV (λ_=>rfl) λA H vs d x f a b c=>by
  rw [Xp a b];simp only [ll,i18,aCO,dD,decide_eq_true_eq]at c;refine⟨.str (bb x),H,afh ?_,jh.refl H,rfl⟩;show cond (dD (-9223372036854775808) x&&dD x 9223372036854775807) _ none=_;rw [aF aa,aF aa];rfl
def ang:aN EM 169 Bb:=
 MV (λ_=>rfl) λA H vs n x p a b c=>by
  obtain⟨d,f,e,h,j⟩:=b;have k:d=[.str x.1]:=h;have l:f=[.int .i64 x.2]:=j;rw [k,l]at e;rw [Rb a e];refine⟨.str (aCE x.2.toNat 48),H,afh ?_,jh.refl H,rfl⟩;show cond (aD x.1 [48]&&(dD 0 x.2&&dD x.2 8)) _ none=_;rw [show(aD x.1 [48]&&(dD 0 x.2&&dD x.2 8))=true from c];rfl
end Ls.Lib
namespace Ls
open dC
open Go
noncomputable section
namespace Lf
def bits:Nat->Nat->Nat->List Nat
 |0,_,_=> []
 |k+1,m,i=>cond (aCD m 0) [] (cond (aCD (m%2) 1) (i::bits k (m/2) (i+1)) (bits k (m/2) (i+1)))
def nth:List Nat->Nat->Nat
 | [],_=>0
 |a::_,0=>a
 |_::l,n+1=>nth l n
def cof:List (Nat×List (Nat×Option Nat×Co))->Nat->List (Nat×Option Nat×Co)
 | [],_=> []
 |p::l,n=>cond (aCD p.1 n) p.2 (cof l n)
def brs:dy->Bool
 | .cond _ _ _=>true
 | .seq a b=>cond (brs a) true (brs b)
 | .block _ b=>brs b
 | .loop _=>true
 | .ou _ _ _ _=>true
 |_=>false
def lvs:dy->Bool
 | .exit _=>true
 | .ret=>true
 | .fail=>true
 | .seq a b=>cond (lvs a) true (lvs b)
 | .cond _ a b=>cond (lvs a) (lvs b) false
 |_=>false
def sml:dy->Bool
 | .skip=>true
 | .ret=>true
 | .exit _=>true
 | .fail=>true
 |_=>false
def ax6 (a b:dy):Bool:=cond (brs a) (cond (sml b) false (cond (lvs a) false true)) false
def cnt:dy->Nat
 | .seq a b=>cnt a+cond (ax6 a b) (cnt b+1) (cnt b)
 | .cond _ a b=>cnt a+cnt b
 | .block _ b=>cnt b
 | .loop b=>cnt b+1
 | .exit _=>1
 | .ret=>1
 | .ou _ _ a b=>cnt a+cnt b+1
 |_=>0
def tyo (ty:List (Nat×Ty)) (ops:List bU):List (Nat×Ty):=match ty with | []=> [] |_=>ty.filter λp=>ops.any λo=>match o.dst with |some d=>aCD d p.1 |none=>false
def an (ty:List (Nat×Ty)) (c:Nat->Canon):dy->Nat->ia
 | .skip,_=> .skip
 | .fail,_=> .fail
 | .region o,_=> .region o (tyo ty o)
 | .lN o p,_=> .lN o p (tyo ty o)
 | .seq a b,i=> .seq (an ty c a i) (cond (ax6 a b) (.canon (c (i+cnt a)) (an ty c b (i+cnt a+1))) (an ty c b (i+cnt a)))
 | .cond x a b,i=> .cond x (an ty c a i) (an ty c b (i+cnt a))
 | .block j b,i=> .block j (an ty c b i)
 | .loop b,i=> .loop (c i) (an ty c b (i+1))
 | .exit j,i=> .exit j (c i)
 | .ret,i=> .ret (c i)
 | .ou f d a b,i=> .canon (c i) (.ou f d (an ty c a (i+1)) (an ty c b (i+1+cnt a)))
theorem yU ty d: ∀c i,(an ty d c i).erase=c
 | .skip,_=>rfl
 | .fail,_=>rfl
 | .region _,_=>rfl
 | .lN _ _,_=>rfl
 | .seq a b,i=>by
  show dy.seq _ _=_;rw [yU ty d a];cases ax6 a b with
  |true=>show dy.seq a (an ty d b _).erase=_;rw [yU ty d b]
  |false=>show dy.seq a (an ty d b _).erase=_;rw [yU ty d b]
 | .cond x a b,i=>by show dy.cond _ _ _=_;rw [yU ty d a,yU ty d b]
 | .block j b,i=>by show dy.block _ _=_;rw [yU ty d b]
 | .loop b,i=>by show dy.loop _=_;rw [yU ty d b]
 | .exit _,_=>rfl
 | .ret,_=>rfl
 | .ou f h a b,i=>by show dy.ou _ _ _ _=_;rw [yU ty d a,yU ty d b]
def Fa (f:Option AFn) (a:List Nat) (b:List (Nat×List (Nat×Option Nat×Co))) (ty:List (Nat×Ty)):LFn:=
 match f with
 |some f=>⟨f.ntmps,f.res,an ty (λi=>⟨bits 999 (nth a i) 0,cof b i⟩) f.body 0⟩
 |none=>⟨0,[],.fail⟩
theorem auP (h:f.isSome=true):f=some (Fa f a b ty).erase:=by
 cases f with
 |none=>cases h
 |some f=>simp only [Fa,LFn.erase,yU]
structure Fx (β:Type) where
 s:List (Nat×Spec)
 l:List (Nat×LFn)
 F:LFn
 ex:LV->St->Option β
def ch:ia->Nat->ia
 | .seq a b,i=>cond (aCD i 0) a b
 | .cond _ a b,i=>cond (aCD i 0) a b
 | .block _ b,_=>b
 | .loop _ b,_=>b
 | .canon _ c,_=>c
 | .ou _ _ a b,i=>cond (aCD i 0) a b
 |c,_=>c
def nd:Nat->ia->Nat->ia
 |0,c,_=>c
 |f+1,c,p=>cond (aCD p 1) c (nd f (ch c (p%2)) (p/2))
section
variable {β:Type}
def kt (d:ia->St->KL β->Option β):Nat->ia->Nat->List Nat->KL β->KL β
 |0,_,_,_,k=>k
 |f+1,c,p,h,k=>cond (aCD p 1) k (match c with
  | .seq a b=>cond (aCD (p%2) 0) (kt d f a (p/2) h (vQ (d b) k)) (kt d f b (p/2) h k)
  | .cond _ a b=>cond (aCD (p%2) 0) (kt d f a (p/2) h k) (kt d f b (p/2) h k)
  | .block i b=>kt d f b (p/2) h (k5 i k)
  | .loop j b=>(match h with
   |n::h=>kt d f b (p/2) h (J8 (iI j) (rb n (d b) (iI j)) k)
   | []=>k)
  | .canon _ c=>kt d f c (p/2) h k
  |_=>k)
def kr:Nat->List Nat->ia->Nat->List Nat
 |0,q,_,_=>q
 |f+1,q,c,p=>cond (aCD p 1) (match c with | .loop a _=>a.gQ |_=>q) (kr f (match c with | .canon a _=>a.gQ |_=> []) (ch c (p%2)) (p/2))
def zp:List Nat->List LV->List (Nat×LV)
 |i::l,v::vs=>(i,v)::zp l vs
 |_,_=> []
def Rx (X:Fx β) (K:Nat) (c:ia) (st:St) (k:KL β):Option β:=An (tA (Tm X.s) (lkL X.l) K 12) (puS (Tm X.s)) K c st k
def Jn (X:Fx β) (p:Nat):ia:=nd 99 X.F.body p
def Js (X:Fx β) (p:Nat) (vs:List LV) (h:List (Option LB)):St:=S0 X.F.n (zp (kr 99 [] X.F.body p) vs) h
def Jk (X:Fx β) (K p:Nat) (cs:List Nat):KL β:=kt (An (tA (Tm X.s) (lkL X.l) K 12) (puS (Tm X.s)) K) 99 X.F.body p cs (eF X.F X.ex)
def J (X:Fx β) (K p:Nat) (cs:List Nat) (vs:List LV) (h:List (Option LB)):Option β:=An (tA (Tm X.s) (lkL X.l) K 12) (puS (Tm X.s)) K (Jn X p) (Js X p vs h) (Jk X K p cs)
def lpc:ia->Canon
 | .loop a _=>a
 | .canon a _=>a
 |_=>⟨[],[]⟩
def rgn:ia->List bU
 | .region o _=>o
 | .lN o _ _=>o
 |_=> []
def pln:ia->List (Nat×Nat)
 | .lN _ p _=>p
 |_=> []
def Ji (X:Fx β) (K n p:Nat) (st:St) (k:KL β):Option β:=rb n (An (tA (Tm X.s) (lkL X.l) K 12) (puS (Tm X.s)) K (ch (Jn X p) 0)) (iI (lpc (Jn X p))) st k
def Jl (X:Fx β) (K n p:Nat) (cs:List Nat) (vs:List LV) (h:List (Option LB)):Option β:=Ji X K n p (Js X p vs h) (Jk X K p cs)
def Jt (X:Fx β) (K:Nat) (aCL:List LV):Option β:=asp (Tm X.s) (lkL X.l) K 12 X.F aCL X.ex
end
theorem okF {g} {pre} X (c:X.ex=aJ a d some) (f:ab6 E X.s) (j:abE E X.l) (k:eD E g X.F.erase) (b:a≠ [])
  (h: ∀x,pre x=true-> ∃K,Jt X K (aI gs (aE t x))=some (y x)):aN E g (.val gs t a d pre y):=
 avB (amn f j) k b λx n=>let⟨K,h⟩:=h x n;⟨K,12,by rw [<-c];exact h⟩
end Lf
end
end Ls
namespace Ls.oz
open dC
open Ls.Lf
open Go
set_option autoImplicit true
set_option relaxedAutoImplicit true
noncomputable section
def yW:Fx (LI):=⟨[],[],Fa (E0.fn 198) [1,1,1,1,4] [(0,[(0,none,.part (.int .i64))])] [],aJ [none] (.list (.int .i64)) some⟩
def CJ K a b:=J yW K 81 [a] [(mP b)] []
def wL K a:=J yW K 11 [] [(mP a)] []
def sk K n a:=Jl yW K n 9 [] [(mP a)] []
def QW K (a:LI):=Jt yW K (aI [none] (aE (.list (.int .i64)) a))
attribute [irreducible] CJ wL sk QW
def DL:CJ K b a=cond ((dD 0 (aCw .i64 ((aCx a.length)-1))&&dD (aCw .i64 ((aCx a.length)-1)) (aCx a.length))) (sk K b (a.take (aCw .i64 ((aCx a.length)-1)).toNat)) (none):=af
def DZ:wL K a=some a:=af
def DK:sk K (k+1) a=cond ((bZ 0 (aCx a.length))) ((dW a (aCw .i64 ((aCx a.length)-1))).bind λb=>cond ((Int.same b 0)) (CJ K k a) (wL K a)) (wL K a):=by rw [<-B.e K (CJ K k),<-B.e K (wL K)];kernel_rfl
def agn:QW K a=sk K K a:=by rw [<-B.e K (sk K K)];kernel_rfl
def kW:=Fa (E0.fn 166) [4] [] []
def aO:=Fa (E0.fn 206) [11,0,11,0,11] [] []
def dP:Fx (Int):=⟨[],[(166,kW),(206,aO)],Fa (E0.fn 201) [16,25,262168,0,16,16] [] [],aJ [none] (.int .i64) some⟩
def apT:=(⟨33,[(3,(.ptr 0 0)),(4,(.ptr 1 0)),(18,(.func 206 [] [(.ptr 2 0)]))]⟩:LF)
def an2 a b c d:=(⟨⟨19,[(0,(.yield 3)),(1,(.ptr 2 0)),(3,(vi a))]⟩,[apT,⟨1,[(0,(.yield 3))]⟩,⟨0,[]⟩],[some (.cells [(mP b)]),some (.cells [(vi c)]),some (.cells [(mP d)]),some (.loop .ready none apT [19,20] (Jn dP 275) (Jn dP 403))]⟩:St)
def atF K:=(k5 0 (eF aO (YX (k5 0 (vQ (Rx dP K (Jn dP 27)) (eF dP.F (aJ [none] (.int .i64) some)))))):KL (Int))
def ai6:=(iI (lpc (nd 99 aO.body 5)):St->(St->Option (Int))->Option (Int))
def atW a K:=(J8 ai6 (rb a (Rn dP.s dP.l K 11 (nd 99 aO.body 9)) ai6) (atF K):KL (Int))
def zD (K a:Nat) (b:Int) (c:LI) (d:Int) (f:LI):=Rn dP.s dP.l K 11 (nd 99 aO.body 169) (an2 b c d f) (atW a K)
def zV (K a:Nat) (b:Int) (c:LI) (d:Int) (f:LI):=Rn dP.s dP.l K 11 (nd 99 aO.body 41) (an2 b c d f) (atW a K)
def zm K a:=J dP K 43 [] [(.ptr 1 0)] [none,some (.cells [(vi a)])]
def lB (K n:Nat) (a:Int) (b:LI) (c:Int) (d:LI):=rb n (Rn dP.s dP.l K 11 (nd 99 aO.body 9)) ai6 (an2 a b c d) (atF K)
def Al K a b c:=J dP K 147 [] [(.ptr 0 0),(.ptr 1 0),(.func 206 [] [(.ptr 2 0)])] [some (.cells [(mP a)]),some (.cells [(vi b)]),some (.cells [(mP c)])]
def zd K a b c:=J dP K 11 [] [(mP a),(.ptr 0 0),(.ptr 1 0)] [some (.cells [(mP b)]),some (.cells [(vi c)])]
def N7 K (a:LI) (b:LI):=Jt dP K (aI [none,none] (aE (.pair (.list (.int .i64)) (.list (.int .i64))) (a,b)))
attribute [irreducible] zD zV zm lB Al zd N7
def Ku:zD K a b c d f=lB K a (aCw .i64 (b-1)) c d f:=af
def Kz:zV K c a b h d=(dW d a).bind λf=>(dW b a).bind λj=>cond ((!(Int.same f j))) ((dW b a).bind λk=>some (aCw .i64 (f-k))) (zD K c a b h d):=by rw [<-B.e K (zD K c)];kernel_rfl
def Yd:zm K a=some 0:=af
def Jz:lB K (k+1) a c b d=cond ((dD 0 a)) (zV K k a c b d) (zm K b):=by rw [<-B.e K (zV K k),<-B.e K (zm K)];kernel_rfl
def Xl:Al K b c a=lB K K (aCw .i64 ((aCx a.length)-1)) b c a:=by rw [<-B.e K (lB K K)];kernel_rfl
def WR:zd K a b c=Al K b c a:=by rw [<-B.e K (Al K)];kernel_rfl
def aev:N7 K a b=cond ((!(Int.same (aCx a.length) (aCx b.length)))) (some (aCw .i64 ((aCx a.length)-(aCx b.length)))) (zd K a b 0):=by rw [<-B.e K (zd K)];kernel_rfl
def mO:Fx (LI):=⟨[(198,sa)],[],Fa (E0.fn 277) [3,3145827,32,3145827,3145955,3145955,3145827,32,16] [] [],aJ [none] (.list (.int .i64)) some⟩
def FL a:=([some (.seq (.int .i64) a)]:List (Option LB))
def ZP a b c d f:=([(mP a),(mP b),(.own 0),(vi c),(vi d),(vi f)]:List LV)
def Cc K a b c d f h (j:LI):=J mO K 11051 [a] (ZP b c d f h) (FL j)
def aiu a b c d f h:=([(mP a),(mP b),(.own 0),(vi c),(vi d),(vi f),(vi h)]:List LV)
def rR K a b c d f h j (k:LI):=J mO K 353067 [a] (aiu b c d f h j) (FL k)
def sw K a b c d f h j (k:LI):=J mO K 90923 [a] (aiu b c d f h j) (FL k)
def wU K a b c d f h (j:LI):=J mO K 2859 [a] (ZP b c d f h) (FL j)
def wX K (a:LI):=J mO K 91 [] [(.own 0)] (FL a)
def jH K n a b c d f (h:LI):=Jl mO K n 171 [] (ZP a b c d f) (FL h)
def rW K a b:=J mO K 11 [] [(mP a),(mP b)] []
def Qr K (a:LI) (b:LI):=Jt mO K (aI [none,none] (aE (.pair (.list (.int .i64)) (.list (.int .i64))) (a,b)))
attribute [irreducible] Cc rR sw wU wX jH rW Qr
def ZJ:Cc K a b c d f h j=jH K a b c d f (aCw .i64 (h+1)) j:=af
def Yt:rR K a f h b c j k d=cond (C4 c d.length) (Cc K a f h (aCw .i64 (aCG b 1000000000)) j k (d.set c.toNat (aCC b 1000000000))) (none):=by rw [<-B.e K (Cc K a)];kernel_rfl
def Yo:sw K c d a f b h j k=cond ((bZ b (aCx a.length))) ((dW a b).bind λl=>rR K c d a (aCw .i64 (f+l)) b h j k) (rR K c d a f b h j k):=by rw [<-B.e K (rR K c)];kernel_rfl
def ZR:wU K c b d f h a j=cond ((bZ a (aCx b.length))) ((dW b a).bind λk=>sw K c b d (aCw .i64 (f+k)) a h a j) (sw K c b d f a h a j):=by rw [<-B.e K (sw K c)];kernel_rfl
def Zi:wX K a=cond (cf a) (some (eO a)) (none):=af
def LD:jH K (k+1) d f h a b c=cond ((bZ b a)) (wU K k d f h a b c) (wX K c):=by rw [<-B.e K (wU K k),<-B.e K (wX K)];kernel_rfl
def Z9:rW K a b=cond ((((Int.same (aCw .i64 ((aCx a.length)+1)) (aCw .i64 ((aCx a.length)+1)))&&(dD 0 (aCw .i64 ((aCx a.length)+1))))&&(fits ((aCw .i64 ((aCx a.length)+1)).toNat) 8))) (jH K K a b 0 (aCx (aCE ((aCw .i64 ((aCx a.length)+1)).toNat) 0:LI).length) 0 (aCE ((aCw .i64 ((aCx a.length)+1)).toNat) 0:LI)) (none):=by rw [<-B.e K (jH K K)];kernel_rfl
def TU:Qr K a b=cond ((bZ (aCx a.length) (aCx b.length))) (rW K b a) (rW K a b):=by rw [<-B.e K (rW K)];kernel_rfl
def na:Fx (LI):=⟨[(198,sa)],[],Fa (E0.fn 280) [24675,32,24675,24995,25059,24675,32,16] [] [],aJ [none] (.list (.int .i64)) some⟩
def zR K a b c d f h (j:LI):=J na K 2763 [a] (ZP b c d f h) (FL j)
def qf K a b c d f h j k (l:LI):=J na K 374987 [a] [(mP b),(mP c),(.own 0),(vi d),(vi f),(vi h),(vi j),(vi k)] (FL l)
def qe K a b c d f h j (k:LI):=J na K 47307 [a] (aiu b c d f h j) (FL k)
def tK K a b c d f h (j:LI):=J na K 715 [a] (ZP b c d f h) (FL j)
def tu K (a:LI):=J na K 23 [] [(.own 0)] (FL a)
def iU K n a b c d f (h:LI):=Jl na K n 43 [] (ZP a b c d f) (FL h)
def Od K (a:LI) (b:LI):=Jt na K (aI [none,none] (aE (.pair (.list (.int .i64)) (.list (.int .i64))) (a,b)))
attribute [irreducible] zR qf qe tK tu iU Od
def VP:zR K a b c d f h j=iU K a b c d f (aCw .i64 (h+1)) j:=af
def Xm:qf K a d f h b j k l c=cond (C4 b c.length) (zR K a d f h k l (c.set b.toNat j)) (none):=by rw [<-B.e K (zR K a)];kernel_rfl
def VK:qe K a c d f b h j k=cond ((bZ b 0)) (qf K a c d 1 f (aCw .i64 (b+1000000000)) h j k) (qf K a c d 0 f b h j k):=by rw [<-B.e K (qf K a)];kernel_rfl
def Xq:tK K c d b f h a j=(dW d a).bind λk=>cond ((bZ a (aCx b.length))) ((dW b a).bind λl=>qe K c d b a (aCw .i64 ((aCw .i64 (k-f))-l)) h a j) (qe K c d b a (aCw .i64 (k-f)) h a j):=by rw [<-B.e K (qe K c)];kernel_rfl
def V9:tu K a=cond (cf a) (some (eO a)) (none):=af
def JJ:iU K (k+1) d f h a b c=cond ((bZ b a)) (tK K k d f h a b c) (tu K c):=by rw [<-B.e K (tK K k),<-B.e K (tu K)];kernel_rfl
def ad1:Od K a b=cond ((((Int.same (aCx a.length) (aCx a.length))&&(dD 0 (aCx a.length)))&&(fits ((aCx a.length).toNat) 8))) (iU K K a b 0 (aCx (aCE ((aCx a.length).toNat) 0:LI).length) 0 (aCE ((aCx a.length).toNat) 0:LI)) (none):=by rw [<-B.e K (iU K K)];kernel_rfl
def eh:Fx ((LI×Int)):=⟨[(198,sa)],[(166,kW),(206,aO)],Fa (E0.fn 202) [16584,192,48] [] [],aJ [none,none] (.pair (.list (.int .i64)) (.int .i64)) some⟩
def at5:=(⟨33,[(3,(.ptr 0 0)),(6,(.ptr 2 0)),(7,(.ptr 3 0)),(14,(.func 206 [] [(.ptr 4 0)]))]⟩:LF)
def aok a b c d f:=(⟨⟨19,[(0,(.yield 5)),(1,(.ptr 4 0)),(3,(vi a))]⟩,[at5,⟨1,[(0,(.yield 5))]⟩,⟨0,[]⟩],[some (.cells [(vi b)]),some (.seq (.int .i64) c),some (.cells [(.own 1)]),some (.cells [(vi d)]),some (.cells [(mP f)]),some (.loop .ready none at5 [15,16] (Jn eh 139) (Jn eh 203))]⟩:St)
def asV K:=(k5 0 (eF aO (YX (k5 0 (vQ (Rx eh K (Jn eh 15)) (eF eh.F (aJ [none,none] (.pair (.list (.int .i64)) (.int .i64)) some)))))):KL ((LI×Int)))
def ave a K:=(J8 (iI (lpc (nd 99 aO.body 5))) (rb a (Rn eh.s eh.l K 11 (nd 99 aO.body 9)) (iI (lpc (nd 99 aO.body 5)))) (asV K):KL ((LI×Int)))
def z6 (K a:Nat) (b c:Int) (d:LI) (f:Int) (h:LI):=Rn eh.s eh.l K 11 (nd 99 aO.body 169) (aok b c d f h) (ave a K)
def zQ (K a:Nat) (b c:Int) (d:LI) (f:Int) (h:LI):=Rn eh.s eh.l K 11 (nd 99 aO.body 41) (aok b c d f h) (ave a K)
def tG K (a:LI) b:=J eh K 23 [] [(.ptr 2 0),(.ptr 3 0)] [none,some (.seq (.int .i64) a),some (.cells [(.own 1)]),some (.cells [(vi b)])]
def lH (K n:Nat) (a b:Int) (c:LI) (d:Int) (f:LI):=rb n (Rn eh.s eh.l K 11 (nd 99 aO.body 9)) (iI (lpc (nd 99 aO.body 5))) (aok a b c d f) (asV K)
def zq K a (b:LI) c d:=J eh K 75 [] [(.ptr 0 0),(.ptr 2 0),(.ptr 3 0),(.func 206 [] [(.ptr 4 0)])] [some (.cells [(vi a)]),some (.seq (.int .i64) b),some (.cells [(.own 1)]),some (.cells [(vi c)]),some (.cells [(mP d)])]
def Nz K (a:LI) (b:Int):=Jt eh K (aI [none,none] (aE (.pair (.list (.int .i64)) (.int .i64)) (a,b)))
attribute [irreducible] z6 zQ tG lH zq Nz
def X2:z6 K a b c d f h=lH K a (aCw .i64 (b-1)) c d f h:=af
def XZ:zQ K c b a d f h=(dW h b).bind λj=>cond (Int.same a 0) (none) (cond (C4 b d.length) (cond (Int.same a 0) (none) (z6 K c b a (d.set b.toNat (aCw .i64 (aCG (aCw .i64 ((aCw .i64 (f*1000000000))+j)) a))) (aCC (aCw .i64 ((aCw .i64 (f*1000000000))+j)) a) h)) (none)):=by rw [<-B.e K (z6 K c)];kernel_rfl
def VV:tG K a b=cond (cf a) (some ((eO a),b)) (none):=af
def Kk:lH K (k+1) a d b c f=cond ((dD 0 a)) (zQ K k a d b c f) (tG K b c):=by rw [<-B.e K (zQ K k),<-B.e K (tG K)];kernel_rfl
def Wf:zq K b c d a=lH K K (aCw .i64 ((aCx a.length)-1)) b c d a:=by rw [<-B.e K (lH K K)];kernel_rfl
def aeU:Nz K a b=cond ((((Int.same (aCx a.length) (aCx a.length))&&(dD 0 (aCx a.length)))&&(fits ((aCx a.length).toNat) 8))) (zq K b (aCE ((aCx a.length).toNat) 0:LI) 0 a) (none):=by rw [<-B.e K (zq K)];kernel_rfl
def La:Fx (Int):=⟨[],[],Fa (E0.fn 270) [4,4,0,4] [] [],aJ [none] (.int .i64) some⟩
def Ch K:=J La K 11 [] [] []
def Rm K (a:Bool×LI):=Jt La K (aI [some 2] (aE (.pair .bool (.list (.int .i64))) a))
attribute [irreducible] Ch Rm
def Z8:Ch K=some 1:=af
def Tt:Rm K a=cond ((Int.same (aCx a.2.length) 0)) (some 0) (cond (a.1) (some (-1)) (Ch K)):=by rw [<-B.e K (Ch K)];kernel_rfl
def M4:Fx ((Bool×LI)):=⟨[],[],Fa (E0.fn 253) [4] [] [],aJ [some 2] (.pair .bool (.list (.int .i64))) some⟩
def Jc K (a:Bool×LI):=Jt M4 K (aI [some 2] (aE (.pair .bool (.list (.int .i64))) a))
attribute [irreducible] Jc
def Zd:Jc K a=some ((!a.1),a.2):=af
def C3:Fx (Bool):=⟨[],[],Fa (E0.fn 278) [16] [] [],aJ [none] .bool some⟩
def yJ K (a:Bool×LI) (b:Bool×LI):=Jt C3 K (aI [some 2,some 2] (aE (.pair (.pair .bool (.list (.int .i64))) (.pair .bool (.list (.int .i64)))) (a,b)))
attribute [irreducible] yJ
def PO:yJ K a b=some a.1:=af
def C5:Fx (Bool):=⟨[(201,zH)],[],Fa (E0.fn 281) [16] [] [],aJ [none] .bool some⟩
def yM K (a:Bool×LI) (b:Bool×LI):=Jt C5 K (aI [some 2,some 2] (aE (.pair (.pair .bool (.list (.int .i64))) (.pair .bool (.list (.int .i64)))) (a,b)))
attribute [irreducible] yM
def PD:yM K a b=cond (eW (a.2,b.2)) (some (!((bZ (kY (a.2,b.2)) 0)==a.1))) (none):=af
def uo:Fx (LI):=⟨[(201,zH),(280,FW)],[],Fa (E0.fn 279) [3,16] [] [],aJ [none] (.list (.int .i64)) some⟩
def iY K a b:=J uo K 11 [] [(mP a),(mP b)] []
def yG K (a:LI) (b:LI):=Jt uo K (aI [none,none] (aE (.pair (.list (.int .i64)) (.list (.int .i64))) (a,b)))
attribute [irreducible] iY yG
def KW:iY K a b=cond (fH (a,b)) (some (qK (a,b))) (none):=af
def Pt:yG K a b=cond (eW (a,b)) (cond ((bZ (kY (a,b)) 0)) (iY K b a) (iY K a b)) (none):=by rw [<-B.e K (iY K)];kernel_rfl
def QE:=Fa (E0.fn 269) [1] [] []
def NK:Fx ((Bool×LI)):=⟨[(277,HE),(278,Cy),(279,B2),(281,BK)],[(269,QE)],Fa (E0.fn 252) [60,16] [] [],aJ [some 2] (.pair .bool (.list (.int .i64))) some⟩
def yY K a b c d f h:=J NK K 23 [] [(.ptr 0 0),(.ptr 1 0),(.ptr 2 0),(vi a)] [some (.cells [(vb b),(mP c)]),some (.cells [(vb d),(mP f)]),some (.cells [(vb h),.nil])]
def T3 K (a:Bool×LI) (b:Bool×LI):=Jt NK K (aI [some 2,some 2] (aE (.pair (.pair .bool (.list (.int .i64))) (.pair .bool (.list (.int .i64)))) (a,b)))
attribute [irreducible] yY T3
def Pk:yY K f c a d b h=cond ((Int.same f 0)) (cond (kN ((c,a),(d,b))) (cond (jY (a,b)) (some ((qX ((c,a),(d,b))),(j9 (a,b)))) (none)) (none)) (cond ((Int.same f 1)) (cond (kB ((c,a),(d,b))) (cond (iA (a,b)) (some ((gN ((c,a),(d,b))),(gK (a,b)))) (none)) (none)) (none)):=af
def ai8:T3 K a b=cond ((!(a.1==b.1))) (yY K 1 a.1 a.2 b.1 b.2 false) (yY K 0 a.1 a.2 b.1 b.2 false):=by rw [<-B.e K (yY K)];kernel_rfl
end
end Ls.oz
namespace Ls.cU
open dC
open Ls.Lf
open Go
set_option autoImplicit true
set_option relaxedAutoImplicit true
noncomputable section
def Gg:Fx ((BS×Bool)):=⟨[(189,pV)],[],Fa (E0.fn 157) [48] [] [],aJ [none,none] (.pair .str .bool) some⟩
def CE K (a:BS) (b:BS):=Jt Gg K (aI [none,none] (aE (.pair .str .str) (a,b)))
attribute [irreducible] CE
def SE:CE K a b=cond (fv (a,b)) (some ((eL (a,b)).1,(eL (a,b)).2)) (none):=af
def Fc:Fx (BS):=⟨[(128,oX)],[],Fa (E0.fn 87) [16] [] [],aJ [none] .str some⟩
def AG K (a:BS) (b:BS):=Jt Fc K (aI [none,none] (aE (.pair .str .str) (a,b)))
attribute [irreducible] AG
def Qp:AG K a b=cond (fc (a,b)) (some (fE (a,b))) (none):=af
def kI:Fx ((BS×Bool)):=⟨[(171,ko)],[],Fa (E0.fn 189) [48,3,48] [] [],aJ [none,none] (.pair .str .bool) some⟩
def gI K a b:=J kI K 11 [] [(vs a),(vs b)] []
def mz K (a:BS) (b:BS):=Jt kI K (aI [none,none] (aE (.pair .str .str) (a,b)))
attribute [irreducible] gI mz
def y4:gI K b a=cond ((dD 0 (aCx a.length)&&dD (aCx a.length) (aCx b.length))) (some ((b.drop (aCx a.length).toNat),true)) (none):=af
def CQ:mz K a b=cond (dz (a,b)) (cond ((!(di (a,b)))) (some (a,false)) (gI K a b)) (none):=by rw [<-B.e K (gI K)];kernel_rfl
def kq:Fx (BS):=⟨[(171,ko)],[],Fa (E0.fn 128) [16,1,16] [] [],aJ [none] .str some⟩
def gu K a:=J kq K 11 [] [(vs a)] []
def lJ K (a:BS) (b:BS):=Jt kq K (aI [none,none] (aE (.pair .str .str) (a,b)))
attribute [irreducible] gu lJ
def yB:gu K a=some a:=af
def A6:lJ K a b=cond (dz (a,b)) (cond ((di (a,b))) (cond ((dD 0 (aCx b.length)&&dD (aCx b.length) (aCx a.length))) (some (a.drop (aCx b.length).toNat)) (none)) (gu K a)) (none):=by rw [<-B.e K (gu K)];kernel_rfl
def ql:Fx (Bool):=⟨[],[],Fa (E0.fn 171) [16] [] [],aJ [none] .bool some⟩
def mD K (a:BS) (b:BS):=Jt ql K (aI [none,none] (aE (.pair .str .str) (a,b)))
attribute [irreducible] mD
def BW:mD K b a=cond ((dD (aCx a.length) (aCx b.length))) (cond ((dD 0 (aCx a.length)&&dD (aCx a.length) (aCx b.length))) (some (aD (b.take (aCx a.length).toNat) a)) (none)) (some false):=af
def UT:=Fa (E0.fn 243) [1024,1024,1024,1024,16,1024] [] []
def NP:=Fa (E0.fn 258) [16] [] []
def PR:=Fa (E0.fn 259) [16] [] []
def QA:=Fa (E0.fn 260) [64] [] []
def Me:=Fa (E0.fn 261) [64] [] []
def agi:=Fa (E0.fn 274) [4] [] []
def HU:Fx ((Int×Unit)):=⟨[(242,yT),(273,sH),(167,tk)],[(243,UT),(258,NP),(259,PR),(260,QA),(261,Me),(274,agi)],Fa (E0.fn 225) [12,16,12] [] [],aJ [none,none] (.pair (.int .i64) .CH) some⟩
def Ai K a:=J HU K 23 [] [(vi a)] []
def N9 K (a:BS):=Jt HU K (aI [none] (aE .str a))
attribute [irreducible] Ai N9
def VJ:Ai K a=some (a,()):=af
def aez:N9 K a=cond (gH a) (Ai K ((o5 a).1)) (none):=by rw [<-B.e K (Ai K)];kernel_rfl
def dK:Fx ((Int×Unit)):=⟨[(257,tI)],[],Fa (E0.fn 242) [12,33,985162418487392,96,985162418487392,12,985162418487648,985162418487392,96,64,12,1,12] [] [],aJ [none,none] (.pair (.int .i64) .CH) some⟩
def XT a:=([some (.seq (.int .u8) a)]:List (Option LB))
def mM K a b c d f (h:LI):=J dK K 353643 [a] [(vs b),(vi c),(.own 0),(vi d),(vi f)] (XT h)
def mN K a b c d f h (j:LI):=J dK K 6055275 [a] [(vs b),(vi c),(vy d),(.own 0),(vi f),(vi h)] (XT j)
def mF K a b c d f (h:LI):=J dK K 91499 [a] [(vs b),(vi c),(.own 0),(vi d),(vi f)] (XT h)
def jf K a:=J dK K 11115 [] [(vi a)] []
def jL K a b:=J dK K 2923 [] [(vs a),(vi b)] []
def eJ K n a b c d (f:LI):=Jl dK K n 5483 [] [(vs a),(vi b),(.own 0),(vi c),(vi d)] (XT f)
def gL K a b:=J dK K 363 [] [(vs a),(vs b)] []
def je K a:=J dK K 23 [] [(vs a)] []
def uf K (a:BS):=Jt dK K (aI [none] (aE .str a))
attribute [irreducible] mM mN mF jf jL eJ gL je uf
def I5:mM K a b c d f h=eJ K a b c d (aCw .i64 (f+1)) h:=af
def HK:mN K a b c d f h j=mM K a b (aCw .i64 ((aCw .i64 (c*10))+(aCw .i64 d))) f h j:=by rw [<-B.e K (mM K a)];kernel_rfl
def Iw:mF K c f h j a b=cond (C4 a b.length) ((b[a.toNat]?).bind λd=>cond ((bZ 9 (aCw .u8 (d-48)))) (none) (mN K c f h (aCw .u8 (d-48)) j a b)) (none):=by rw [<-B.e K (mN K c)];kernel_rfl
def Hg:jf K a=some (a,()):=af
def IV:jL K b a=(dW b 0).bind λc=>cond ((Int.same (dB c) 45)) (jf K (aCw .i64 (0-a))) (jf K a):=by rw [<-B.e K (jf K)];kernel_rfl
def wG:eJ K (k+1) a b c d f=cond ((bZ d c)) (mF K k a b c d f) (jL K a b):=by rw [<-B.e K (mF K k),<-B.e K (jL K)];kernel_rfl
def Hy:gL K a b=eJ K K b 0 (aCx (dO a).length) 0 (dO a):=by rw [<-B.e K (eJ K K)];kernel_rfl
def GF:je K a=cond (qG (a,(10,0))) (some ((mj (a,(10,0))).1,(mj (a,(10,0))).2)) (none):=af
def MM:uf K a=cond ((bZ 0 (aCx a.length))) (cond ((bZ (aCx a.length) 19)) ((dW a 0).bind λc=>cond ((Int.same (dB c) 45)) (cond (dD 1 (aCx a.length)) (cond ((bZ (aCx (a.drop 1).length) 1)) (none) (gL K (a.drop 1) a)) (none)) ((dW a 0).bind λb=>cond ((Int.same (dB b) 43)) (cond (dD 1 (aCx a.length)) (cond ((bZ (aCx (a.drop 1).length) 1)) (none) (gL K (a.drop 1) a)) (none)) (gL K a a))) (je K a)) (je K a):=by rw [<-B.e K (gL K),<-B.e K (je K)];kernel_rfl
def jE:=Fa (E0.fn 198) [1,1,1,1,4] [(0,[(0,none,.part (.int .i64))])] []
def cj:Fx ((LI×Int)):=⟨[],[(198,jE)],Fa (E0.fn 203) [917538,32,917538,118358498,917858,118358498,917858,917538,32,16] [] [],acE (.int .i64) some⟩
def Fl a:=([some (.seq (.int .i64) a)]:List (Option LB))
def zr K b c d f h j k l n p q r (a:LI):=J cj K 1464523 [b,c] [(mP d),(.own 0),(vi f),(vi h),(vi j),(mP k),(vi l),(vi n),(mP p),(vi q),(vi r)] (Fl a)
def zC K a b c d f (h:LI):=J cj K 2763 [a] [(mP b),(.own 0),(mP c),(vi d),(vi f)] (Fl h)
def tl K a b c d f h j (k:LI):=J cj K 47307 [a] [(mP b),(.own 0),(vi c),(vi d),(mP f),(vi h),(vi j)] (Fl k)
def lF K b n c d f h j k l p q r (a:LI):=Jl cj K n 88267 [b] [(mP c),(.own 0),(vi d),(vi f),(vi h),(mP j),(vi k),(vi l),(mP p),(vi q),(vi r)] (Fl a)
def Af K a b c d f (h:LI):=J cj K 715 [a] [(mP b),(.own 0),(mP c),(vi d),(vi f)] (Fl h)
def akk K:=(eF jE (λv b=>re b (some 62) v λa=>Fg (tA (Tm cj.s) (lkL cj.l) K 12) [] (aCI 2 (rgn (Jn cj 39))) a (okK (vQ (Rx cj K (Jn cj 55)) (eF cj.F (acE (.int .i64) some))))):KL ((LI×Int)))
def j4:=(⟨0,[]⟩:LF)
def aeI a b c:=(⟨⟨21,[(0,(.part 0 a b))]⟩,[⟨63,[(61,(.own 0)),(5,(.own 0))]⟩,j4],(Fl c)⟩:St)
def als K:=(k5 0 (vQ (Rn cj.s cj.l K 11 (nd 99 jE.body 7)) (akk K)):KL ((LI×Int)))
def xJ (K a:Nat) (b c:Int) (d:LI):=Rn cj.s cj.l K 11 (nd 99 jE.body 81) (aeI b c d) (J8 (iI (lpc (nd 99 jE.body 9))) (rb a (Rn cj.s cj.l K 11 (nd 99 jE.body 17)) (iI (lpc (nd 99 jE.body 9)))) (als K))
def sv (K:Nat) (a b:Int) (c:LI):=Rn cj.s cj.l K 11 (nd 99 jE.body 11) (aeI a b c) (akk K)
def mi (K n:Nat) (a b:Int) (c:LI):=rb n (Rn cj.s cj.l K 11 (nd 99 jE.body 17)) (iI (lpc (nd 99 jE.body 9))) (aeI a b c) (als K)
def rZ K (a:LI):=J cj K 23 [] [(.own 0)] (Fl a)
def jR K n a b c d (f:LI):=Jl cj K n 43 [] [(mP a),(.own 0),(mP b),(vi c),(vi d)] (Fl f)
def Gz K (a:LI) (b:LI):=Jt cj K (aI [none,none] (aE (.pair (.list (.int .i64)) (.list (.int .i64))) (a,b)))
attribute [irreducible] zr zC tl lF Af xJ sv mi rZ jR Gz
def W5:zr K l n p c d f q r s h t b a=(dW h b).bind λj=>cond (C4 (aCw .i64 (c+b)) a.length) ((a[(aCw .i64 (c+b)).toNat]?).bind λk=>cond (C4 (aCw .i64 (c+b)) a.length) (lF K l n p c d (aCw .i64 (aCG (aCw .i64 (f+(aCw .i64 (k+(aCw .i64 (d*j)))))) 1000000000)) q r s h t (aCw .i64 (b+1)) (a.set (aCw .i64 (c+b)).toNat (aCC (aCw .i64 (f+(aCw .i64 (k+(aCw .i64 (d*j)))))) 1000000000))) (none)) (none):=af
def XU:zC K a b c d f h=jR K a b c d (aCw .i64 (f+1)) h:=af
def VY:tl K b a c f h j k d=cond (C4 (aCw .i64 (c+(aCx a.length))) d.length) (zC K b a h j k (d.set (aCw .i64 (c+(aCx a.length))).toNat f)) (none):=by rw [<-B.e K (zC K b)];kernel_rfl
def Kd:lF K b (k+1) c d q f h j l r n p a=cond ((bZ p n)) (zr K b k c d q f h j l r n p a) (tl K b c d f h j l a):=by rw [<-B.e K (zr K b k),<-B.e K (tl K b)];kernel_rfl
def XX:Af K c a d f b h=(dW d b).bind λj=>lF K c K a b j 0 d f b a (aCx a.length) 0 h:=by rw [<-B.e K (lF K c K)];kernel_rfl
def IK:xJ K b c a d=cond ((dD 0 (aCw .i64 (a-1))&&dD (aCw .i64 (a-1)) a)) (mi K b (c+0) ((aCw .i64 (a-1))-0) d) (none):=af
def Ic:sv K a b c=cond (Int.same a 0) (some (c,b)) (none):=af
def HA:mi K (k+1) b a c=cond ((bZ 0 a)) (cond (((dD 0 (aCw .i64 (a-1)))&&(bZ (aCw .i64 (a-1)) a))) ((c[(b+(aCw .i64 (a-1))).toNat]?).bind λd=>cond ((Int.same d 0)) (xJ K k b a c) (sv K b a c)) (none)) (sv K b a c):=by rw [<-B.e K (xJ K k),<-B.e K (sv K)];kernel_rfl
def Vs:rZ K a=mi K K 0 (aCx a.length) a:=by rw [<-B.e K (mi K K)];kernel_rfl
def JS:jR K (k+1) d f a b c=cond ((bZ b a)) (Af K k d f a b c) (rZ K c):=by rw [<-B.e K (Af K k),<-B.e K (rZ K)];kernel_rfl
def aeD:Gz K a b=cond ((((Int.same (aCw .i64 ((aCx a.length)+(aCx b.length))) (aCw .i64 ((aCx a.length)+(aCx b.length))))&&(dD 0 (aCw .i64 ((aCx a.length)+(aCx b.length)))))&&(fits ((aCw .i64 ((aCx a.length)+(aCx b.length))).toNat) 8))) (jR K K b a (aCx a.length) 0 (aCE ((aCw .i64 ((aCx a.length)+(aCx b.length))).toNat) 0:LI)) (none):=by rw [<-B.e K (jR K K)];kernel_rfl
def abR {E:Env} (c:ab6 E cj.s) (d:abE E cj.l) (k:eD E 203 cj.F.erase) (f: ∀a b,eB (a,b)=true-> ∃K,Gz K a b=some (cw (a,b))):aN E 203 zj:=
 aqH (amn c d) k λx j=>let⟨K,h⟩:=f x.1 x.2 j;⟨K,12,Eq.trans af h⟩
def Na:Fx ((Bool×LI)):=⟨[(203,zj)],[],Fa (E0.fn 267) [16] [] [],aJ [some 2] (.pair .bool (.list (.int .i64))) some⟩
def Ij K (a:Bool×LI) (b:Bool×LI):=Jt Na K (aI [some 2,some 2] (aE (.pair (.pair .bool (.list (.int .i64))) (.pair .bool (.list (.int .i64)))) (a,b)))
attribute [irreducible] Ij
def Yj:Ij K a b=cond (eB (a.2,b.2)) (some ((!(a.1==b.1)),(((cw (a.2,b.2)).1.drop (0)).take ((cw (a.2,b.2)).2.toNat)))) (none):=af
def cu:=Fa (E0.fn 204) [419,163,419,163,906694364710971881030307,128,906694364710971881030307,906694364710971881031331,906694364710971881030307,128,16] [] []
def dk:=Fa (E0.fn 226) [6279,128,6279,6535,7047,6279,128,64] [] []
def aA:Fx ((LI×LI)):=⟨[(201,zH),(202,OS),(198,sa),(203,zj)],[(204,cu),(226,dk)],Fa (E0.fn 164) [48,3,48,3,1793,1792,1793,1792,16128,4864,16128,4864,48] [] [],aJ [none,none] (.pair (.list (.int .i64)) (.list (.int .i64))) some⟩
def adT a b:=([none,some (.seq (.int .i64) a),none,some (.seq (.int .i64) b)]:List (Option LB))
def xI K a b c (d:Int) (f:Int) (h:Int) (j:Int) (k:LI) (l:LI):=J aA K 5227 [a] [(mP b),(mP c),(.part 1 d f),(.part 3 h j)] (adT k l)
def acG K b:=(eF cu (λv c=>re c (some 87) v λa=>Fg (tA (Tm aA.s) (lkL aA.l) K 12) [] (aCI 11 (rgn (Jn aA 562923))) a (okK (k5 3 (vQ (Rx aA K (Jn aA 431851)) (J8 (iI (lpc (Jn aA 22251))) (rb b (Rx aA K (Jn aA 38635)) (iI (lpc (Jn aA 22251)))) (k5 2 (vQ (Rx aA K (Jn aA 7915)) (eF aA.F (aJ [none,none] (.pair (.list (.int .i64)) (.list (.int .i64))) some))))))))):KL ((LI×LI)))
def uN v w x a b c d f h j k l n p q r s t u:=(⟨101,[(86,(.part 3 v w)),(85,(.part 1 x a)),(84,(vi b)),(83,(vi c)),(82,(vi d)),(81,(vi f)),(80,(vi h)),(79,(.part 1 j k)),(78,(vi l)),(77,(.own 4)),(8,(mP n)),(9,(.part 1 p q)),(10,(.part 3 r s)),(11,(vi t)),(12,(.own 4)),(13,(vi u))]⟩:LF)
def rL a b c:=([none,some (.seq (.int .i64) a),none,some (.seq (.int .i64) b),some (.seq (.int .i64) c)]:List (Option LB))
def alz K a:=(k5 0 (vQ (Rn aA.s aA.l K 11 (nd 99 cu.body 63)) (acG K a)):KL ((LI×LI)))
def adO:=(iI (lpc (nd 99 cu.body 175)):St->(St->Option ((LI×LI)))->Option ((LI×LI)))
def ny (K D a:Nat) (E F G H I L M N O P b c d f h j k n p:Int) (q:LI) (r t u v w x:Int) (y z A:LI):=Rn aA.s aA.l K 11 (nd 99 cu.body 1327) ⟨⟨106,[(0,(.part 1 E F)),(1,(.part 3 G H)),(5,(vi I)),(7,(vi L)),(8,(vi M))]⟩,[(uN N O P b c d f h j k n p q r t u v w x),j4],(rL y z A)⟩ (J8 adO (rb a (Rn aA.s aA.l K 11 (nd 99 cu.body 303)) adO) (alz K D))
def adX K a:=(vQ (Rn aA.s aA.l K 11 (nd 99 cu.body 223)) (acG K a):KL ((LI×LI)))
def aqo K b:=(eF dk (λv c=>re c (some 73) v λa=>Fg (tA (Tm aA.s) (lkL aA.l) K 11) [] (aCI 4 (rgn (nd 99 cu.body 287))) a (okK (vQ (Rn aA.s aA.l K 11 (nd 99 cu.body 415)) (adX K b)))):KL ((LI×LI)))
def akp K a:=(k5 0 (vQ (Rn aA.s aA.l K 10 (nd 99 dk.body 15)) (aqo K a)):KL ((LI×LI)))
def acv a K b:=(J8 (iI (lpc (nd 99 dk.body 43))) (rb a (Rn aA.s aA.l K 10 (nd 99 dk.body 75)) (iI (lpc (nd 99 dk.body 43)))) (akp K b):KL ((LI×LI)))
def MH n p a b c d f h j k l:=(⟨106,[(72,(vi n)),(71,(.part 3 p a)),(70,(.part 1 b c)),(0,(.part 1 d f)),(1,(.part 3 h j)),(5,(vi k)),(7,(vi l))]⟩:LF)
def afu a b c d f h j k:=(⟨49,[(0,(.part 1 a b)),(1,(.part 3 c d)),(2,(vi f)),(7,(vi h)),(11,(vi j)),(12,(vi k))]⟩:LF)
def uB (K R a:Nat) (S T U V W Y Z x7 x8 x9 b c d f h j k n p q r t u v w x y z A D E:Int) (F:LI) (G H I L M N:Int) (O P Q:LI):=Rn aA.s aA.l K 10 (nd 99 dk.body 2763) ⟨(afu S T U V W Y Z x7),[(MH x8 x9 b c d f h j k n p),(uN q r t u v w x y z A D E F G H I L M N),j4],(rL O P Q)⟩ (acv a K R)
def ns (K T a:Nat) (U V W Y Z x5 x6 x7 x8 x9 b c d f h j k n p q r t u v w x y z A D E F G:Int) (H:LI) (I L M N O P:Int) (Q R S:LI):=Rn aA.s aA.l K 10 (nd 99 dk.body 383179) ⟨⟨49,[(0,(.part 1 U V)),(1,(.part 3 W Y)),(2,(vi Z)),(7,(vi x5)),(8,(vi x6)),(9,(vi x7)),(11,(vi x8)),(12,(vi x9))]⟩,[(MH b c d f h j k n p q r),(uN t u v w x y z A D E F G H I L M N O P),j4],(rL Q R S)⟩ (k5 1 (vQ (Rn aA.s aA.l K 10 (nd 99 dk.body 1739)) (acv a K T)))
def kA (K S a:Nat) (T U V W Y Z x6 x7 x8 x9 b c d f h j k n p q r t u v w x y z A D E F:Int) (G:LI) (H I L M N O:Int) (P Q R:LI):=Rn aA.s aA.l K 10 (nd 99 dk.body 22731) ⟨⟨49,[(0,(.part 1 T U)),(1,(.part 3 V W)),(2,(vi Y)),(7,(vi Z)),(8,(vi x6)),(11,(vi x7)),(12,(vi x8))]⟩,[(MH x9 b c d f h j k n p q),(uN r t u v w x y z A D E F G H I L M N O),j4],(rL P Q R)⟩ (k5 1 (vQ (Rn aA.s aA.l K 10 (nd 99 dk.body 1739)) (acv a K S)))
def qC (K R a:Nat) (S T U V W Y Z x7 x8 x9 b c d f h j k n p q r t u v w x y z A D E:Int) (F:LI) (G H I L M N:Int) (O P Q:LI):=Rn aA.s aA.l K 10 (nd 99 dk.body 715) ⟨(afu S T U V W Y Z x7),[(MH x8 x9 b c d f h j k n p),(uN q r t u v w x y z A D E F G H I L M N),j4],(rL O P Q)⟩ (acv a K R)
def ad6:=(iI (lpc (nd 99 cu.body 11935)):St->(St->Option ((LI×LI)))->Option ((LI×LI)))
def aew a K b:=(J8 ad6 (rb a (Rn aA.s aA.l K 11 (nd 99 cu.body 20127)) ad6) (k5 2 (adX K b)):KL ((LI×LI)))
def aeV a b c d f h j k l:=(⟨106,[(0,(.part 1 a b)),(1,(.part 3 c d)),(5,(vi f)),(7,(vi h)),(9,(vi j)),(78,(vi k)),(79,(vi l))]⟩:LF)
def uC (K F a:Nat) (G H I L M N O P Q R b c d f h j k n p q r:Int) (t:LI) (u v w x y z:Int) (A D E:LI):=Rn aA.s aA.l K 11 (nd 99 cu.body 708255) ⟨(aeV G H I L M N O P Q),[(uN R b c d f h j k n p q r t u v w x y z),j4],(rL A D E)⟩ (aew a K F)
def kK (K G a:Nat) (H I L M N O P Q R S b c d f h j k n p q r t:Int) (u:LI) (v w x y z A:Int) (D E F:LI):=Rn aA.s aA.l K 11 (nd 99 cu.body 12111519) ⟨⟨106,[(0,(.part 1 H I)),(1,(.part 3 L M)),(5,(vi N)),(7,(vi O)),(9,(vi P)),(10,(vi Q)),(78,(vi R)),(79,(vi S))]⟩,[(uN b c d f h j k n p q r t u v w x y z A),j4],(rL D E F)⟩ (k5 3 (vQ (Rn aA.s aA.l K 11 (nd 99 cu.body 446111)) (aew a K G)))
def qk (K F a:Nat) (G H I L M N O P Q R b c d f h j k n p q r:Int) (t:LI) (u v w x y z:Int) (A D E:LI):=Rn aA.s aA.l K 11 (nd 99 cu.body 183967) ⟨(aeV G H I L M N O P Q),[(uN R b c d f h j k n p q r t u v w x y z),j4],(rL A D E)⟩ (aew a K F)
def jo (K u:Nat) (v w x y z A D E F G a b c:Int) (d:LI) (f h j k n p:Int) (q r t:LI):=Rn aA.s aA.l K 11 (nd 99 cu.body 351) ⟨⟨106,[(7,(vi v))]⟩,[(uN w x y z A D E F G a b c d f h j k n p),j4],(rL q r t)⟩ (acG K u)
def kO (K F n:Nat) (G H I L M N O P Q R a b c d f h j k p q r:Int) (t:LI) (u v w x y z:Int) (A D E:LI):=rb n (Rn aA.s aA.l K 11 (nd 99 cu.body 20127)) ad6 ⟨(aeV G H I L M N O P Q),[(uN R a b c d f h j k p q r t u v w x y z),j4],(rL A D E)⟩ (k5 2 (adX K F))
def nI (K H:Nat) (I L M N O P Q R S T a b c d f h j k n p q r t u:Int) (v:LI) (w x y z A D:Int) (E F G:LI):=Rn aA.s aA.l K 10 (nd 99 dk.body 23) ⟨⟨49,[(7,(vi I))]⟩,[(MH L M N O P Q R S T a b),(uN c d f h j k n p q r t u v w x y z A D),j4],(rL E F G)⟩ (aqo K H)
def js (K R n:Nat) (S T U V W Y Z x7 x8 x9 a b c d f h j k p q r t u v w x y z A D E:Int) (F:LI) (G H I L M N:Int) (O P Q:LI):=rb n (Rn aA.s aA.l K 10 (nd 99 dk.body 75)) (iI (lpc (nd 99 dk.body 43))) ⟨(afu S T U V W Y Z x7),[(MH x8 x9 a b c d f h j k p),(uN q r t u v w x y z A D E F G H I L M N),j4],(rL O P Q)⟩ (akp K R)
def kS (K z:Nat) (A D E F G H I L M N a b c d f h j k:Int) (n:LI) (p q r t u v:Int) (w x y:LI):=Rn aA.s aA.l K 11 (nd 99 cu.body 95) ⟨⟨106,[(0,(.part 1 A D)),(1,(.part 3 E F)),(5,(vi G)),(7,(vi H))]⟩,[(uN I L M N a b c d f h j k n p q r t u v),j4],(rL w x y)⟩ (acG K z)
def gX (K D n:Nat) (E F G H I L M N O P a b c d f h j k p:Int) (q:LI) (r t u v w x:Int) (y z A:LI):=rb n (Rn aA.s aA.l K 11 (nd 99 cu.body 303)) adO ⟨⟨106,[(0,(.part 1 E F)),(1,(.part 3 G H)),(5,(vi I)),(7,(vi L)),(8,(vi M))]⟩,[(uN N O P a b c d f h j k p q r t u v w x),j4],(rL y z A)⟩ (alz K D)
def mn K a b (c:Int) (d:Int) (f:Int) (h:Int) j k (l:LI) (n:LI) (p:LI):=J aA K 169707 [a] [(mP b),(.part 1 c d),(.part 3 f h),(vi j),(.own 4),(vi k)] (rL l n p)
def qD K a (b:Int) (c:Int) (d:LI) (f:LI):=J aA K 12011 [] [(mP a),(.part 1 b c),(.own 4)] [none,some (.seq (.int .i64) d),none,none,some (.seq (.int .i64) f)]
def kd K n a (b:Int) (c:Int) (d:Int) (f:Int) h j (k:LI) (l:LI) (p:LI):=Jl aA K n 22251 [] [(mP a),(.part 1 b c),(.part 3 d f),(vi h),(.own 4),(vi j)] (rL k l p)
def r5 K a (b:Int) (c:Int) (d:Int) (f:Int) (h:LI) (j:LI):=J aA K 747 [] [(mP a),(.part 1 b c),(.part 3 d f)] (adT h j)
def oR K n a b (c:Int) (d:Int) (f:Int) (h:Int) (j:LI) (k:LI):=Jl aA K n 619 [] [(mP a),(mP b),(.part 1 c d),(.part 3 f h)] (adT j k)
def sA K a b:=J aA K 43 [] [(mP a),(mP b)] []
def xV K a b:=J aA K 11 [] [(mP a),(mP b)] []
def K4 K (a:LI) (b:LI):=Jt aA K (aI [none,none] (aE (.pair (.list (.int .i64)) (.list (.int .i64))) (a,b)))
attribute [irreducible] xI ny uB ns kA qC uC kK qk jo kO nI js kS gX mn qD kd r5 oR sA xV K4
def UI:xI K c d f h a j k b l=cond (Int.same h 0) (cond (fits (a.toNat+1) 8) (oR K c d f 0 (a+1) j k (b.take (a.toNat)++(([0]:LI)++b.drop (a.toNat+1))) l) (none)) (none):=af
def Sz:ny K F c G H D E b I L M N O d f h j k l n p q r s t u v w x y a z=cond (((dD 0 (aCw .i64 (b-1)))&&(bZ (aCw .i64 (b-1)) E))) ((a[(D+(aCw .i64 (b-1))).toNat]?).bind λA=>gX K F c G H D E b (aCw .i64 (I-1)) (aCw .i64 (L+A)) M N O d f h j k l n p q r s t u v w x y a z) (none):=af
def Su:uB K P a Q R S T U V W Y Z x9 b c d f h j k l n p q r s t u v w x y z A D E F G H I L M N O=js K P a Q R S T U V W (aCw .i64 (Y+1)) Z x9 b c d f h j k l n p q r s t u v w x y z A D E F G H I L M N O:=af
def Th:ns K S a T U V W Y Z b x7 x8 x9 c d f h j k l n p q r s t u v w x y z A D E F G H I L M N O P Q R=cond (((dD 0 b)&&(bZ b U))) (uB K S a T U V W Y Z x8 x9 c d f h j k l n p q r s t u v w x y z A D E F G H I L M N O (P.set (T+b).toNat x7) Q R) (none):=by rw [<-B.e K (uB K S a)];kernel_rfl
def Gs:kA K T a U V W Y Z d f x7 x8 x9 h j k l n p q r s t u v w x y z A D E F G H I L M N O P Q b R S=cond (((dD 0 f)&&(bZ f V))) ((b[(U+f).toNat]?).bind λc=>cond ((bZ (aCw .i64 (c-(aCC d 1000000000))) 0)) (ns K T a U V W Y Z (aCw .i64 ((aCw .i64 (aCG d 1000000000))+1)) f (aCw .i64 ((aCw .i64 (c-(aCC d 1000000000)))+1000000000)) x7 x8 x9 h j k l n p q r s t u v w x y z A D E F G H I L M N O P Q b R S) (ns K T a U V W Y Z (aCw .i64 (aCG d 1000000000)) f (aCw .i64 (c-(aCC d 1000000000))) x7 x8 x9 h j k l n p q r s t u v w x y z A D E F G H I L M N O P Q b R S)) (none):=by rw [<-B.e K (ns K T a)];kernel_rfl
def SP:qC K R b V W S Q T Y Z a x8 x9 d f h j k l n p q r s t u v w x y z A D E F G H I L M N O c P=cond ((bZ a Q)) (cond (((dD 0 a)&&(bZ a Q))) ((c[(S+a).toNat]?).bind λU=>kA K R b V W S Q T (aCw .i64 (Y+(aCw .i64 (T*U)))) a Z a x8 x9 d f h j k l n p q r s t u v w x y z A D E F G H I L M N O c P) (none)) (kA K R b V W S Q T Y a Z a x8 x9 d f h j k l n p q r s t u v w x y z A D E F G H I L M N O c P):=by rw [<-B.e K (kA K R b)];kernel_rfl
def S5:uC K D a E F G H I L M N O P b c d f h j k l n p q r s t u v w x y z A=kO K D a E F G H I L M N (aCw .i64 (O+1)) P b c d f h j k l n p q r s t u v w x y z A:=af
def SV:kK K F a G H L M N O I b P Q c d f h j k l n p q r s t u v w x y z A D E=cond (((dD 0 b)&&(bZ b H))) (uC K F a G H L M N O (aCw .i64 (aCG I 1000000000)) P Q c d f h j k l n p q r s t u v w x y z (A.set (G+b).toNat (aCC I 1000000000)) D E) (none):=by rw [<-B.e K (uC K F a)];kernel_rfl
def S8:qk K F b G H I L M O P Q a R f h j k l n p q r s t u v w x y z A c d D=cond (((dD 0 a)&&(bZ a H))) ((c[(G+a).toNat]?).bind λE=>cond ((bZ a M)) (cond (((dD 0 a)&&(bZ a L))) ((d[(I+a).toNat]?).bind λN=>kK K F b G H I L M O (aCw .i64 ((aCw .i64 (P+E))+N)) a Q a R f h j k l n p q r s t u v w x y z A c d D) (none)) (kK K F b G H I L M O (aCw .i64 (P+E)) a Q a R f h j k l n p q r s t u v w x y z A c d D)) (none):=by rw [<-B.e K (kK K F b)];kernel_rfl
def Sp:jo K q r u v w x y z A D E s t a c d f h j k l n p b=cond (C4 a b.length) (kd K q c d f h j k (aCw .i64 (l-1)) n p (b.set a.toNat r)) (none):=af
def Gl:kO K D (k+1) I L M N O E P F G H a b c d f h j l n p q r s t u v w x y z A=cond ((bZ G F)) (qk K D k I L M N O E P F G H a b c d f h j l n p q r s t u v w x y z A) (jo K D E H a b c d f h j l n p q r s t u v w x y z A):=by rw [<-B.e K (qk K D k),<-B.e K (jo K D)];kernel_rfl
def Gm:nI K E H N O P Q R I G L M F a b c d f h j k l n p q r s t u v w x y z A D=cond ((!(Int.same H 0))) (kO K E K I G L M F (aCw .i64 (a-1)) 0 G 0 b c d f h j k l n p q r s t u v w x y z A D) (jo K E a b c d f h j k l n p q r s t u v w x y z A D):=by rw [<-B.e K (kO K E K),<-B.e K (jo K E)];kernel_rfl
def Gp:js K P (k+1) V W Y Z x4 Q R S T U a b c d f h j l n p q r s t u v w x y z A D E F G H I L M N O=cond ((bZ S R)) (qC K P k V W Y Z x4 Q R S T U a b c d f h j l n p q r s t u v w x y z A D E F G H I L M N O) (nI K P Q T U a b c d f h j l n p q r s t u v w x y z A D E F G H I L M N O):=by rw [<-B.e K (qC K P k),<-B.e K (nI K P)];kernel_rfl
def Ti:kS K E b a c d F f G H I L h j k l n p q r s t u v w x y z A D=js K E K b a c d f 0 a 0 f c d b a b a c d F f G H I L h j k l n p q r s t u v w x y z A D:=by rw [<-B.e K (js K E K)];kernel_rfl
def yR:gX K A (k+1) D E F G a H I L M N d f h j l n p q r s t u v w x y b c z=cond ((bZ I 1000000000)) (cond (((dD 0 (aCw .i64 (a-2)))&&(bZ (aCw .i64 (a-2)) G))) ((c[(F+(aCw .i64 (a-2))).toNat]?).bind λO=>cond (((dD 0 (aCw .i64 (a-2)))&&(bZ (aCw .i64 (a-2)) E))) ((b[(D+(aCw .i64 (a-2))).toNat]?).bind λP=>cond ((bZ (aCw .i64 ((aCw .i64 (I*1000000000))+P)) (aCw .i64 (H*O)))) (ny K A k D E F G a H I L M N d f h j l n p q r s t u v w x y b c z) (kS K A D E F G a H L M N d f h j l n p q r s t u v w x y b c z)) (none)) (none)) (kS K A D E F G a H L M N d f h j l n p q r s t u v w x y b c z):=by rw [<-B.e K (ny K A k),<-B.e K (kS K A)];kernel_rfl
def Vo:mn K r s j l k b c a n p t=cond ((dD 0 (aCw .i64 ((aCw .i64 (a+c))+1))&&dD (aCw .i64 ((aCw .i64 (a+c))+1)) l)) (cond ((dD 0 a&&dD a (aCw .i64 ((aCw .i64 (a+c))+1)))) (cond (((dD 0 b)&&(bZ b ((aCw .i64 ((aCw .i64 (a+c))+1))-a)))) ((n[((j+a)+b).toNat]?).bind λd=>cond (((dD 0 (aCw .i64 (b-1)))&&(bZ (aCw .i64 (b-1)) ((aCw .i64 ((aCw .i64 (a+c))+1))-a)))) ((n[((j+a)+(aCw .i64 (b-1))).toNat]?).bind λf=>cond (((dD 0 (aCw .i64 (b-1)))&&(bZ (aCw .i64 (b-1)) b))) ((p[(k+(aCw .i64 (b-1))).toNat]?).bind λh=>cond (Int.same h 0) (none) (cond (((dD 0 (aCw .i64 (b-1)))&&(bZ (aCw .i64 (b-1)) b))) ((p[(k+(aCw .i64 (b-1))).toNat]?).bind λq=>gX K r K (j+a) ((aCw .i64 ((aCw .i64 (a+c))+1))-a) k b b (cond (bZ 999999999 (aCw .i64 (aCG (aCw .i64 ((aCw .i64 (d*1000000000))+f)) h))) 999999999 (aCw .i64 (aCG (aCw .i64 ((aCw .i64 (d*1000000000))+f)) h))) (aCw .i64 ((aCw .i64 ((aCw .i64 (d*1000000000))+f))-(aCw .i64 ((cond (bZ 999999999 (aCw .i64 (aCG (aCw .i64 ((aCw .i64 (d*1000000000))+f)) h))) 999999999 (aCw .i64 (aCG (aCw .i64 ((aCw .i64 (d*1000000000))+f)) h)))*q)))) k b (j+a) ((aCw .i64 ((aCw .i64 (a+c))+1))-a) (aCw .i64 ((aCw .i64 (a+c))+1)) (aCw .i64 (a+c)) c a a j l a s j l k b c a n p t) (none))) (none)) (none)) (none)) (none)) (none):=by rw [<-B.e K (gX K r K)];kernel_rfl
def S6:qD K h b c d f=cond (cf ((d.drop (b.toNat)).take (c.toNat))) ((dW h 0).bind λa=>cond (fG ((eO ((d.drop (b.toNat)).take (c.toNat))),a)) (cond (cf f) (some ((eO f),(ju ((eO ((d.drop (b.toNat)).take (c.toNat))),a)).1)) (none)) (none)) (none):=af
def Ik:kd K (k+1) a b c j l n d f p h=cond ((dD 0 d)) (mn K k a b c j l n d f p h) (qD K a b c f h):=by rw [<-B.e K (mn K k),<-B.e K (qD K)];kernel_rfl
def T9:r5 K c d b f a h j=cond ((((Int.same (aCw .i64 (b-a)) (aCw .i64 (b-a)))&&(dD 0 (aCw .i64 (b-a))))&&(fits ((aCw .i64 (b-a)).toNat) 8))) (kd K K c d b f a a (aCw .i64 ((aCw .i64 (b-a))-1)) h j (aCE ((aCw .i64 (b-a)).toNat) 0:LI)) (none):=by rw [<-B.e K (kd K K)];kernel_rfl
def UA:oR K (k+1) b c d a f h j l=cond ((dD a (aCx b.length))) (xI K k b c d a f h j l) (r5 K c d a f h j l):=by rw [<-B.e K (xI K k),<-B.e K (r5 K)];kernel_rfl
def Ux:sA K b c=(dW c (aCw .i64 ((aCx c.length)-1))).bind λa=>cond (Int.same (aCw .i64 (a+1)) 0) (none) (cond (eB (b,([(aCw .i64 (aCG 1000000000 (aCw .i64 (a+1))))]:LI))) (cond (fits (((cw (b,([(aCw .i64 (aCG 1000000000 (aCw .i64 (a+1))))]:LI))).2).toNat+1) 8) (cond (eB (c,([(aCw .i64 (aCG 1000000000 (aCw .i64 (a+1))))]:LI))) (oR K K b ([(aCw .i64 (aCG 1000000000 (aCw .i64 (a+1))))]:LI) 0 ((cw (b,([(aCw .i64 (aCG 1000000000 (aCw .i64 (a+1))))]:LI))).2+1) 0 ((cw (c,([(aCw .i64 (aCG 1000000000 (aCw .i64 (a+1))))]:LI))).2) ((cw (b,([(aCw .i64 (aCG 1000000000 (aCw .i64 (a+1))))]:LI))).1.take (((cw (b,([(aCw .i64 (aCG 1000000000 (aCw .i64 (a+1))))]:LI))).2).toNat)++(([0]:LI)++(cw (b,([(aCw .i64 (aCG 1000000000 (aCw .i64 (a+1))))]:LI))).1.drop (((cw (b,([(aCw .i64 (aCG 1000000000 (aCw .i64 (a+1))))]:LI))).2).toNat+1))) ((cw (c,([(aCw .i64 (aCG 1000000000 (aCw .i64 (a+1))))]:LI))).1)) (none)) (none)) (none)):=by rw [<-B.e K (oR K K)];kernel_rfl
def Vy:xV K a c=cond ((Int.same (aCx c.length) 1)) ((dW c 0).bind λb=>cond (fG (a,b)) (cond (cf ([(ju (a,b)).2]:LI)) (some ((ju (a,b)).1,(eO ([(ju (a,b)).2]:LI)))) (none)) (none)) (sA K a c):=by rw [<-B.e K (sA K)];kernel_rfl
def acf:K4 K a b=cond (eW (a,b)) (cond ((bZ (kY (a,b)) 0)) (some (([]:LI),a)) (xV K a b)) (none):=by rw [<-B.e K (xV K)];kernel_rfl
def vJ:Fx (((Bool×LI)×Bool×LI)):=⟨[(164,DN),(277,HE),(280,FW)],[],Fa (E0.fn 271) [48,248,248,48] [] [],aJ [some 2,some 2] (.pair (.pair .bool (.list (.int .i64))) (.pair .bool (.list (.int .i64)))) some⟩
def akg a b c d:=([none,some (.cells [(vb a),(mP b)]),some (.cells [(vb c),.nil]),some (.cells [(vb d),.nil])]:List (Option LB))
def o9 K a b c d f h:=J vJ K 87 [] [(.ptr 1 0),(.ptr 2 0),(.ptr 3 0),(mP a),(mP b)] (akg c d f h)
def sN K a b c d f h:=J vJ K 23 [] [(.ptr 1 0),(.ptr 2 0),(.ptr 3 0),(mP a),(mP b)] (akg c d f h)
def FE K (a:Bool×LI) (b:Bool×LI):=Jt vJ K (aI [some 2,some 2] (aE (.pair (.pair .bool (.list (.int .i64))) (.pair .bool (.list (.int .i64)))) (a,b)))
attribute [irreducible] o9 sN FE
def Fi:o9 K a b c d f h=some ((true,a),(c,b)):=af
def Qy:sN K c a d b f h=cond ((bZ 0 (aCx a.length))) (cond (jY (c,([1]:LI))) (cond (fH (b,a)) (o9 K (j9 (c,([1]:LI))) (qK (b,a)) d b f h) (none)) (none)) (o9 K c a d b f h):=by rw [<-B.e K (o9 K)];kernel_rfl
def WA:FE K b a=cond (dq (b.2,a.2)) (cond ((b.1==a.1)) (some ((false,(gq (b.2,a.2)).1),(a.1,(gq (b.2,a.2)).2))) (sN K ((gq (b.2,a.2)).1) ((gq (b.2,a.2)).2) a.1 a.2 false false)) (none):=by rw [<-B.e K (sN K)];kernel_rfl
def tw:Fx (LI):=⟨[(164,DN)],[],Fa (E0.fn 124) [3,1,3,1,16] [] [],aJ [none] (.list (.int .i64)) some⟩
def xW K a b c:=J tw K 81 [a] [(mP b),(mP c)] []
def xZ K a:=J tw K 11 [] [(mP a)] []
def oW K n a b:=Jl tw K n 9 [] [(mP a),(mP b)] []
def Lk K (a:LI) (b:LI):=Jt tw K (aI [none,none] (aE (.pair (.list (.int .i64)) (.list (.int .i64))) (a,b)))
attribute [irreducible] xW xZ oW Lk
def Uv:xW K c b a=cond (dq (b,a)) (oW K c a ((gq (b,a)).2)) (none):=af
def I0:xZ K a=some a:=af
def AI:oW K (k+1) a b=cond ((bZ 0 (aCx b.length))) (xW K k a b) (xZ K a):=by rw [<-B.e K (xW K k),<-B.e K (xZ K)];kernel_rfl
def abZ:Lk K a b=oW K K a b:=by rw [<-B.e K (oW K K)];kernel_rfl
def Zt:=Fa (E0.fn 200) [4] [] []
def pD:=Fa (E0.fn 199) [4] [] []
def fq:=Fa (E0.fn 224) [11,0,11,0,11] [] []
def eE:=Fa (E0.fn 223) [68,4,16] [(0,[(2,some 0,.own (.int .i64))])] []
def cK:Fx ((Bool×LI)):=⟨[(157,wB),(198,sa),(225,Ph)],[(200,Zt),(199,pD),(224,fq),(223,eE)],Fa (E0.fn 163) [4] [] [],aJ [some 2] (.pair .bool (.list (.int .i64))) some⟩
def ao6 K:=(eF eE (λv b=>re b (some 4) v λa=>Fg (tA (Tm cK.s) (lkL cK.l) K 11) [] (aCI 2 (rgn (nd 99 pD.body 5))) a (okK (vQ (Rn cK.s cK.l K 11 (nd 99 pD.body 7)) (eF pD (λv b=>re b (some 13) v λa=>Fg (tA (Tm cK.s) (lkL cK.l) K 12) [] (aCI 4 (rgn (Jn cK 11))) a (okK (vQ (Rx cK K (Jn cK 15)) (eF cK.F (aJ [some 2] (.pair .bool (.list (.int .i64))) some))))))))):KL ((Bool×LI)))
def aeF d f h j k l n p q a b c:=(⟨16,[(12,(.func 224 [] [(.ptr 1 0)])),(11,(vs d)),(10,(vb f)),(4,(vb h)),(3,(vs j)),(9,(vb k)),(8,(vs l)),(5,(.tuple [(vs n),(vb p)])),(7,(.tuple [(vs q),(vb a)])),(6,(vs b)),(2,(.ptr 0 0)),(0,(vs c))]⟩:LF)
def adq:=(⟨5,[(3,(.func 224 [] [(.ptr 1 0)])),(2,.nil),(0,(.func 224 [] [(.ptr 1 0)]))]⟩:LF)
def aeP:=(⟨13,[(2,(.ptr 2 0)),(6,(.func 224 [] [(.ptr 1 0)]))]⟩:LF)
def XG:=(⟨1,[(0,(.yield 4))]⟩:LF)
def ajt j k l n p q r s t u a b c d f h:=(⟨⟨26,[(0,(.yield 4)),(1,(.ptr 1 0)),(3,(vi j))]⟩,[aeP,XG,adq,(aeF k l n p q r s t u a b c),j4],[some (.cells [(vb d),.nil]),some (.cells [(vs f)]),some (.cells [(.own 3)]),some (.seq (.int .i64) h),some (.loop .ready none aeP [7] (nd 99 eE.body 69) (nd 99 eE.body 101))]⟩:St)
def adB K:=(k5 0 (vQ (Rn cK.s cK.l K 10 (nd 99 eE.body 7)) (ao6 K)):KL ((Bool×LI)))
def akv a K:=(J8 (iI (lpc (nd 99 fq.body 5))) (rb a (Rn cK.s cK.l K 9 (nd 99 fq.body 9)) (iI (lpc (nd 99 fq.body 5)))) (k5 0 (eF fq (YX (adB K)))):KL ((Bool×LI)))
def CT (K j:Nat) (k:Int) (n:BS) (p q:Bool) (r:BS) (t:Bool) (u v:BS) (w:Bool) (x:BS) (a:Bool) (b c:BS) (d:Bool) (f:BS) (h:LI):=Rn cK.s cK.l K 9 (nd 99 fq.body 169) (ajt k n p q r t u v w x a b c d f h) (akv j K)
def Bo (K j:Nat) (k:Int) (n:BS) (p q:Bool) (r:BS) (t:Bool) (u v:BS) (w:Bool) (x:BS) (a:Bool) (b c:BS) (d:Bool) (f:BS) (h:LI):=Rn cK.s cK.l K 9 (nd 99 fq.body 41) (ajt k n p q r t u v w x a b c d f h) (akv j K)
def akJ a b c:=([some (.cells [(vb a),.nil]),some (.cells [(vs b)]),some (.cells [(.own 3)]),some (.seq (.int .i64) c)]:List (Option LB))
def r9 (K:Nat) (h:BS) (j k:Bool) (n:BS) (p:Bool) (q r:BS) (t:Bool) (u:BS) (v:Bool) (a b:BS) (c:Bool) (d:BS) (f:LI):=Rn cK.s cK.l K 10 (nd 99 eE.body 11) ⟨⟨13,[(2,(.ptr 2 0))]⟩,[adq,(aeF h j k n p q r t u v a b),j4],(akJ c d f)⟩ (ao6 K)
def iz (K n:Nat) (j:Int) (k:BS) (p q:Bool) (r:BS) (t:Bool) (u v:BS) (w:Bool) (x:BS) (a:Bool) (b c:BS) (d:Bool) (f:BS) (h:LI):=rb n (Rn cK.s cK.l K 9 (nd 99 fq.body 9)) (iI (lpc (nd 99 fq.body 5))) (ajt j k p q r t u v w x a b c d f h) (k5 0 (eF fq (YX (adB K))))
def CG (K:Nat) (h:BS) (j k:Bool) (n:BS) (p:Bool) (q r:BS) (t:Bool) (u:BS) (v:Bool) (a b:BS) (c:Bool) (d:BS) (f:LI):=Rn cK.s cK.l K 10 (nd 99 eE.body 37) ⟨aeP,[adq,(aeF h j k n p q r t u v a b),j4],(akJ c d f)⟩ (adB K)
def Qk K (a:BS):=Jt cK K (aI [none] (aE .str a))
attribute [irreducible] CT Bo r9 iz CG Qk
def YU:CT K j k l n p q r s t u v a b c d f h=iz K j (aCw .i64 (k-9)) l n p q r s t u v a b c d f h:=af
def ZE:Bo K k a l n p q r s t u v d f h j b c=cond ((dD 0 a&&dD a (aCx b.length))) (cond ((dD 0 (cond (bZ 0 (aCw .i64 (a-9))) (aCw .i64 (a-9)) 0)&&dD (cond (bZ 0 (aCw .i64 (a-9))) (aCw .i64 (a-9)) 0) a)) (cond (n5 ((b.drop (cond (bZ 0 (aCw .i64 (a-9))) (aCw .i64 (a-9)) 0).toNat).take (a.toNat-(cond (bZ 0 (aCw .i64 (a-9))) (aCw .i64 (a-9)) 0).toNat))) (cond (fits (c.length+1) 8) (CT K k a l n p q r s t u v d f h j b (c++([(BE ((b.drop (cond (bZ 0 (aCw .i64 (a-9))) (aCw .i64 (a-9)) 0).toNat).take (a.toNat-(cond (bZ 0 (aCw .i64 (a-9))) (aCw .i64 (a-9)) 0).toNat))).1]:LI))) (none)) (none)) (none)) (none):=by rw [<-B.e K (CT K k)];kernel_rfl
def ZA:r9 K j b k l n p q r s t c d f h a=cond (cf a) (some (b,(eO a))) (none):=af
def MO:iz K (k+1) j l n p q r s t u v a b c d f h=cond ((bZ 0 j)) (Bo K k j l n p q r s t u v a b c d f h) (r9 K l n p q r s t u v a b c d f h):=by rw [<-B.e K (Bo K k),<-B.e K (r9 K)];kernel_rfl
def YT:CG K h j k l n p q r s t b c d a f=iz K K (aCx a.length) h j k l n p q r s t b c d a f:=by rw [<-B.e K (iz K K)];kernel_rfl
def agk:Qk K a=cond (eK (a,([45]:BS))) (CG K ((bV (a,([45]:BS))).1) ((bV (a,([45]:BS))).2) ((bV (a,([45]:BS))).2) ((bV (a,([45]:BS))).1) ((bV (a,([45]:BS))).2) ((bV (a,([45]:BS))).1) ((bV (a,([45]:BS))).1) ((bV (a,([45]:BS))).2) ((bV (a,([45]:BS))).1) ((bV (a,([45]:BS))).2) a a false ((bV (a,([45]:BS))).1) ([]:LI)) (none):=by rw [<-B.e K (CG K)];kernel_rfl
def Ay:Fx (Bool):=⟨[(157,wB),(158,FZ)],[],Fa (E0.fn 119) [4,8,4] [] [],aJ [none] .bool some⟩
def rp K a:=J Ay K 23 [] [(vs a)] []
def DB K (a:BS):=Jt Ay K (aI [none] (aE .str a))
attribute [irreducible] rp DB
def PM:rp K a=cond ((!(aD a ([]:BS)))) ((dW a 0).bind λb=>cond ((!(Int.same (dB b) 48))) (cond (od (a,([48,49,50,51,52,53,54,55,56,57]:BS))) (some (aD (CN (a,([48,49,50,51,52,53,54,55,56,57]:BS))) ([]:BS))) (none)) (some false)) (some false):=af
def Vx:DB K a=cond (eK (a,([45]:BS))) (cond ((aD (bV (a,([45]:BS))).1 ([48]:BS))) (some (!(bV (a,([45]:BS))).2)) (rp K ((bV (a,([45]:BS))).1))) (none):=by rw [<-B.e K (rp K)];kernel_rfl
def OM:Fx (Int):=⟨[(87,uh)],[],Fa (E0.fn 120) [4] [] [],aJ [none] (.int .i64) some⟩
def Lb K (a:BS):=Jt OM K (aI [none] (aE .str a))
attribute [irreducible] Lb
def ab1:Lb K a=cond (er (a,([45]:BS))) (some (aCx (ib (a,([45]:BS))).length)) (none):=af
def HV:Fx (Int):=⟨[(119,Gd),(120,MN)],[],Fa (E0.fn 77) [4,4,0,4] [] [],aJ [none] (.int .i64) some⟩
def ze K:=J HV K 11 [] [] []
def ND K (a:BS):=Jt HV K (aI [none] (aE .str a))
attribute [irreducible] ze ND
def WW:ze K=some 0:=af
def acT:ND K a=cond (np a) (cond ((!(l6 a))) (some 3) (cond (qH a) (cond ((bZ 4096 (s4 a))) (some 10) (ze K)) (none))) (none):=by rw [<-B.e K (ze K)];kernel_rfl
def tT:Fx (((Bool×LI)×(Bool×LI)×Int)):=⟨[(77,zg),(163,P7)],[],Fa (E0.fn 123) [12339,51,12339,112,12339,51,112] [] [],aJ [some 2,some 2,none] (.pair (.pair .bool (.list (.int .i64))) (.pair (.pair .bool (.list (.int .i64))) (.int .i64))) some⟩
def X8 a b:=([some (.cells [(vb a),.nil]),some (.cells [(vb b),.nil])]:List (Option LB))
def adM a b c d f:=([(vs a),(vs b),(.ptr 0 0),(.ptr 1 0),(.agg [(vs c),(vs d)]),(vi f)]:List LV)
def wF K a b c d f h j k:=J tT K 1381 [a] (adM b c d f h) (X8 j k)
def Ct K a b c d f h j k:=J tT K 357 [a] (adM b c d f h) (X8 j k)
def vV K a b c d:=J tT K 11 [] [(vs a),(vs b),(.ptr 0 0),(.ptr 1 0)] (X8 c d)
def sf K n a b c d f h j:=Jl tT K n 21 [] (adM a b c d f) (X8 h j)
def Rp K (a:BS) (b:BS):=Jt tT K (aI [none,none] (aE (.pair .str .str) (a,b)))
attribute [irreducible] wF Ct vV sf Rp
def LX:wF K a b c d f h j k=sf K a b c d f (aCw .i64 (h+1)) j k:=af
def Nb:Ct K d f h a b c j k=cond ((Int.same c 0)) (cond (eV a) (cond ((!(Int.same (dR a) 0))) (some ((false,([]:LI)),((false,([]:LI)),(dR a)))) (wF K d f h a b c j k)) (none)) (cond ((Int.same c 1)) (cond (eV b) (cond ((!(Int.same (dR b) 0))) (some ((false,([]:LI)),((false,([]:LI)),(dR b)))) (wF K d f h a b c j k)) (none)) (none)):=by rw [<-B.e K (wF K d)];kernel_rfl
def YR:vV K a b c d=cond (my a) (cond (my b) (some (((mC a).1,(mC a).2),(((mC b).1,(mC b).2),0))) (none)) (none):=af
def DD:sf K (k+1) a b h j c d f=cond ((bZ c 2)) (Ct K k a b h j c d f) (vV K a b d f):=by rw [<-B.e K (Ct K k),<-B.e K (vV K)];kernel_rfl
def ago:Rp K a b=sf K K a b a b 0 false false:=by rw [<-B.e K (sf K K)];kernel_rfl
def DP:Fx ((BS×Int)):=⟨[(268,C9),(125,pQ)],[],Fa (E0.fn 251) [12,2,12] [] [],aJ [none,none] (.pair .str (.int .i64)) some⟩
def uw K a b:=J DP K 11 [] [(.ptr 0 0)] [some (.cells [(vb a),(mP b)])]
def Im K (a:Bool×LI):=Jt DP K (aI [some 2] (aE (.pair .bool (.list (.int .i64))) a))
attribute [irreducible] uw Im
def Te:uw K a b=cond (b7 (a,b)) (some ((cZ (a,b)),0)) (none):=af
def ZL:Im K a=cond (jd (a.1,a.2)) (cond ((bZ 4096 (kj (a.1,a.2)))) (some (([]:BS),10)) (uw K a.1 a.2)) (none):=by rw [<-B.e K (uw K)];kernel_rfl
def DX:Fx ((Int×Int)):=⟨[(123,pA),(253,BY),(252,Ef),(270,RG)],[],Fa (E0.fn 254) [48,192,48] [] [],aJ [none,none] (.pair (.int .i64) (.int .i64)) some⟩
def Jb a b c d:=([some (.cells [(vb a),(mP b)]),some (.cells [(vb c),(mP d)])]:List (Option LB))
def Jj:=([(.ptr 0 0),(.ptr 1 0)]:List LV)
def uE K a b c d:=J DX K 23 [] Jj (Jb a b c d)
def Jf K (a:BS) (b:BS):=Jt DX K (aI [none,none] (aE (.pair .str .str) (a,b)))
attribute [irreducible] uE Jf
def SW:uE K c d a b=cond (pJ (a,b)) (cond (dp ((c,d),((aS (a,b)).1,(aS (a,b)).2))) (cond (Ar ((bO ((c,d),((aS (a,b)).1,(aS (a,b)).2))).1,(bO ((c,d),((aS (a,b)).1,(aS (a,b)).2))).2)) (some ((oQ ((bO ((c,d),((aS (a,b)).1,(aS (a,b)).2))).1,(bO ((c,d),((aS (a,b)).1,(aS (a,b)).2))).2)),0)) (none)) (none)) (none):=af
def aan:Jf K a b=cond (dj (a,b)) (cond ((!(Int.same (aY (a,b)).2.2 0))) (some (0,(aY (a,b)).2.2)) (uE K ((aY (a,b)).1.1) ((aY (a,b)).1.2) ((aY (a,b)).2.1.1) ((aY (a,b)).2.1.2))) (none):=by rw [<-B.e K (uE K)];kernel_rfl
def TM:Fx ((Int×Int)):=⟨[(254,J1)],[],Fa (E0.fn 236) [12] [] [],aJ [none,none] (.pair (.int .i64) (.int .i64)) some⟩
def P8 K (a:BS):=Jt TM K (aI [none] (aE .str a))
attribute [irreducible] P8
def afM:P8 K a=cond (l4 (a,([48]:BS))) (some ((lp (a,([48]:BS))).1,(lp (a,([48]:BS))).2)) (none):=af
def NB:Fx ((BS×Int)):=⟨[(123,pA),(252,Ef),(251,vC)],[],Fa (E0.fn 231) [48,192,48] [] [],aJ [none,none] (.pair .str (.int .i64)) some⟩
def Ea K a b c d:=J NB K 23 [] Jj (Jb a b c d)
def Uz K (a:BS) (b:BS):=Jt NB K (aI [none,none] (aE (.pair .str .str) (a,b)))
attribute [irreducible] Ea Uz
def ab0:Ea K a b c d=cond (dp ((a,b),(c,d))) (cond (de ((bO ((a,b),(c,d))).1,(bO ((a,b),(c,d))).2)) (some ((da ((bO ((a,b),(c,d))).1,(bO ((a,b),(c,d))).2)).1,(da ((bO ((a,b),(c,d))).1,(bO ((a,b),(c,d))).2)).2)) (none)) (none):=af
def aie:Uz K a b=cond (dj (a,b)) (cond ((!(Int.same (aY (a,b)).2.2 0))) (some (([]:BS),(aY (a,b)).2.2)) (Ea K ((aY (a,b)).1.1) ((aY (a,b)).1.2) ((aY (a,b)).2.1.1) ((aY (a,b)).2.1.2))) (none):=by rw [<-B.e K (Ea K)];kernel_rfl
def NC:Fx ((BS×Int)):=⟨[(123,pA),(253,BY),(252,Ef),(251,vC)],[],Fa (E0.fn 232) [48,192,48] [] [],aJ [none,none] (.pair .str (.int .i64)) some⟩
def D6 K a b c d:=J NC K 23 [] Jj (Jb a b c d)
def U1 K (a:BS) (b:BS):=Jt NC K (aI [none,none] (aE (.pair .str .str) (a,b)))
attribute [irreducible] D6 U1
def ab9:D6 K c d a b=cond (pJ (a,b)) (cond (dp ((c,d),((aS (a,b)).1,(aS (a,b)).2))) (cond (de ((bO ((c,d),((aS (a,b)).1,(aS (a,b)).2))).1,(bO ((c,d),((aS (a,b)).1,(aS (a,b)).2))).2)) (some ((da ((bO ((c,d),((aS (a,b)).1,(aS (a,b)).2))).1,(bO ((c,d),((aS (a,b)).1,(aS (a,b)).2))).2)).1,(da ((bO ((c,d),((aS (a,b)).1,(aS (a,b)).2))).1,(bO ((c,d),((aS (a,b)).1,(aS (a,b)).2))).2)).2)) (none)) (none)) (none):=af
def ajf:U1 K a b=cond (dj (a,b)) (cond ((!(Int.same (aY (a,b)).2.2 0))) (some (([]:BS),(aY (a,b)).2.2)) (D6 K ((aY (a,b)).1.1) ((aY (a,b)).1.2) ((aY (a,b)).2.1.1) ((aY (a,b)).2.1.2))) (none):=by rw [<-B.e K (D6 K)];kernel_rfl
def Nn:Fx ((BS×Int)):=⟨[(123,pA),(267,Kj),(251,vC)],[],Fa (E0.fn 250) [48,192,48] [] [],aJ [none,none] (.pair .str (.int .i64)) some⟩
def Er K a b c d:=J Nn K 23 [] Jj (Jb a b c d)
def Vu K (a:BS) (b:BS):=Jt Nn K (aI [none,none] (aE (.pair .str .str) (a,b)))
attribute [irreducible] Er Vu
def abT:Er K a b c d=cond (lX ((a,b),(c,d))) (cond (de ((cM ((a,b),(c,d))).1,(cM ((a,b),(c,d))).2)) (some ((da ((cM ((a,b),(c,d))).1,(cM ((a,b),(c,d))).2)).1,(da ((cM ((a,b),(c,d))).1,(cM ((a,b),(c,d))).2)).2)) (none)) (none):=af
def ah0:Vu K a b=cond (dj (a,b)) (cond ((!(Int.same (aY (a,b)).2.2 0))) (some (([]:BS),(aY (a,b)).2.2)) (Er K ((aY (a,b)).1.1) ((aY (a,b)).1.2) ((aY (a,b)).2.1.1) ((aY (a,b)).2.1.2))) (none):=by rw [<-B.e K (Er K)];kernel_rfl
def Wr:Fx ((BS×Int)):=⟨[(232,Ez)],[],Fa (E0.fn 237) [12] [] [],aJ [none,none] (.pair .str (.int .i64)) some⟩
def U7 K (a:BS):=Jt Wr K (aI [none] (aE .str a))
attribute [irreducible] U7
def ahS:U7 K a=cond (qu (([48]:BS),a)) (some ((p9 (([48]:BS),a)).1,(p9 (([48]:BS),a)).2)) (none):=af
def yh:Fx ((BS×BS×Int)):=⟨[(123,pA),(271,I4),(125,pQ)],[],Fa (E0.fn 255) [112,384,112,384,112] [] [],aJ [none,none,none] (.pair .str (.pair .str (.int .i64))) some⟩
def uy K a b c d:=J yh K 87 [] Jj (Jb a b c d)
def uF K a b c d:=J yh K 23 [] Jj (Jb a b c d)
def I3 K (a:BS) (b:BS):=Jt yh K (aI [none,none] (aE (.pair .str .str) (a,b)))
attribute [irreducible] uy uF I3
def Sx:uy K a b c d=cond (gz ((a,b),(c,d))) (cond (b7 ((bM ((a,b),(c,d))).1.1,(bM ((a,b),(c,d))).1.2)) (cond (b7 ((bM ((a,b),(c,d))).2.1,(bM ((a,b),(c,d))).2.2)) (some ((cZ ((bM ((a,b),(c,d))).1.1,(bM ((a,b),(c,d))).1.2)),((cZ ((bM ((a,b),(c,d))).2.1,(bM ((a,b),(c,d))).2.2)),0))) (none)) (none)) (none):=af
def Sq:uF K b c d a=cond ((Int.same (aCx a.length) 0)) (some (([]:BS),(([]:BS),19))) (uy K b c d a):=by rw [<-B.e K (uy K)];kernel_rfl
def aaF:I3 K a b=cond (dj (a,b)) (cond ((!(Int.same (aY (a,b)).2.2 0))) (some (([]:BS),(([]:BS),(aY (a,b)).2.2))) (uF K ((aY (a,b)).1.1) ((aY (a,b)).1.2) ((aY (a,b)).2.1.1) ((aY (a,b)).2.1.2))) (none):=by rw [<-B.e K (uF K)];kernel_rfl
def W7:Fx ((BS×Int)):=⟨[(255,KA)],[],Fa (E0.fn 238) [48] [] [],aJ [none,none] (.pair .str (.int .i64)) some⟩
def Vl K (a:BS) (b:BS):=Jt W7 K (aI [none,none] (aE (.pair .str .str) (a,b)))
attribute [irreducible] Vl
def ahD:Vl K a b=cond (pK (a,b)) (some ((gP (a,b)).1,(gP (a,b)).2.2)) (none):=af
def Nv:Fx ((BS×Int)):=⟨[(123,pA),(124,Mf),(125,pQ)],[],Fa (E0.fn 84) [48,192,48] [] [],aJ [none,none] (.pair .str (.int .i64)) some⟩
def Ev K a b c d:=J Nv K 23 [] Jj (Jb a b c d)
def UH K (a:BS) (b:BS):=Jt Nv K (aI [none,none] (aE (.pair .str .str) (a,b)))
attribute [irreducible] Ev UH
def abI:Ev K c a d b=cond (kg (a,b)) (cond (b7 (false,(jW (a,b)))) (some ((cZ (false,(jW (a,b)))),0)) (none)) (none):=af
def ajw:UH K a b=cond (dj (a,b)) (cond ((!(Int.same (aY (a,b)).2.2 0))) (some (([]:BS),(aY (a,b)).2.2)) (Ev K ((aY (a,b)).1.1) ((aY (a,b)).1.2) ((aY (a,b)).2.1.1) ((aY (a,b)).2.1.2))) (none):=by rw [<-B.e K (Ev K)];kernel_rfl
def Ga:=Fa (E0.fn 165) [16] [] []
def kW:=Fa (E0.fn 166) [4] [] []
def DT:=Fa (E0.fn 168) [48] [] []
def Ju:=Fa (E0.fn 170) [4] [] []
def aO:=Fa (E0.fn 206) [11,0,11,0,11] [] []
def bg:Fx (BS):=⟨[(167,tk),(169,Bb),(205,X9)],[(165,Ga),(166,kW),(168,DT),(170,Ju),(206,aO)],Fa (E0.fn 125) [4,2,10,65546,72,8,4] [] [(3,(.bld 5))],aJ [none] .str some⟩
def W3:=(⟨35,[(1,(.ptr 0 0)),(3,(.ptr 2 0)),(16,(.func 206 [] [(.ptr 3 0)]))]⟩:LF)
def ahR a b c d f:=(⟨⟨19,[(0,(.yield 4)),(1,(.ptr 3 0)),(3,(vi a))]⟩,[W3,XG,j4],[some (.cells [(vb b),(mP c)]),some (.buf 5 d),some (.cells [(.oG 2),(.buf 1)]),some (.cells [(mP f)]),some (.loop .ready none W3 [17,18] (Jn bg 2203) (Jn bg 3227))]⟩:St)
def ajE K:=(k5 0 (eF aO (YX (k5 0 (vQ (Rx bg K (Jn bg 219)) (eF bg.F (aJ [none] .str some)))))):KL (BS))
def aen:=(iI (lpc (nd 99 aO.body 5)):St->(St->Option (BS))->Option (BS))
def aiz a K:=(J8 aen (rb a (Rn bg.s bg.l K 11 (nd 99 aO.body 9)) aen) (ajE K):KL (BS))
def pL (K a:Nat) (b:Int) (c:Bool) (d f h:LI):=Rn bg.s bg.l K 11 (nd 99 aO.body 169) (ahR b c d f h) (aiz a K)
def jC (K c:Nat) (d:BS) (f h j:Int) (k:LI) (n p:Int) (q:Bool) (r t a:LI):=Rn bg.s bg.l K 10 (Jn bg 46235) ⟨⟨35,[(3,(.ptr 2 0)),(6,(vs d))]⟩,[XG,⟨19,[(16,(vi f)),(15,(.iX [(vi h)] 0)),(14,(vi j)),(13,(mP k)),(12,(vi n)),(11,(.yield 4)),(0,(.yield 4)),(1,(.ptr 3 0)),(3,(vi p))]⟩,W3,XG,j4],[some (.cells [(vb q),(mP r)]),some (.buf 5 t),some (.cells [(.oG 2),(.buf 1)]),some (.cells [(mP a)]),some (.loop .busy none W3 [17,18] (Jn bg 2203) (Jn bg 3227))]⟩ (k5 1 (amE (λv u=>re u (some 17) v λb=>Fg (tA (Tm bg.s) (lkL bg.l) K 11) [] (aCI 7 (rgn (nd 99 aO.body 265))) b (okK (vQ (Rn bg.s bg.l K 11 (nd 99 aO.body 393)) (k5 1 (vQ (Rn bg.s bg.l K 11 (nd 99 aO.body 105)) (aiz c K))))))))
def pI (K a:Nat) (b:Int) (c:Bool) (d f h:LI):=Rn bg.s bg.l K 11 (nd 99 aO.body 41) (ahR b c d f h) (aiz a K)
def jz K (a:LI):=J bg K 347 [] [(.ptr 2 0)] [none,some (.buf 5 a),some (.cells [(.oG 2),(.buf 1)])]
def fx (K n:Nat) (a:Int) (b:Bool) (c d f:LI):=rb n (Rn bg.s bg.l K 11 (nd 99 aO.body 9)) aen (ahR a b c d f) (ajE K)
def pT K a b (c:LI) d:=J bg K 1179 [] [(.ptr 0 0),(.ptr 2 0),(.func 206 [] [(.ptr 3 0)])] [some (.cells [(vb a),(mP b)]),some (.buf 5 c),some (.cells [(.oG 2),(.buf 1)]),some (.cells [(mP d)])]
def jx K a b (c:LI):=J bg K 91 [] [(.ptr 0 0),(.ptr 2 0)] [some (.cells [(vb a),(mP b)]),some (.buf 5 c),some (.cells [(.oG 2),(.buf 1)])]
def pS K a b:=J bg K 11 [] [(.ptr 0 0)] [some (.cells [(vb a),(mP b)])]
def AJ K (a:Bool×LI):=Jt bg K (aI [some 2] (aE (.pair .bool (.list (.int .i64))) a))
attribute [irreducible] pL jC pI jz fx pT jx pS AJ
def ML:pL K a b c d f h=fx K a (aCw .i64 (b-1)) c d f h:=af
def M5:jC K b c k l n p q f h j d a=cond (fits (d.length+(dO c).length) 1) (pL K b f h j (d++(dO c)) a) (none):=by rw [<-B.e K (pL K b)];kernel_rfl
def AU:pI K d b j f h c=(dW c b).bind λa=>cond (ll a) (cond ((bZ b (aCw .i64 ((aCx f.length)-1)))) (cond (pC (([48]:BS),(aCw .i64 (9-(aCx (fV a).length))))) (cond (fits (h.length+(dO (om (([48]:BS),(aCw .i64 (9-(aCx (fV a).length)))))).length) 1) (jC K d (fV a) a a b c b b j f (h++(dO (om (([48]:BS),(aCw .i64 (9-(aCx (fV a).length))))))) c) (none)) (none)) (jC K d (fV a) a a b c b b j f h c)) (none):=by rw [<-B.e K (jC K d)];kernel_rfl
def Mi:jz K a=cond (Nat.blt 0 a.length) (cond (bZ 0 (aCx a.length)&&dD (aCx a.length) (aCx a.length)&&fits (aCx a.length).toNat 1) (cond (um a) (some (ofBytes (a.take ((aCx a.length).toNat)))) (none)) (none)) (none):=af
def rU:fx K (k+1) a c d b f=cond ((dD 0 a)) (pI K k a c d b f) (jz K b):=by rw [<-B.e K (pI K k),<-B.e K (jz K)];kernel_rfl
def Mo:pT K b c d a=fx K K (aCw .i64 ((aCx a.length)-1)) b c d a:=by rw [<-B.e K (fx K K)];kernel_rfl
def Md:jx K b a c=pT K b a c a:=by rw [<-B.e K (pT K)];kernel_rfl
def M1:pS K a b=cond (a) (jx K a b ([45]:LI)) (jx K a b ([]:LI)):=by rw [<-B.e K (jx K)];kernel_rfl
def RL:AJ K a=cond ((Int.same (aCx a.2.length) 0)) (some ([48]:BS)) (pS K a.1 a.2):=by rw [<-B.e K (pS K)];kernel_rfl
def wV:Fx (Int):=⟨[(167,tk)],[],Fa (E0.fn 268) [4,2,4] [] [],aJ [none] (.int .i64) some⟩
def pP K a b:=J wV K 11 [] [(.ptr 0 0)] [some (.cells [(vb a),(mP b)])]
def Ap K (a:Bool×LI):=Jt wV K (aI [some 2] (aE (.pair .bool (.list (.int .i64))) a))
attribute [irreducible] pP Ap
def Mq:pP K c a=(dW a (aCw .i64 ((aCx a.length)-1))).bind λb=>cond (ll b) (some (aCw .i64 ((aCw .i64 ((aCw .i64 ((aCx a.length)-1))*9))+(aCx (fV b).length)))) (none):=af
def QS:Ap K a=cond ((Int.same (aCx a.2.length) 0)) (some 0) (pP K a.1 a.2):=by rw [<-B.e K (pP K)];kernel_rfl
end
end Ls.cU
namespace Ls.aiB
open dC
open Ls.Lf
open Go
set_option autoImplicit true
set_option relaxedAutoImplicit true
noncomputable section
def jJ:Fx (Bool):=⟨[],[],Fa (E0.fn 11) [4,1,9,0,9,4,9,25,9,25,4,25,9,0,4] [] [],aJ [none] .bool some⟩
def zG K a b (c:List (Int×cC×BS×BS)) d f:=J jJ K 1386643 [a,b] [(.val (.list (.pair (.int .i64) (.pair (.list .str) (.pair .str .str)))) c),(vi d),(vi f)] []
def By K a b (c:List (Int×cC×BS×BS)) d f:=J jJ K 338067 [a,b] [(.val (.list (.pair (.int .i64) (.pair (.list .str) (.pair .str .str)))) c),(vi d),(vi f)] []
def zO K a (b:List (Int×cC×BS×BS)) c:=J jJ K 2707 [a] [(.val (.list (.pair (.int .i64) (.pair (.list .str) (.pair .str .str)))) b),(vi c)] []
def mW K a n (b:List (Int×cC×BS×BS)) c d:=Jl jJ K n 43155 [a] [(.val (.list (.pair (.int .i64) (.pair (.list .str) (.pair .str .str)))) b),(vi c),(vi d)] []
def Bf K a (b:List (Int×cC×BS×BS)) c:=J jJ K 10387 [a] [(.val (.list (.pair (.int .i64) (.pair (.list .str) (.pair .str .str)))) b),(vi c)] []
def B4 K a (b:List (Int×cC×BS×BS)) c:=J jJ K 659 [a] [(.val (.list (.pair (.int .i64) (.pair (.list .str) (.pair .str .str)))) b),(vi c)] []
def Ab K:=J jJ K 43 [] [] []
def gD K n (a:List (Int×cC×BS×BS)) b:=Jl jJ K n 83 [] [(.val (.list (.pair (.int .i64) (.pair (.list .str) (.pair .str .str)))) a),(vi b)] []
def BL K (a:List (Int×cC×BS×BS)):=J jJ K 11 [] [(.val (.list (.pair (.int .i64) (.pair (.list .str) (.pair .str .str)))) a)] []
def Rl K (a:List (Int×cC×BS×BS)):=Jt jJ K (aI [none] (aE (.list (.pair (.int .i64) (.pair (.list .str) (.pair .str .str)))) a))
attribute [irreducible] zG By zO mW Bf B4 Ab gD BL Rl
def Xx:zG K a b c d f=mW K a b c d (aCw .i64 (f+1)):=af
def Zs:By K c d f h j=(dW f h).bind λa=>(dW a.2.1 j).bind λb=>cond ((bZ 26 (aCx b.length))) (some false) (zG K c d f h j):=by rw [<-B.e K (zG K c d)];kernel_rfl
def J6:zO K a b c=gD K a b (aCw .i64 (c+1)):=af
def Lx:mW K a (k+1) b c d=(dW b c).bind λf=>cond ((bZ d (aCx f.2.1.length))) (By K a k b c d) (zO K a b c):=by rw [<-B.e K (By K a k),<-B.e K (zO K a)];kernel_rfl
def aav:Bf K a b c=mW K a K b c 0:=by rw [<-B.e K (mW K a K)];kernel_rfl
def YN:B4 K c a b=(dW a b).bind λd=>cond ((bZ 26 (aCx d.2.2.1.length))) (some false) ((dW a b).bind λf=>cond ((bZ 26 (aCx f.2.2.2.length))) (some false) (Bf K c a b)):=by rw [<-B.e K (Bf K c)];kernel_rfl
def JX:Ab K=some true:=af
def L8:gD K (k+1) a b=cond ((bZ b (aCx a.length))) (B4 K k a b) (Ab K):=by rw [<-B.e K (B4 K k),<-B.e K (Ab K)];kernel_rfl
def aaj:BL K a=gD K K a 0:=by rw [<-B.e K (gD K K)];kernel_rfl
def afP:Rl K a=cond ((dD (aCx a.length) 4)) (some true) (cond ((bZ 64 (aCx a.length))) (some true) (BL K a)):=by rw [<-B.e K (BL K)];kernel_rfl
def mS:Fx (Bool):=⟨[(11,Ql),(12,Og)],[],Fa (E0.fn 4) [16,2,34,0,34,16,34,98,34,98,16,98,34,0,16] [] [],aJ [none] .bool some⟩
def Ej K a b (c:List (Int×cC×BS×BS)) d f:=J mS K 1386643 [a,b] [(.val (.list (.pair (.int .i64) (.pair (.list .str) (.pair .str .str)))) c),(vi d),(vi f)] []
def He K a b (c:List (Int×cC×BS×BS)) d f:=J mS K 338067 [a,b] [(.val (.list (.pair (.int .i64) (.pair (.list .str) (.pair .str .str)))) c),(vi d),(vi f)] []
def En K a (b:List (Int×cC×BS×BS)) c:=J mS K 2707 [a] [(.val (.list (.pair (.int .i64) (.pair (.list .str) (.pair .str .str)))) b),(vi c)] []
def qv K a n (b:List (Int×cC×BS×BS)) c d:=Jl mS K n 43155 [a] [(.val (.list (.pair (.int .i64) (.pair (.list .str) (.pair .str .str)))) b),(vi c),(vi d)] []
def G7 K a (b:List (Int×cC×BS×BS)) c:=J mS K 10387 [a] [(.val (.list (.pair (.int .i64) (.pair (.list .str) (.pair .str .str)))) b),(vi c)] []
def GG K a (b:List (Int×cC×BS×BS)) c:=J mS K 659 [a] [(.val (.list (.pair (.int .i64) (.pair (.list .str) (.pair .str .str)))) b),(vi c)] []
def Eo K:=J mS K 43 [] [] []
def jO K n (a:List (Int×cC×BS×BS)) b:=Jl mS K n 83 [] [(.val (.list (.pair (.int .i64) (.pair (.list .str) (.pair .str .str)))) a),(vi b)] []
def qj K (a:List (Int×cC×BS×BS)):=J mS K 11 [] [(.val (.list (.pair (.int .i64) (.pair (.list .str) (.pair .str .str)))) a)] []
def Zo K (a:cC×BS) (b:List (Int×cC×BS×BS)):=Jt mS K (aI [some 2,none] (aE (.pair (.pair (.list .str) .str) (.list (.pair (.int .i64) (.pair (.list .str) (.pair .str .str))))) (a,b)))
attribute [irreducible] Ej He En qv G7 GG Eo jO qj Zo
def abp:Ej K a b c d f=qv K a b c d (aCw .i64 (f+1)):=af
def aeq:He K c d f h j=(dW f h).bind λa=>(dW a.2.1 j).bind λb=>cond ((bZ 210 (aCx b.length))) (some false) (Ej K c d f h j):=by rw [<-B.e K (Ej K c d)];kernel_rfl
def O2:En K a b c=jO K a b (aCw .i64 (c+1)):=af
def Q5:qv K a (k+1) b c d=(dW b c).bind λf=>cond ((bZ d (aCx f.2.1.length))) (He K a k b c d) (En K a b c):=by rw [<-B.e K (He K a k),<-B.e K (En K a)];kernel_rfl
def aeJ:G7 K a b c=qv K a K b c 0:=by rw [<-B.e K (qv K a K)];kernel_rfl
def afi:GG K c a b=(dW a b).bind λd=>cond ((bZ 40 (aCx d.2.1.length))) (some false) ((dW a b).bind λf=>cond ((bZ 210 (aCx f.2.2.1.length))) (some false) (G7 K c a b)):=by rw [<-B.e K (G7 K c)];kernel_rfl
def O7:Eo K=some true:=af
def RJ:jO K (k+1) a b=cond ((bZ b (aCx a.length))) (GG K k a b) (Eo K):=by rw [<-B.e K (GG K k),<-B.e K (Eo K)];kernel_rfl
def aea:qj K a=jO K K a 0:=by rw [<-B.e K (jO K K)];kernel_rfl
def ak8:Zo K a b=cond (s9 b) (cond ((!(sC b))) (some false) (cond ((bZ 3 (aCx a.1.length))) (cond ((dD (aCx a.1.length) 32)) (some false) (cond ((bZ 7 (aCx b.length))) (cond ((dD (aCx b.length) 64)) (some false) (cond ((bZ 40 (aCx a.1.length))) (some false) (cond ((bZ 70 (aCx b.length))) (some false) (cond (jb (a.1,a.2)) (cond ((!(kQ (a.1,a.2)))) (some false) (qj K b)) (none))))) (cond ((bZ 40 (aCx a.1.length))) (some false) (cond ((bZ 70 (aCx b.length))) (some false) (cond (jb (a.1,a.2)) (cond ((!(kQ (a.1,a.2)))) (some false) (qj K b)) (none)))))) (cond ((bZ 7 (aCx b.length))) (cond ((dD (aCx b.length) 64)) (some false) (cond ((bZ 40 (aCx a.1.length))) (some false) (cond ((bZ 70 (aCx b.length))) (some false) (cond (jb (a.1,a.2)) (cond ((!(kQ (a.1,a.2)))) (some false) (qj K b)) (none))))) (cond ((bZ 40 (aCx a.1.length))) (some false) (cond ((bZ 70 (aCx b.length))) (some false) (cond (jb (a.1,a.2)) (cond ((!(kQ (a.1,a.2)))) (some false) (qj K b)) (none))))))) (none):=by rw [<-B.e K (qj K)];kernel_rfl
def uq:Fx (Bool):=⟨[(4,W2),(5,MB),(6,IB),(7,DO),(8,HT),(9,JE),(10,OQ)],[],Fa (E0.fn 3) [64,42,64] [] [],aJ [none] .bool some⟩
def oC K (a:List (Int×cC×BS×BS)) b c d f h j k:=J uq K 11 [] [(.val (.list (.pair (.int .i64) (.pair (.list .str) (.pair .str .str)))) a),(.ptr 0 0),(.ptr 1 0)] [some (.cells [(rz b),(vs c)]),some (.cells [(vi d),(vs f),(rz h),(rz j),(rz k)])]
def yH K (a:cC×BS) (b:List (Int×cC×BS×BS)) (c:Int×BS×cC×cC×cC):=Jt uq K (aI [some 2,none,some 5] (aE (.pair (.pair (.list .str) .str) (.pair (.list (.pair (.int .i64) (.pair (.list .str) (.pair .str .str)))) (.pair (.int .i64) (.pair .str (.pair (.list .str) (.pair (.list .str) (.list .str))))))) (a,b,c)))
attribute [irreducible] oC yH
def Lg:oC K a b c d f h j k=cond (fj ((b,c),a)) (cond (gr ((b,c),a)) (cond ((Int.same (ix ((b,c),a)) (j7 ((b,c),a)))) (cond (gR ((b,c),(a,(d,(f,(h,(j,k))))))) (cond (rh ((b,c),(a,(d,(f,(h,(j,k))))))) (cond ((Int.same (oh ((b,c),(a,(d,(f,(h,(j,k))))))) (qA ((b,c),(a,(d,(f,(h,(j,k))))))))) (cond (iE ()) (some (j0 ())) (none)) (some false)) (none)) (none)) (some false)) (none)) (none):=af
def PQ:yH K b c a=cond (xP ((b.1,b.2),c)) (cond ((!(wQ ((b.1,b.2),c)))) (cond (iE ()) (some (j0 ())) (none)) (cond (fY a.2.2.1) (cond ((!(jV a.2.2.1))) (cond (iE ()) (some (j0 ())) (none)) (cond (fY a.2.2.2.1) (cond ((!(jV a.2.2.2.1))) (cond (iE ()) (some (j0 ())) (none)) (cond (fY a.2.2.2.2) (cond ((!(jV a.2.2.2.2))) (cond (iE ()) (some (j0 ())) (none)) (cond ((bZ 450 (aCx a.2.1.length))) (cond (iE ()) (some (j0 ())) (none)) (oC K c b.1 b.2 a.1 a.2.1 a.2.2.1 a.2.2.2.1 a.2.2.2.2))) (none))) (none))) (none))) (none):=by rw [<-B.e K (oC K)];kernel_rfl
end
end Ls.aiB
namespace Ls.qE
open dC
open Ls.Lf
open Go
set_option autoImplicit true
set_option relaxedAutoImplicit true
noncomputable section
def eI:=Fa (E0.fn 130) [256,15,256,512,256] [] []
def cF:Fx (BS):=⟨[(131,O6)],[(130,eI)],Fa (E0.fn 91) [64,64,7,64] [] [],aJ [none] .str some⟩
def apU K:=(eF eI (λv b=>re b (some 18) v λa=>Fg (tA (Tm cF.s) (lkL cF.l) K 12) [] (aCI 4 (rgn (Jn cF 19))) a (okK (vQ (Rx cF K (Jn cF 27)) (eF cF.F (aJ [none] .str some))))):KL (BS))
def apH a b c d f h:=(⟨19,[(17,(vs a)),(16,(vs b)),(15,(.iX [(vi c)] 0)),(0,(.iX [(vi d)] 0)),(1,(vs f)),(2,(vs h))]⟩:LF)
def lQ (K:Nat) (a b c:BS) (d f:Int) (h j:BS):=Rn cF.s cF.l K 11 (nd 99 eI.body 91) ⟨⟨30,[(9,(vs a))]⟩,[(apH b c d f h j),⟨0,[]⟩],[]⟩ (apU K)
def lP (K:Nat) (a:Int) (b c d f:BS) (h j:Int) (k n:BS):=Rn cF.s cF.l K 11 (nd 99 eI.body 11) ⟨⟨30,[(0,(.iX [(vi a)] 0)),(1,(.func 131 [] [])),(2,(vs b)),(3,(vs c))]⟩,[(apH d f h j k n),⟨0,[]⟩],[]⟩ (apU K)
def lL K a b c:=J cF K 11 [] [(.iX [(vi a)] 0),(vs b),(vs c)] []
def sY K (a:Int) (b:BS) (c:BS):=Jt cF K (aI [none,none,none] (aE (.pair (.ref (.int .i64)) (.pair .str .str)) (a,b,c)))
attribute [irreducible] lQ lP lL sY
def GW:lQ K a b c d f h j=some a:=af
def GH:lP K l a b c d f h j k=cond (rf (a,b)) (cond ((!(Int.same (nw (a,b)).2 0))) (none) (lQ K ((nw (a,b)).1) c d f h j k)) (none):=by rw [<-B.e K (lQ K)];kernel_rfl
def GU:lL K a b c=cond ((!(Int.same a 0))) (some ([48]:BS)) (lP K a b c c b a a b c):=by rw [<-B.e K (lP K)];kernel_rfl
def KZ:sY K c a b=cond ((aD a ([48]:BS))) (some b) (cond ((aD b ([48]:BS))) (some a) (lL K c a b)):=by rw [<-B.e K (lL K)];kernel_rfl
def cE:Fx (BS):=⟨[(132,OG)],[(130,eI)],Fa (E0.fn 92) [64,64,64,7,64] [] [],aJ [none] .str some⟩
def aqd K:=(eF eI (λv b=>re b (some 25) v λa=>Fg (tA (Tm cE.s) (lkL cE.l) K 12) [] (aCI 4 (rgn (Jn cE 19))) a (okK (vQ (Rx cE K (Jn cE 27)) (eF cE.F (aJ [none] .str some))))):KL (BS))
def apS a b c d f h:=(⟨26,[(24,(vs a)),(23,(vs b)),(22,(.iX [(vi c)] 0)),(0,(.iX [(vi d)] 0)),(1,(vs f)),(2,(vs h))]⟩:LF)
def lO (K:Nat) (a b c:BS) (d f:Int) (h j:BS):=Rn cE.s cE.l K 11 (nd 99 eI.body 91) ⟨⟨30,[(9,(vs a))]⟩,[(apS b c d f h j),⟨0,[]⟩],[]⟩ (aqd K)
def lR (K:Nat) (a:Int) (b c d f:BS) (h j:Int) (k n:BS):=Rn cE.s cE.l K 11 (nd 99 eI.body 11) ⟨⟨30,[(0,(.iX [(vi a)] 0)),(1,(.func 132 [] [])),(2,(vs b)),(3,(vs c))]⟩,[(apS d f h j k n),⟨0,[]⟩],[]⟩ (aqd K)
def lT K a b c:=J cE K 11 [] [(.iX [(vi a)] 0),(vs b),(vs c)] []
def sU K (a:Int) (b:BS) (c:BS):=Jt cE K (aI [none,none,none] (aE (.pair (.ref (.int .i64)) (.pair .str .str)) (a,b,c)))
attribute [irreducible] lO lR lT sU
def G8:lO K a b c d f h j=some a:=af
def G4:lR K l a b c d f h j k=cond (rn (a,b)) (cond ((!(Int.same (nN (a,b)).2 0))) (none) (lO K ((nN (a,b)).1) c d f h j k)) (none):=by rw [<-B.e K (lO K)];kernel_rfl
def GS:lT K a b c=cond ((!(Int.same a 0))) (some ([48]:BS)) (lR K a b c c b a a b c):=by rw [<-B.e K (lR K)];kernel_rfl
def Lc:sU K c a b=cond ((aD a ([48]:BS))) (some ([48]:BS)) (cond ((aD b ([48]:BS))) (some ([48]:BS)) (cond ((aD a ([49]:BS))) (some b) (cond ((aD b ([49]:BS))) (some a) (lT K c a b)))):=by rw [<-B.e K (lT K)];kernel_rfl
def pq:Fx (BS):=⟨[(92,lM),(91,lV)],[],Fa (E0.fn 90) [28685,8,28685,8,256] [] [],aJ [none] .str some⟩
def uk a b c d:=([(vi a),(rz b),(vs c),(.val (.list (.pair (.int .i64) (.pair (.list .str) (.pair .str .str)))) d)]:List LV)
def rC K a b c d (f:List (Int×cC×BS×BS)) h j k l n:=J pq K 357 [a] [(.iX (uk b c d f) 0),(rz h),(vs j),(rz k),(vi l),(vi n)] []
def rF K a:=J pq K 11 [] [(vs a)] []
def lk K n a b c (d:List (Int×cC×BS×BS)) f h j k l:=Jl pq K n 21 [] [(.iX (uk a b c d) 0),(rz f),(vs h),(rz j),(vi k),(vi l)] []
def DE K (a:Int×cC×BS×List (Int×cC×BS×BS)) (b:Int×cC×BS×BS) (c:cC) (d:BS):=Jt pq K (aI [none,some 4,none,none] (aE (.pair (.ref (.pair (.int .i64) (.pair (.list .str) (.pair .str (.list (.pair (.int .i64) (.pair (.list .str) (.pair .str .str)))))))) (.pair (.pair (.int .i64) (.pair (.list .str) (.pair .str .str))) (.pair (.list .str) .str))) (a,b,c,d)))
attribute [irreducible] rC rF lk DE
def PJ:rC K k a l n p f h j q b=(dW j b).bind λc=>(dW f b).bind λd=>cond (dc (a,(c,d))) (cond (dd (a,(h,(b6 (a,(c,d)))))) (lk K k a l n p f (dv (a,(h,(b6 (a,(c,d)))))) j q (aCw .i64 (b+1))) (none)) (none):=af
def Dh:rF K a=some a:=af
def Da:lk K (k+1) d f h j l a n b c=cond ((bZ c b)) (rC K k d f h j l a n b c) (rF K a):=by rw [<-B.e K (rC K k),<-B.e K (rF K)];kernel_rfl
def UW:DE K a b c d=lk K K a.1 a.2.1 a.2.2.1 a.2.2.2 c d b.2.1 (aCx b.2.1.length) 0:=by rw [<-B.e K (lk K K)];kernel_rfl
def mX:Fx (BS):=⟨[(92,lM),(91,lV)],[],Fa (E0.fn 55) [57351,4,57351,4,64] [] [],aJ [none] .str some⟩
def pF K a b c d (f:List (Int×cC×BS×BS)) h j k l n:=J mX K 357 [a] [(.iX (uk b c d f) 0),(rz h),(vs j),(rz k),(vi l),(vi n)] []
def pR K a:=J mX K 11 [] [(vs a)] []
def jw K n a b c (d:List (Int×cC×BS×BS)) f h j k l:=Jl mX K n 21 [] [(.iX (uk a b c d) 0),(rz f),(vs h),(rz j),(vi k),(vi l)] []
def Aq K (a:Int×cC×BS×List (Int×cC×BS×BS)) (b:cC) (c:BS):=Jt mX K (aI [none,none,none] (aE (.pair (.ref (.pair (.int .i64) (.pair (.list .str) (.pair .str (.list (.pair (.int .i64) (.pair (.list .str) (.pair .str .str)))))))) (.pair (.list .str) .str)) (a,b,c)))
attribute [irreducible] pF pR jw Aq
def Mt:pF K k a l n p f h j q b=(dW j b).bind λc=>(dW f b).bind λd=>cond (dc (a,(c,d))) (cond (dd (a,(h,(b6 (a,(c,d)))))) (jw K k a l n p f (dv (a,(h,(b6 (a,(c,d)))))) j q (aCw .i64 (b+1))) (none)) (none):=af
def AO:pR K a=some a:=af
def AS:jw K (k+1) d f h j l a n b c=cond ((bZ c b)) (pF K k d f h j l a n b c) (pR K a):=by rw [<-B.e K (pF K k),<-B.e K (pR K)];kernel_rfl
def Qx:Aq K a b c=jw K K a.1 a.2.1 a.2.2.1 a.2.2.2 b c a.2.1 (aCx a.2.1.length) 0:=by rw [<-B.e K (jw K K)];kernel_rfl
def nZ:=Fa (E0.fn 89) [92,32] [] []
def eT:=Fa (E0.fn 88) [16] [] []
def bB:=Fa (E0.fn 129) [387,0,387,16,387,0,16] [] []
def aK:Fx (Bool):=⟨[(90,Ge),(57,rl)],[(89,nZ),(88,eT),(129,bB)],Fa (E0.fn 54) [64] [] [],aJ [none] .bool some⟩
def asI K:=(eF bB (λv b=>re b (some 7) v λa=>Fg (tA (Tm aK.s) (lkL aK.l) K 11) [] (aCI 3 (rgn (nd 99 eT.body 5))) a (okK (vQ (Rn aK.s aK.l K 11 (nd 99 eT.body 7)) (eF eT (λv b=>re b (some 12) v λa=>Fg (tA (Tm aK.s) (lkL aK.l) K 12) [] (aCI 6 (rgn (Jn aK 5))) a (okK (vQ (Rx aK K (Jn aK 7)) (eF aK.F (aJ [none] .bool some))))))))):KL (Bool))
def R0:=([(.ptr 2 0),(.ptr 0 0),(.ptr 1 0)]:List LV)
def anL a b c:=(⟨9,[(6,(.func 89 [] R0)),(5,(.val (.list (.pair (.int .i64) (.pair (.list .str) (.pair .str .str)))) a)),(4,(vb b)),(0,(.val (.list (.pair (.int .i64) (.pair (.list .str) (.pair .str .str)))) c)),(1,(.func 89 [] R0))]⟩:LF)
def amA v w x y a b c d f h j k l n p q r s t u:=(⟨14,[(11,(.func 89 [] R0)),(10,(.val (.list (.pair (.int .i64) (.pair (.list .str) (.pair .str .str)))) v)),(9,(.iX (uk w x y a) 3)),(8,(.iX (uk b c d f) 0)),(7,(.iX (uk h j k l) 0)),(6,(vb n)),(5,(.ptr 2 0)),(4,(.ptr 1 0)),(3,(.ptr 0 0)),(0,(.iX (uk p q r s) 0)),(1,(rz t)),(2,(vb u))]⟩:LF)
def aoL D E F G H I K L M N a b c d f h j k l n p q r s t u v w x y z A:=(⟨⟨19,[(0,(.val (.list (.pair (.int .i64) (.pair (.list .str) (.pair .str .str)))) D)),(1,(.func 89 [] R0)),(7,(vi E)),(8,(vi F))]⟩,[(anL G H I),(amA K L M N a b c d f h j k l n p q r s t u),⟨0,[]⟩],[some (.cells [(.iX (uk v w x y) 0)]),some (.cells [(rz z)]),some (.cells [(vb A)])]⟩:St)
def apQ K:=(k5 0 (vQ (Rn aK.s aK.l K 10 (nd 99 bB.body 7)) (asI K)):KL (Bool))
def aje:=(iI (lpc (nd 99 bB.body 21)):St->(St->Option (Bool))->Option (Bool))
def aol a K:=(J8 aje (rb a (Rn aK.s aK.l K 10 (nd 99 bB.body 37)) aje) (apQ K):KL (Bool))
def fL (K F:Nat) (G:List (Int×cC×BS×BS)) (H I:Int) (L:List (Int×cC×BS×BS)) (M:Bool) (N O:List (Int×cC×BS×BS)) (P:Int) (Q:cC) (R:BS) (a:List (Int×cC×BS×BS)) (b:Int) (c:cC) (d:BS) (f:List (Int×cC×BS×BS)) (h:Int) (j:cC) (k:BS) (n:List (Int×cC×BS×BS)) (p:Bool) (q:Int) (r:cC) (t:BS) (u:List (Int×cC×BS×BS)) (v:cC) (w:Bool) (x:Int) (y:cC) (z:BS) (A:List (Int×cC×BS×BS)) (D:cC) (E:Bool):=Rn aK.s aK.l K 10 (nd 99 bB.body 1381) (aoL G H I L M N O P Q R a b c d f h j k n p q r t u v w x y z A D E) (aol F K)
def fO (K j1:Nat) (x0:BS) (x1:Int) (x2:cC) (x3 x4:BS) (x5:Int) (x6:cC) (x7 x8:BS) (x9:Int) (a:List (Int×cC×BS×BS)) (b c:Int) (d:List (Int×cC×BS×BS)) (f h:Int) (j:List (Int×cC×BS×BS)) (k:Bool) (n p:List (Int×cC×BS×BS)) (q:Int) (r:cC) (t:BS) (u:List (Int×cC×BS×BS)) (w:Int) (x:cC) (y:BS) (z:List (Int×cC×BS×BS)) (A:Int) (D:cC) (E:BS) (F:List (Int×cC×BS×BS)) (G:Bool) (H:Int) (I:cC) (L:BS) (M:List (Int×cC×BS×BS)) (N:cC) (O:Bool) (P:Int) (Q:cC) (R:BS) (S:List (Int×cC×BS×BS)) (T:cC) (U:Bool) (V:Int) (W:cC) (Y Z:BS):=Rn aK.s aK.l K 9 (nd 99 nZ.body 23) ⟨⟨27,[(2,(.ptr 0 0)),(3,(.ptr 1 0)),(4,(.ptr 3 0)),(6,(vs x0))]⟩,[⟨19,[(15,(.agg [(vi x1),(rz x2),(vs x3),(vs x4)])),(14,(.iX [(vi x5),(rz x6),(vs x7),(vs x8)] 0)),(13,(vi x9)),(12,(.val (.list (.pair (.int .i64) (.pair (.list .str) (.pair .str .str)))) a)),(11,(.func 89 [] R0)),(5,(vi b)),(10,(vi c)),(0,(.val (.list (.pair (.int .i64) (.pair (.list .str) (.pair .str .str)))) d)),(1,(.func 89 [] R0)),(7,(vi f)),(8,(vi h))]⟩,(anL j k n),(amA p q r t u w x y z A D E F G H I L M N O),⟨0,[]⟩],[some (.cells [(.iX (uk P Q R S) 0)]),some (.cells [(rz T)]),some (.cells [(vb U)]),some (.cells [(vi V),(rz W),(vs Y),(vs Z)])]⟩ (eF nZ (λv s'=>re s' (some 16) v λva=>Fg (tA (Tm aK.s) (lkL aK.l) K 10) [] (aCI 6 (rgn (nd 99 bB.body 5221))) va (okK (vQ (Rn aK.s aK.l K 10 (nd 99 bB.body 7269)) (k5 1 (vQ (Rn aK.s aK.l K 10 (nd 99 bB.body 869)) (aol j1 K)))))))
def k8 (K F:Nat) (G:List (Int×cC×BS×BS)) (H I:Int) (L:List (Int×cC×BS×BS)) (M:Bool) (N O:List (Int×cC×BS×BS)) (P:Int) (Q:cC) (R:BS) (a:List (Int×cC×BS×BS)) (b:Int) (c:cC) (d:BS) (f:List (Int×cC×BS×BS)) (h:Int) (j:cC) (k:BS) (n:List (Int×cC×BS×BS)) (p:Bool) (q:Int) (r:cC) (t:BS) (u:List (Int×cC×BS×BS)) (v:cC) (w:Bool) (x:Int) (y:cC) (z:BS) (A:List (Int×cC×BS×BS)) (D:cC) (E:Bool):=Rn aK.s aK.l K 10 (nd 99 bB.body 357) (aoL G H I L M N O P Q R a b c d f h j k n p q r t u v w x y z A D E) (aol F K)
def kX (K:Nat) (A:List (Int×cC×BS×BS)) (D:Bool) (E F:List (Int×cC×BS×BS)) (G:Int) (H:cC) (I:BS) (L:List (Int×cC×BS×BS)) (M:Int) (N:cC) (a:BS) (b:List (Int×cC×BS×BS)) (c:Int) (d:cC) (f:BS) (h:List (Int×cC×BS×BS)) (j:Bool) (k:Int) (n:cC) (p:BS) (q:List (Int×cC×BS×BS)) (r:cC) (t:Bool) (u:Int) (v:cC) (w:BS) (x:List (Int×cC×BS×BS)) (y:cC) (z:Bool):=Rn aK.s aK.l K 10 (nd 99 bB.body 11) ⟨⟨19,[]⟩,[(anL A D E),(amA F G H I L M N a b c d f h j k n p q r t),⟨0,[]⟩],[some (.cells [(.iX (uk u v w x) 0)]),some (.cells [(rz y)]),some (.cells [(vb z)])]⟩ (asI K)
def fM (K n:Nat) (G:List (Int×cC×BS×BS)) (H I:Int) (L:List (Int×cC×BS×BS)) (M:Bool) (N O:List (Int×cC×BS×BS)) (P:Int) (Q:cC) (R:BS) (a:List (Int×cC×BS×BS)) (b:Int) (c:cC) (d:BS) (f:List (Int×cC×BS×BS)) (h:Int) (j:cC) (k:BS) (p:List (Int×cC×BS×BS)) (q:Bool) (r:Int) (t:cC) (u:BS) (v:List (Int×cC×BS×BS)) (w:cC) (x:Bool) (y:Int) (z:cC) (A:BS) (D:List (Int×cC×BS×BS)) (E:cC) (F:Bool):=rb n (Rn aK.s aK.l K 10 (nd 99 bB.body 37)) aje (aoL G H I L M N O P Q R a b c d f h j k p q r t u v w x y z A D E F) (apQ K)
def rY K (a:Int×cC×BS×List (Int×cC×BS×BS)) (b:cC) (c:Bool):=Jt aK K (aI [none,none,none] (aE (.pair (.ref (.pair (.int .i64) (.pair (.list .str) (.pair .str (.list (.pair (.int .i64) (.pair (.list .str) (.pair .str .str)))))))) (.pair (.list .str) .bool)) (a,b,c)))
attribute [irreducible] fL fO k8 kX fM rY
def FI:fL K D E F G H I L M N O P a b c d f h j k l n p q r s t u v w x y z A=fM K D E F (aCw .i64 (G+1)) H I L M N O P a b c d f h j k l n p q r s t u v w x y z A:=af
def FO:fO K V U Z x2 x3 x4 x5 x6 x7 x8 x9 W n Y p q r s t u v w x y z A D E F G H I L M N O P Q R S a b c d f T h j k l=cond (ic ((a,(b,(c,d))),((h,(j,(k,l))),(f,U)))) (cond (ej (fB ((a,(b,(c,d))),((h,(j,(k,l))),(f,U))))) (cond ((fC (fB ((a,(b,(c,d))),((h,(j,(k,l))),(f,U)))))) (some (!(dD 0 n))) (cond ((Int.same h 1)) (cond ((!(aD (fB ((a,(b,(c,d))),((h,(j,(k,l))),(f,U)))) ([48]:BS)))) (some (!(dD 0 n))) (fL K V p q r s t u v w x y z A D E F G H I L M N O P Q R S a b c d f T)) (fL K V p q r s t u v w x y z A D E F G H I L M N O P Q R S a b c d f T))) (none)) (none):=by rw [<-B.e K (fL K V)];kernel_rfl
def FX:k8 K G d H b I L M N O P Q f h j k l n p q r s t u v w x y z A D E F c=(dW d b).bind λa=>cond (c) (fO K G ([48]:BS) a.1 a.2.1 a.2.2.1 a.2.2.2 a.1 a.2.1 a.2.2.1 a.2.2.2 b d b b d H b I L M N O P Q f h j k l n p q r s t u v w x y z A D E F c a.1 a.2.1 a.2.2.1 a.2.2.2) (fO K G a.2.2.1 a.1 a.2.1 a.2.2.1 a.2.2.2 a.1 a.2.1 a.2.2.1 a.2.2.2 b d b b d H b I L M N O P Q f h j k l n p q r s t u v w x y z A D E F c a.1 a.2.1 a.2.2.1 a.2.2.2):=by rw [<-B.e K (fO K G)];kernel_rfl
def tv:kX K y z A D E F G H I L a b c d f h j k l n p q r s t u v w x=some true:=af
def tP:fM K (k+1) P E F G H I L M N O a b c d f h j l n p q r s t u v w x y z A D=cond ((bZ F E)) (k8 K k P E F G H I L M N O a b c d f h j l n p q r s t u v w x y z A D) (kX K G H I L M N O a b c d f h j l n p q r s t u v w x y z A D):=by rw [<-B.e K (k8 K k),<-B.e K (kX K)];kernel_rfl
def Jr:rY K a b c=fM K K a.2.2.2 (aCx a.2.2.2.length) 0 a.2.2.2 false a.2.2.2 a.2.2.2 a.1 a.2.1 a.2.2.1 a.2.2.2 a.1 a.2.1 a.2.2.1 a.2.2.2 a.1 a.2.1 a.2.2.1 a.2.2.2 false a.1 a.2.1 a.2.2.1 a.2.2.2 b c a.1 a.2.1 a.2.2.1 a.2.2.2 b c:=by rw [<-B.e K (fM K K)];kernel_rfl
def fi:=Fa (E0.fn 94) [16] [] []
def cl:=Fa (E0.fn 133) [387,0,387,16,387,0,16] [] []
def aQ:Fx (Bool):=⟨[(93,lI),(57,rl),(92,lM),(91,lV),(95,vD)],[(94,fi),(133,cl)],Fa (E0.fn 56) [58721805,1544,58721805,256,58727949,504403158324219405,58721805,504403158324219405,58721805,1544,256] [] [],aJ [none] .bool some⟩
def JI a:=([none,some (.seq .str a)]:List (Option LB))
def lU K h j k l n (p:List (Int×cC×BS×BS)) q r s t (u:List (Int×cC×BS×BS)) v a b c d (f:cC):=J aQ K 2939083 [h,j] [(.iX (uk k l n p) 0),(rz q),(vs r),(vs s),(.own 1),(vi t),(.val (.list (.pair (.int .i64) (.pair (.list .str) (.pair .str .str)))) u),(vi v),(vi a),(rz b),(vi c),(vi d)] (JI f)
def iK K b c d f (h:List (Int×cC×BS×BS)) j k l (n:List (Int×cC×BS×BS)) p q (a:cC):=J aQ K 2763 [b] [(.iX (uk c d f h) 0),(rz j),(vs k),(vs l),(.own 1),(.val (.list (.pair (.int .i64) (.pair (.list .str) (.pair .str .str)))) n),(vi p),(vi q)] (JI a)
def gm K h n j k l (p:List (Int×cC×BS×BS)) q r s t (u:List (Int×cC×BS×BS)) v a b c d (f:cC):=Jl aQ K n 186571 [h] [(.iX (uk j k l p) 0),(rz q),(vs r),(vs s),(.own 1),(vi t),(.val (.list (.pair (.int .i64) (.pair (.list .str) (.pair .str .str)))) u),(vi v),(vi a),(rz b),(vi c),(vi d)] (JI f)
def gi K j k l n (p:List (Int×cC×BS×BS)) q r s t (u:List (Int×cC×BS×BS)) v a (b:cC) c d f h:=J aQ K 22731 [j] [(.iX (uk k l n p) 0),(rz q),(vs r),(vs s),(.own 1),(vi t),(.ptr 2 0),(.val (.list (.pair (.int .i64) (.pair (.list .str) (.pair .str .str)))) u),(vi v),(vi a)] [none,some (.seq .str b),some (.cells [(vi c),(rz d),(vs f),(vs h)])]
def lW K b c d f (h:List (Int×cC×BS×BS)) j k l (n:List (Int×cC×BS×BS)) p q (a:cC):=J aQ K 715 [b] [(.iX (uk c d f h) 0),(rz j),(vs k),(vs l),(.own 1),(.val (.list (.pair (.int .i64) (.pair (.list .str) (.pair .str .str)))) n),(vi p),(vi q)] (JI a)
def asF K:=(eF cl (λv b=>re b (some 7) v λa=>Fg (tA (Tm aQ.s) (lkL aQ.l) K 11) [] (aCI 3 (rgn (nd 99 fi.body 5))) a (okK (vQ (Rn aQ.s aQ.l K 11 (nd 99 fi.body 7)) (eF fi (λv b=>re b (some 90) v λa=>Fg (tA (Tm aQ.s) (lkL aQ.l) K 12) [] (aCI 6 (rgn (Jn aQ 39))) a (okK (vQ (Rx aQ K (Jn aQ 55)) (eF aQ.F (aJ [none] .bool some))))))))):KL (Bool))
def aoU a:=(⟨9,[(6,(.func 95 [] [])),(5,(.own 1)),(4,(vb a)),(0,(.own 1)),(1,(.func 95 [] []))]⟩:LF)
def aoR b c d f h j k a:=(⟨93,[(88,(vb b)),(89,(.own 1)),(88,(vb c)),(88,(vb d)),(87,(vb f)),(86,(vs h)),(85,(vs j)),(3,(vs k)),(9,(vs a)),(10,(.own 1))]⟩:LF)
def aoB c d f h j k l n p q a b:=(⟨⟨19,[(0,(.own 1)),(1,(.func 95 [] [])),(7,(vi c)),(8,(vi d))]⟩,[(aoU f),(aoR h j k l n p q a),⟨0,[]⟩],(JI b)⟩:St)
def aoZ K:=(k5 0 (vQ (Rn aQ.s aQ.l K 10 (nd 99 cl.body 7)) (asF K)):KL (Bool))
def ajj:=(iI (lpc (nd 99 cl.body 21)):St->(St->Option (Bool))->Option (Bool))
def apq a K:=(J8 ajj (rb a (Rn aQ.s aQ.l K 10 (nd 99 cl.body 37)) ajj) (aoZ K):KL (Bool))
def kF (K a:Nat) (d f:Int) (h j k n p:Bool) (q r t b:BS) (c:cC):=Rn aQ.s aQ.l K 10 (nd 99 cl.body 1381) (aoB d f h j k n p q r t b c) (apq a K)
def ld (K a:Nat) (d f:Int) (h j k n p:Bool) (q r t b:BS) (c:cC):=Rn aQ.s aQ.l K 10 (nd 99 cl.body 357) (aoB d f h j k n p q r t b c) (apq a K)
def kT (K:Nat) (a b c d f:Bool) (h j k n:BS) (p:cC):=Rn aQ.s aQ.l K 10 (nd 99 cl.body 11) ⟨⟨19,[]⟩,[(aoU a),(aoR b c d f h j k n),⟨0,[]⟩],(JI p)⟩ (asF K)
def fJ (K n:Nat) (c d:Int) (f h j k p:Bool) (q r t a:BS) (b:cC):=rb n (Rn aQ.s aQ.l K 10 (nd 99 cl.body 37)) ajj (aoB c d f h j k p q r t a b) (aoZ K)
def kR K a b (c:cC):=J aQ K 23 [] [(vs a),(vs b),(.own 1)] (JI c)
def gn K n b c d (f:List (Int×cC×BS×BS)) h j k (l:List (Int×cC×BS×BS)) p q (a:cC):=Jl aQ K n 43 [] [(.iX (uk b c d f) 0),(rz h),(vs j),(vs k),(.own 1),(.val (.list (.pair (.int .i64) (.pair (.list .str) (.pair .str .str)))) l),(vi p),(vi q)] (JI a)
def sM K (a:Int×cC×BS×List (Int×cC×BS×BS)) (b:cC×BS) (c:cC) (d:BS):=Jt aQ K (aI [none,some 2,none,none] (aE (.pair (.ref (.pair (.int .i64) (.pair (.list .str) (.pair .str (.list (.pair (.int .i64) (.pair (.list .str) (.pair .str .str)))))))) (.pair (.pair (.list .str) .str) (.pair (.list .str) .str))) (a,b,c,d)))
attribute [irreducible] lU iK gm gi lW kF ld kT fJ kR gn sM
def Hc:lU K q r d s t u n v w p x y j f k a b=(dW f a).bind λl=>(dW n p).bind λc=>cond (dc (d,(c,l))) (cond (C4 a b.length) ((b[a.toNat]?).bind λh=>cond (dd (d,(h,(b6 (d,(c,l)))))) (cond (C4 a b.length) (gm K q r d s t u n v w p x y j f k (aCw .i64 (a+1)) (b.set a.toNat (dv (d,(h,(b6 (d,(c,l)))))))) (none)) (none)) (none)) (none):=af
def F5:iK K b c d f h j k l n p q a=gn K b c d f h j k l n p (aCw .i64 (q+1)) a:=af
def uz:gm K f (k+1) j l n p q r s v t u a h b c d=cond ((bZ c b)) (lU K f k j l n p q r s v t u a h b c d) (iK K f j l n p q r s t u a d):=by rw [<-B.e K (lU K f k),<-B.e K (iK K f)];kernel_rfl
def G6:gi K j b p q r k s l n t u d f v c a w=(dW k n).bind λh=>cond (dc (b,(h,a))) (cond (dd (b,(l,(b6 (b,(h,a)))))) (gm K j K b p q r k s (dv (b,(l,(b6 (b,(h,a)))))) n t u d c (aCx c.length) 0 f) (none)) (none):=by rw [<-B.e K (gm K j K)];kernel_rfl
def GI:lW K d j k l n f p q h r b c=(dW h b).bind λa=>cond ((Int.same a.1 0)) ((dW f b).bind λs=>cond (ej s) (cond ((fC s)) (some false) (gi K d j k l n f p q b h r b c a.1 a.2.1 a.2.2.1 a.2.2.2)) (none)) (gi K d j k l n f p q b h r b c a.1 a.2.1 a.2.2.1 a.2.2.2):=by rw [<-B.e K (gi K d)];kernel_rfl
def FC:kF K a d f h j k l n p q r b c=fJ K a d (aCw .i64 (f+1)) h j k l n p q r b c:=af
def FM:ld K b j d k h l n p q r s f a=cond (C4 d a.length) ((a[d.toNat]?).bind λc=>cond (iw c) (cond ((jt c)) (cond (h) (some (!(dD 0 d))) (some false)) (kF K b j d k h l n p q r s f a)) (none)) (none):=by rw [<-B.e K (kF K b)];kernel_rfl
def tp:kT K b a c d f h j k l n=cond (a) (some true) (some false):=af
def tO:fJ K (k+1) c d f h j l n p q r a b=cond ((bZ d c)) (ld K k c d f h j l n p q r a b) (kT K f h j l n p q r a b):=by rw [<-B.e K (ld K k),<-B.e K (kT K)];kernel_rfl
def FT:kR K a b c=cond ((aD b a)) (fJ K K (aCx c.length) 0 false true true (aD b a) (aD b a) a b a b c) (some false):=by rw [<-B.e K (fJ K K)];kernel_rfl
def uJ:gn K (k+1) h j l n p b c q d f a=cond ((bZ f d)) (lW K k h j l n p b c q d f a) (kR K b c a):=by rw [<-B.e K (lW K k),<-B.e K (kR K)];kernel_rfl
def KO:sM K a b c d=cond (eM b.1) (gn K K a.1 a.2.1 a.2.2.1 a.2.2.2 c d b.2 a.2.2.2 (aCx a.2.2.2.length) 0 (pW b.1)) (none):=by rw [<-B.e K (gn K K)];kernel_rfl
def ub:Fx (Bool):=⟨[(54,vT),(55,C1),(56,yx),(57,rl),(58,O4)],[],Fa (E0.fn 27) [16,16,9,16] [] [],aJ [none] .bool some⟩
def ach a b c d f:=([(vi a),(vs b),(rz c),(rz d),(rz f)]:List LV)
def oy K a b c (d:List (Int×cC×BS×BS)) f h j k l:=J ub K 11 [] [(.iX (uk a b c d) 0),(.ptr 0 0)] [some (.cells (ach f h j k l))]
def yC K (a:Int×cC×BS×List (Int×cC×BS×BS)) (b:Int×BS×cC×cC×cC):=Jt ub K (aI [none,some 5] (aE (.pair (.ref (.pair (.int .i64) (.pair (.list .str) (.pair .str (.list (.pair (.int .i64) (.pair (.list .str) (.pair .str .str)))))))) (.pair (.int .i64) (.pair .str (.pair (.list .str) (.pair (.list .str) (.list .str)))))) (a,b)))
attribute [irreducible] oy yC
def Lq:oy K b a c d h j k l f=cond (oa (aCx a.length)) (cond (dA ((b,(a,(c,d))),(((nH (aCx a.length)).1,(nH (aCx a.length)).2),(f,([45,49]:BS))))) (some (fu ((b,(a,(c,d))),(((nH (aCx a.length)).1,(nH (aCx a.length)).2),(f,([45,49]:BS)))))) (none)) (none):=af
def Pu:yC K a b=cond ((Int.same b.1 0)) (cond (du ((a.1,(a.2.1,(a.2.2.1,a.2.2.2))),(b.2.2.1,false))) (cond ((bL ((a.1,(a.2.1,(a.2.2.1,a.2.2.2))),(b.2.2.1,false)))) (cond (dM ((a.1,(a.2.1,(a.2.2.1,a.2.2.2))),(b.2.2.1,a.2.2.1))) (cond ((aD (cY ((a.1,(a.2.1,(a.2.2.1,a.2.2.2))),(b.2.2.1,a.2.2.1))) b.2.1)) (cond (dA ((a.1,(a.2.1,(a.2.2.1,a.2.2.2))),((a.2.1,a.2.2.1),(b.2.2.2.2,b.2.1)))) (some (fu ((a.1,(a.2.1,(a.2.2.1,a.2.2.2))),((a.2.1,a.2.2.1),(b.2.2.2.2,b.2.1))))) (none)) (some false)) (none)) (some false)) (none)) (cond ((Int.same b.1 1)) (cond (dM ((a.1,(a.2.1,(a.2.2.1,a.2.2.2))),(b.2.2.2.1,([48]:BS)))) (cond (du ((a.1,(a.2.1,(a.2.2.1,a.2.2.2))),(b.2.2.1,false))) (cond ((bL ((a.1,(a.2.1,(a.2.2.1,a.2.2.2))),(b.2.2.1,false)))) (cond (du ((a.1,(a.2.1,(a.2.2.1,a.2.2.2))),(b.2.2.2.1,true))) (cond ((bL ((a.1,(a.2.1,(a.2.2.1,a.2.2.2))),(b.2.2.2.1,true)))) (cond ((!(aD (cY ((a.1,(a.2.1,(a.2.2.1,a.2.2.2))),(b.2.2.2.1,([48]:BS)))) ([48]:BS)))) (cond (ej (cY ((a.1,(a.2.1,(a.2.2.1,a.2.2.2))),(b.2.2.2.1,([48]:BS))))) (some (!(fC (cY ((a.1,(a.2.1,(a.2.2.1,a.2.2.2))),(b.2.2.2.1,([48]:BS))))))) (none)) (some false)) (some false)) (none)) (some false)) (none)) (none)) (oy K a.1 a.2.1 a.2.2.1 a.2.2.2 b.1 b.2.1 b.2.2.1 b.2.2.2.1 b.2.2.2.2)):=by rw [<-B.e K (oy K)];kernel_rfl
def wP:Fx (Bool):=⟨[],[],Fa (E0.fn 95) [4] [] [],aJ [none] .bool some⟩
def qU K (a:BS):=Jt wP K (aI [none] (aE .str a))
attribute [irreducible] qU
def Iz:qU K a=some (!(aD a ([48]:BS))):=af
def zt:Fx (cC):=⟨[(134,k9)],[],Fa (E0.fn 96) [4] [] [],ah8 .str some⟩
def Ei K (a:Int):=Jt zt K (aI [none] (aE (.int .i64) a))
attribute [irreducible] Ei
def abU:Ei K a=cond (ey (([([48]:BS)]:cC),a)) (some (gp (([([48]:BS)]:cC),a))) (none):=af
def aaq {E:Env} (b:ab6 E zt.s) (c:abE E zt.l) (k:eD E 96 zt.F.erase) (d: ∀a,mV a=true-> ∃K,Ei K a=some (o4 a)):aN E 96 Dn:=
 au2 (amn b c) k λx f=>let⟨K,h⟩:=d x f;⟨K,12,Eq.trans af h⟩
def P4:Fx ((cC×BS)):=⟨[(96,Dn)],[],Fa (E0.fn 58) [4] [] [],aJ [some 2] (.pair (.list .str) .str) some⟩
def OE K (a:Int):=Jt P4 K (aI [none] (aE (.int .i64) a))
attribute [irreducible] OE
def ae0:OE K a=cond (mV a) (some ((o4 a),([48]:BS))) (none):=af
def Ig:Fx (Bool):=⟨[],[],Fa (E0.fn 57) [4] [] [],aJ [none] .bool some⟩
def Dp K (a:BS):=Jt Ig K (aI [none] (aE .str a))
attribute [irreducible] Dp
def Vh:Dp K a=(dW a 0).bind λb=>some (Int.same (dB b) 45):=af
def Dk:Fx (Bool):=⟨[],[],Fa (E0.fn 24) [64,64,162,64] [] [],aJ [none] .bool some⟩
def uA K a b c d f h j k l:=J Dk K 23 [] [(vi a),(.ptr 0 0),(.ptr 1 0)] [some (.cells (ach b c d f h)),some (.cells [(vi j),(vi k),(vi l)])]
def Ie K (a:Int) (b:Int) (c:Int×BS×cC×cC×cC):=Jt Dk K (aI [none,none,some 5] (aE (.pair (.int .i64) (.pair (.int .i64) (.pair (.int .i64) (.pair .str (.pair (.list .str) (.pair (.list .str) (.list .str))))))) (a,b,c)))
attribute [irreducible] uA Ie
def SK:uA K a h b j k l c d f=cond (((Int.same c 0)&&((Int.same d 0)&&((Int.same f a)&&true)))) (some (aD b ([]:BS))) (some false):=af
def YD:Ie K b c a=cond ((Int.same a.1 0)) (some ((Int.same (aCx a.2.2.1.length) b)&&((Int.same (aCx a.2.2.2.1.length) 0)&&((Int.same (aCx a.2.2.2.2.length) c)&&true)))) (cond ((Int.same a.1 1)) (cond (((Int.same (aCx a.2.2.1.length) b)&&((Int.same (aCx a.2.2.2.1.length) b)&&((Int.same (aCx a.2.2.2.2.length) 0)&&true)))) (some (aD a.2.1 ([]:BS))) (some false)) (uA K c a.1 a.2.1 a.2.2.1 a.2.2.2.1 a.2.2.2.2 (aCx a.2.2.1.length) (aCx a.2.2.2.1.length) (aCx a.2.2.2.2.length))):=by rw [<-B.e K (uA K)];kernel_rfl
def dT:Fx (Int):=⟨[(7,DO),(24,Kt),(25,kJ),(26,nC),(27,BD)],[],Fa (E0.fn 9) [64,42,64,64,42,298,126100789566373930,42,126100789566373930,64,126100789566373930,42,64,42,64,0,64] [] [],aJ [none] (.int .i64) some⟩
def acN b c d f h j k a:=([some (.cells [(rz b),(vs c)]),some (.cells (ach d f h j k)),none,some (.seq .str a)]:List (Option LB))
def vH K b (c:List (Int×cC×BS×BS)) d f h j k l n p q (a:cC):=J dT K 176747 [b] [(.val (.list (.pair (.int .i64) (.pair (.list .str) (.pair .str .str)))) c),(.ptr 0 0),(.ptr 1 0),(.own 3),(vi d),(vi f)] (acN h j k l n p q a)
def vA K b (c:List (Int×cC×BS×BS)) d f h j k l n p q (a:cC):=J dT K 45675 [b] [(.val (.list (.pair (.int .i64) (.pair (.list .str) (.pair .str .str)))) c),(.ptr 0 0),(.ptr 1 0),(.own 3),(vi d),(vi f)] (acN h j k l n p q a)
def sT K:=J dT K 46443 [] [] []
def RB a b c d f h j:=([some (.cells [(rz a),(vs b)]),some (.cells (ach c d f h j))]:List (Option LB))
def nn K (a:List (Int×cC×BS×BS)) b c d f h j k:=J dT K 5483 [] [(.val (.list (.pair (.int .i64) (.pair (.list .str) (.pair .str .str)))) a),(.ptr 0 0),(.ptr 1 0)] (RB b c d f h j k)
def fT K (a:List (Int×cC×BS×BS)) b c d f h j k:=J dT K 1387 [] [(.val (.list (.pair (.int .i64) (.pair (.list .str) (.pair .str .str)))) a),(.ptr 0 0),(.ptr 1 0)] (RB b c d f h j k)
def kH K n (b:List (Int×cC×BS×BS)) c d f h j k l p q (a:cC):=Jl dT K n 2667 [] [(.val (.list (.pair (.int .i64) (.pair (.list .str) (.pair .str .str)))) b),(.ptr 0 0),(.ptr 1 0),(.own 3),(vi c),(vi d)] (acN f h j k l p q a)
def uW K (a:List (Int×cC×BS×BS)) b c d f h j k (l:cC):=J dT K 363 [] [(.val (.list (.pair (.int .i64) (.pair (.list .str) (.pair .str .str)))) a),(.ptr 0 0),(.ptr 1 0),(.own 3)] (acN b c d f h j k l)
def s7 K a (c:List (Int×cC×BS×BS)) d f h j k l n p q b:=J dT K 176747 [a] [(.val (.list (.pair (.int .i64) (.pair (.list .str) (.pair .str .str)))) c),(.ptr 0 0),(.ptr 1 0),(rz d),(vi f),(vi h)] (RB j k l n p q b)
def s5 K a (c:List (Int×cC×BS×BS)) d f h j k l n p q b:=J dT K 45675 [a] [(.val (.list (.pair (.int .i64) (.pair (.list .str) (.pair .str .str)))) c),(.ptr 0 0),(.ptr 1 0),(rz d),(vi f),(vi h)] (RB j k l n p q b)
def jT K n (b:List (Int×cC×BS×BS)) c d f h j k l p q a:=Jl dT K n 2667 [] [(.val (.list (.pair (.int .i64) (.pair (.list .str) (.pair .str .str)))) b),(.ptr 0 0),(.ptr 1 0),(rz c),(vi d),(vi f)] (RB h j k l p q a)
def td K (a:List (Int×cC×BS×BS)) b c d f h j k l:=J dT K 363 [] [(.val (.list (.pair (.int .i64) (.pair (.list .str) (.pair .str .str)))) a),(.ptr 0 0),(.ptr 1 0),(rz b)] (RB c d f h j k l)
def uS K (a:List (Int×cC×BS×BS)) b c d f h j k:=J dT K 43 [] [(.val (.list (.pair (.int .i64) (.pair (.list .str) (.pair .str .str)))) a),(.ptr 0 0),(.ptr 1 0)] (RB b c d f h j k)
def uX K (a:List (Int×cC×BS×BS)) b c d f h j k:=J dT K 11 [] [(.val (.list (.pair (.int .i64) (.pair (.list .str) (.pair .str .str)))) a),(.ptr 0 0),(.ptr 1 0)] (RB b c d f h j k)
def HJ K (a:cC×BS) (b:List (Int×cC×BS×BS)) (c:Int×BS×cC×cC×cC):=Jt dT K (aI [some 2,none,some 5] (aE (.pair (.pair (.list .str) .str) (.pair (.list (.pair (.int .i64) (.pair (.list .str) (.pair .str .str)))) (.pair (.int .i64) (.pair .str (.pair (.list .str) (.pair (.list .str) (.list .str))))))) (a,b,c)))
attribute [irreducible] vH vA sT nn fT kH uW s7 s5 jT td uS uX HJ
def S3:vH K b c d f h j k l n p q a=kH K b c d (aCw .i64 (f+1)) h j k l n p q a:=af
def SD:vA K d f h b j k l n p q r a=cond (C4 b a.length) ((a[b.toNat]?).bind λc=>cond (cp c) (cond ((!(Int.same (bI c) 0))) (some (bI c)) (vH K d f h b j k l n p q r a)) (none)) (none):=by rw [<-B.e K (vH K d)];kernel_rfl
def RE:sT K=some 0:=af
def SO:nn K a b c d f h j k=cond (fP ((0,(b,(c,a))),(d,(f,(h,(j,k)))))) (cond ((!(jK ((0,(b,(c,a))),(d,(f,(h,(j,k)))))))) (some 18) (sT K)) (none):=by rw [<-B.e K (sT K)];kernel_rfl
def SG:fT K c d f a b h j k=cond ((Int.same a 0)) (cond ((aD b ([]:BS))) (some 3) (nn K c d f a b h j k)) (nn K c d f a b h j k):=by rw [<-B.e K (nn K)];kernel_rfl
def Gx:kH K (k+1) b c d f h j l n p q a=cond ((bZ d c)) (vA K k b c d f h j l n p q a) (fT K b f h j l n p q):=by rw [<-B.e K (vA K k),<-B.e K (fT K)];kernel_rfl
def Sr:uW K b c d f h j k l a=kH K K b (aCx a.length) 0 c d f h j k l a:=by rw [<-B.e K (kH K K)];kernel_rfl
def Qb:s7 K a c d f h j k l n p q b=jT K a c d f (aCw .i64 (h+1)) j k l n p q b:=af
def Q0:s5 K b h d j f k l n p q r c=(dW d f).bind λa=>cond (cp a) (cond ((!(Int.same (bI a) 0))) (some (bI a)) (s7 K b h d j f k l n p q r c)) (none):=by rw [<-B.e K (s7 K b)];kernel_rfl
def Fh:jT K (k+1) b q c d f h j l n p a=cond ((bZ d c)) (s5 K k b q c d f h j l n p a) (fT K b f h j l n p a):=by rw [<-B.e K (s5 K k),<-B.e K (fT K)];kernel_rfl
def Qt:td K b a c d f h j k l=jT K K b a (aCx a.length) 0 c d f h j k l:=by rw [<-B.e K (jT K K)];kernel_rfl
def SU:uS K f h j k d a b c=cond (eA ([a,b,c]:List cC)) (cond ((!(aD d ([]:BS)))) (cond (fits (1+(dV ([a,b,c]:List cC)).length) 16) (uW K f h j k d a b c (([d]:cC)++(dV ([a,b,c]:List cC)))) (none)) (td K f (dV ([a,b,c]:List cC)) h j k d a b c)) (none):=by rw [<-B.e K (uW K),<-B.e K (td K)];kernel_rfl
def SZ:uX K b c k a d f h j=cond ((bZ a 0)) (some 1) (cond ((bZ 2 a)) (some 1) (cond (pH ((aCx c.length),((aCx b.length),(a,(d,(f,(h,j))))))) (cond ((!(n4 ((aCx c.length),((aCx b.length),(a,(d,(f,(h,j))))))))) (some 15) (uS K b c k a d f h j)) (none))):=by rw [<-B.e K (uS K)];kernel_rfl
def ZB:HJ K a c b=cond (fj ((a.1,a.2),c)) (cond ((!(Int.same (ix ((a.1,a.2),c)) 0))) (some (ix ((a.1,a.2),c))) (uX K c a.1 a.2 b.1 b.2.1 b.2.2.1 b.2.2.2.1 b.2.2.2.2)) (none):=by rw [<-B.e K (uX K)];kernel_rfl
end
end Ls.qE
namespace Ls.pY
open dC
open Ls.Lf
open Go
set_option autoImplicit true
set_option relaxedAutoImplicit true
noncomputable section
def Tq:Fx (Bool):=⟨[(97,sX),(47,nT),(99,nV)],[],Fa (E0.fn 79) [4] [] [],aJ [none] .bool some⟩
def Rw K (a:BS):=Jt Tq K (aI [none] (aE .str a))
attribute [irreducible] Rw
def agr:Rw K a=cond (dt a) (cond (bw (bq a)) (cond ((dD (cS (bq a)) 100)) (cond (b9 a) (cond (bw (aP a)) (some (dD (cS (aP a)) 100)) (none)) (none)) (some false)) (none)) (none):=af
def B8:Fx (Int):=⟨[(29,Ca),(79,Qe)],[],Fa (E0.fn 45) [4,1,4,0,4] [] [],aJ [none] (.int .i64) some⟩
def zN K:=J B8 K 43 [] [] []
def z7 K a:=J B8 K 11 [] [(vs a)] []
def N0 K (a:BS):=Jt B8 K (aI [none] (aE .str a))
attribute [irreducible] zN z7 N0
def Xk:zN K=some 0:=af
def Wy:z7 K a=cond (mu a) (cond ((!(r7 a))) (some 10) (zN K)) (none):=by rw [<-B.e K (zN K)];kernel_rfl
def aeZ:N0 K a=cond (fm a) (cond ((!(Int.same (eZ a) 0))) (some (eZ a)) (z7 K a)) (none):=by rw [<-B.e K (z7 K)];kernel_rfl
def qh:Fx (Int):=⟨[(45,FH)],[],Fa (E0.fn 44) [9,0,9,4,9,0,4] [] [],aJ [none] (.int .i64) some⟩
def yp K a b c:=J qh K 677 [a] [(rz b),(vi c)] []
def xK K a b c:=J qh K 165 [a] [(rz b),(vi c)] []
def xT K:=J qh K 11 [] [] []
def oP K n a b:=Jl qh K n 21 [] [(rz a),(vi b)] []
def KY K (a:cC):=Jt qh K (aI [none] (aE (.list .str) a))
attribute [irreducible] yp xK xT oP KY
def UE:yp K a b c=oP K a b (aCw .i64 (c+1)):=af
def T2:xK K b c d=(dW c d).bind λa=>cond (lr a) (cond ((!(Int.same (kU a) 0))) (some (kU a)) (yp K b c d)) (none):=by rw [<-B.e K (yp K b)];kernel_rfl
def U5:xT K=some 0:=af
def Il:oP K (k+1) a b=cond ((bZ b (aCx a.length))) (xK K k a b) (xT K):=by rw [<-B.e K (xK K k),<-B.e K (xT K)];kernel_rfl
def ab8:KY K a=oP K K a 0:=by rw [<-B.e K (oP K K)];kernel_rfl
def Eh:Fx (Int):=⟨[(44,Mc),(45,FH)],[],Fa (E0.fn 22) [4,2,4,2,4] [] [],aJ [none] (.int .i64) some⟩
def Bi a b:=([some (.cells [(rz a),(vs b)])]:List (Option LB))
def Uq:=([(.ptr 0 0)]:List LV)
def CO K a b:=J Eh K 43 [] Uq (Bi a b)
def Bu K a b:=J Eh K 11 [] Uq (Bi a b)
def QF K (a:cC×BS):=Jt Eh K (aI [some 2] (aE (.pair (.list .str) .str) a))
attribute [irreducible] CO Bu QF
def aao:CO K b a=cond (lr a) (some (kU a)) (none):=af
def YJ:Bu K a b=cond (ka a) (cond ((!(Int.same (pw a) 0))) (some (pw a)) (CO K a b)) (none):=by rw [<-B.e K (CO K)];kernel_rfl
def afQ:QF K a=cond ((bZ 32 (aCx a.1.length))) (some 5) (Bu K a.1 a.2):=by rw [<-B.e K (Bu K)];kernel_rfl
def Bl:Fx (Int):=⟨[],[],Fa (E0.fn 76) [8,4,0,4] [] [],aJ [none] (.int .i64) some⟩
def zM K:=J Bl K 87 [] [] []
def nY K a:=J Bl K 23 [] [(vi a)] []
def N4 K (a:BS):=Jt Bl K (aI [none] (aE .str a))
attribute [irreducible] zM nY N4
def WB:zM K=some 0:=af
def Yb:nY K a=cond ((bZ 100 a)) (some 10) (zM K):=by rw [<-B.e K (zM K)];kernel_rfl
def adL:N4 K a=cond ((bZ 0 (aCx a.length))) ((dW a 0).bind λb=>cond ((Int.same (dB b) 45)) (nY K (aCw .i64 ((aCx a.length)-1))) (nY K (aCx a.length))) (nY K (aCx a.length)):=by rw [<-B.e K (nY K)];kernel_rfl
def IJ:ia:=(.seq (.region [m 34 6,o 35 (.call (.c (.func 76 [] [])) [34]),m 2 35] []) (.ret ⟨[2],[]⟩))
def H5:ia:=(.seq (.seq (.region [m 29 4,o 30 (.call (.c (.func 76 [] [])) [29]),m 7 30] []) (.seq (.region [m 31 7,o 32 (.bin .neq 31 (i 0))] []) (.cond 32 (.seq (.region [m 33 7,m 2 33] []) (.ret ⟨[2],[]⟩)) .skip))) (.canon ⟨[6],[]⟩ IJ))
def II:ia:=(.seq (.region [m 22 0,o 23 (.call (.c (.func 75 [] [])) [22]),m 21 23,o 24 (.ext 21 0),o 25 (.ext 21 1),m 6 24,m 5 25] []) (.seq (.seq (.region [m 26 5,o 27 (.bin .neq 26 (i 0))] []) (.cond 27 (.seq (.region [m 28 5,m 2 28] []) (.ret ⟨[2],[]⟩)) .skip)) (.canon ⟨[4,6],[]⟩ H5)))
def HN:ia:=(.seq (.region [m 14 0,o 15 (.call (.c (.func 74 [] [])) [14]),m 13 15,o 16 (.ext 13 0),o 17 (.ext 13 1),m 4 16,m 5 17] []) (.seq (.seq (.region [m 18 5,o 19 (.bin .neq 18 (i 0))] []) (.cond 19 (.seq (.region [m 20 5,m 2 20] []) (.ret ⟨[2],[]⟩)) .skip)) (.canon ⟨[0,4],[]⟩ II)))
def Xc:ia:=(.seq (.region [o 2 (.mv (i 0))] []) (.seq (.seq (.region [m 8 0,o 9 (.call (.c (.func 26 [] [])) [8]),m 3 9] []) (.seq (.region [m 10 3,o 11 (.bin .neq 10 (i 0))] []) (.cond 11 (.seq (.region [m 12 3,m 2 12] []) (.ret ⟨[2],[]⟩)) .skip))) (.canon ⟨[0],[]⟩ HN)))
def MC:LFn:=⟨36,[.t 2],Xc⟩
def iS:Fx (Int):=⟨[(26,nC),(74,Pf),(75,Pc),(76,Pb)],[],MC,aJ [none] (.int .i64) some⟩
def yv (K:Nat):=eF MC (aJ [none] (.int .i64) some)
def xE (K:Nat) (a:BS):=Rn iS.s iS.l K 12 IJ (S0 36 [(6,(vs a))] []) (yv K)
def xL (K:Nat) (a b:BS):=Rn iS.s iS.l K 12 H5 (S0 36 [(4,(vs a)),(6,(vs b))] []) (yv K)
def xG (K:Nat) (a b:BS):=Rn iS.s iS.l K 12 II (S0 36 [(0,(vs a)),(4,(vs b))] []) (yv K)
def yw (K:Nat) (a:BS):=Rn iS.s iS.l K 12 HN (S0 36 [(0,(vs a))] []) (yv K)
def KM K (a:BS):=Jt iS K (aI [none] (aE .str a))
attribute [irreducible] xE xL xG yw KM
def T4:xE K a=cond (lg a) (some (jr a)) (none):=af
def UB:xL K a b=cond (lg a) (cond ((!(Int.same (jr a) 0))) (some (jr a)) (xE K b)) (none):=by rw [<-B.e K (xE K)];kernel_rfl
def T8:xG K a b=cond (rA a) (cond ((!(Int.same (ky a).2 0))) (some ((ky a).2)) (xL K b ((ky a).1))) (none):=by rw [<-B.e K (xL K)];kernel_rfl
def Uc:yw K a=cond (rk a) (cond ((!(Int.same (kZ a).2 0))) (some ((kZ a).2)) (xG K a ((kZ a).1))) (none):=by rw [<-B.e K (xG K)];kernel_rfl
def abW:KM K a=cond (cp a) (cond ((!(Int.same (bI a) 0))) (some (bI a)) (yw K a)) (none):=by rw [<-B.e K (yw K)];kernel_rfl
def oU:Fx (Int):=⟨[(41,DJ)],[],Fa (E0.fn 40) [448,0,448,4,448,0,4] [] [],aJ [none] (.int .i64) some⟩
def uT K a b c d:=J oU K 1381 [a] [(rz b),(vi c),(vi d)] []
def vF K a b c d:=J oU K 357 [a] [(rz b),(vi c),(vi d)] []
def vE K:=J oU K 11 [] [] []
def nG K n a b c:=Jl oU K n 21 [] [(rz a),(vi b),(vi c)] []
def HQ K (a:cC):=Jt oU K (aI [none] (aE (.list .str) a))
attribute [irreducible] uT vF vE nG HQ
def SY:uT K a b c d=nG K a b c (aCw .i64 (d+1)):=af
def Tk:vF K b c f d=(dW c d).bind λa=>cond (j2 a) (cond ((!(Int.same (jZ a) 0))) (some (jZ a)) (uT K b c f d)) (none):=by rw [<-B.e K (uT K b)];kernel_rfl
def Tb:vE K=some 0:=af
def Gr:nG K (k+1) c a b=cond ((bZ b a)) (vF K k c a b) (vE K):=by rw [<-B.e K (vF K k),<-B.e K (vE K)];kernel_rfl
def Zy:HQ K a=nG K K a (aCx a.length) 0:=by rw [<-B.e K (nG K K)];kernel_rfl
def B1:Fx (Int):=⟨[(40,JP),(41,DJ)],[],Fa (E0.fn 20) [4,2,4,2,4] [] [],aJ [none] (.int .i64) some⟩
def Ad K a b:=J B1 K 43 [] Uq (Bi a b)
def zK K a b:=J B1 K 11 [] Uq (Bi a b)
def NO K (a:cC×BS):=Jt B1 K (aI [some 2] (aE (.pair (.list .str) .str) a))
attribute [irreducible] Ad zK NO
def V3:Ad K b a=cond (j2 a) (some (jZ a)) (none):=af
def V6:zK K a b=cond (jy a) (cond ((!(Int.same (n7 a) 0))) (some (n7 a)) (Ad K a b)) (none):=by rw [<-B.e K (Ad K)];kernel_rfl
def acX:NO K a=cond ((bZ 32 (aCx a.1.length))) (some 5) (zK K a.1 a.2):=by rw [<-B.e K (zK K)];kernel_rfl
def DU:Fx (Int):=⟨[],[],Fa (E0.fn 78) [4,1,4] [] [],aJ [none] (.int .i64) some⟩
def vO K a:=J DU K 11 [] [(vs a)] []
def IW K (a:BS):=Jt DU K (aI [none] (aE .str a))
attribute [irreducible] vO IW
def S1:vO K a=some (aCx a.length):=af
def aam:IW K a=(dW a 0).bind λb=>cond ((Int.same (dB b) 45)) (some (aCw .i64 ((aCx a.length)-1))) (vO K a):=by rw [<-B.e K (vO K)];kernel_rfl
def xS:Fx (Int):=⟨[(77,zg),(78,Ka)],[],Fa (E0.fn 43) [4,1,4,0,4] [] [],aJ [none] (.int .i64) some⟩
def vB K:=J xS K 43 [] [] []
def uP K a:=J xS K 11 [] [(vs a)] []
def HP K (a:BS):=Jt xS K (aI [none] (aE .str a))
attribute [irreducible] vB uP HP
def Ss:vB K=some 0:=af
def SL:uP K a=cond (jD a) (cond ((bZ 100 (n8 a))) (some 10) (vB K)) (none):=by rw [<-B.e K (vB K)];kernel_rfl
def Zn:HP K a=cond (eV a) (cond ((!(Int.same (dR a) 0))) (some (dR a)) (uP K a)) (none):=by rw [<-B.e K (uP K)];kernel_rfl
def gh:Fx (Int):=⟨[(42,lK),(43,Kx)],[],Fa (E0.fn 21) [16,16,4,3758096388,4,3758096388,16,3758096388,4,16,0,16] [] [],aJ [none] (.int .i64) some⟩
def amw a b c d f:=([some (.cells [(vi a),(rz b),(vs c),(vs d)]),some (.seq .str f)]:List (Option LB))
def anF a b:=([(.ptr 0 0),(.own 1),(vi a),(vi b)]:List LV)
def pE K a b c d f h j (k:cC):=J gh K 5523 [a] (anF b c) (amw d f h j k)
def pG K a b c d f h j (k:cC):=J gh K 1427 [a] (anF b c) (amw d f h j k)
def pO K:=J gh K 171 [] [] []
def KQ a b c d:=([some (.cells [(vi a),(rz b),(vs c),(vs d)])]:List (Option LB))
def pB K a b c d:=J gh K 43 [] Uq (KQ a b c d)
def jv K n a b c d f h (j:cC):=Jl gh K n 83 [] (anF a b) (amw c d f h j)
def jB K a b c d:=J gh K 11 [] Uq (KQ a b c d)
def As K (a:Int×cC×BS×BS) (b:Int):=Jt gh K (aI [some 4,none] (aE (.pair (.pair (.int .i64) (.pair (.list .str) (.pair .str .str))) (.int .i64)) (a,b)))
attribute [irreducible] pE pG pO pB jv jB As
def Nh:pE K a b c d f h j k=jv K a b (aCw .i64 (c+1)) d f h j k:=af
def Ma:pG K d f a h j k l b=cond (C4 a b.length) ((b[a.toNat]?).bind λc=>cond (pN c) (cond ((!(Int.same (lA c) 0))) (some (lA c)) (pE K d f a h j k l b)) (none)) (none):=by rw [<-B.e K (pE K d)];kernel_rfl
def LH:pO K=some 0:=af
def M6:pB K b c d a=cond ((!(aD a ([48]:BS)))) (some 2) (pO K):=by rw [<-B.e K (pO K)];kernel_rfl
def AZ:jv K (k+1) a b c d f h j=cond ((bZ b a)) (pG K k a b c d f h j) (pB K c d f h):=by rw [<-B.e K (pG K k),<-B.e K (pB K)];kernel_rfl
def L4:jB K c a b d=cond (eH a) (cond (fits ((eY a).length+1) 16) (jv K K (aCx ((eY a)++([b]:cC)).length) 0 c a b d ((eY a)++([b]:cC))) (none)) (none):=by rw [<-B.e K (jv K K)];kernel_rfl
def Qn:As K a b=cond ((!(Int.same a.1 0))) (cond ((!(Int.same a.1 1))) (some 1) (cond ((!(Int.same (aCx a.2.1.length) b))) (some 15) (jB K a.1 a.2.1 a.2.2.1 a.2.2.2))) (cond ((!(Int.same (aCx a.2.1.length) b))) (some 15) (jB K a.1 a.2.1 a.2.2.1 a.2.2.2)):=by rw [<-B.e K (jB K)];kernel_rfl
def lG:Fx (Int):=⟨[(20,OR),(21,Dc)],[],Fa (E0.fn 7) [16,6,16,6,917508,0,917508,16,917508,0,16] [] [],aJ [none] (.int .i64) some⟩
def anr a b c:=([(.ptr 0 0),(.val (.list (.pair (.int .i64) (.pair (.list .str) (.pair .str .str)))) a),(vi b),(vi c)]:List LV)
def xD K a (b:List (Int×cC×BS×BS)) c d f h:=J lG K 22091 [a] (anr b c d) (Bi f h)
def xQ K a (b:List (Int×cC×BS×BS)) c d f h:=J lG K 5707 [a] (anr b c d) (Bi f h)
def yq K:=J lG K 171 [] [] []
def oN K n (a:List (Int×cC×BS×BS)) b c d f:=Jl lG K n 331 [] (anr a b c) (Bi d f)
def yj K (a:List (Int×cC×BS×BS)) b c:=J lG K 43 [] [(.val (.list (.pair (.int .i64) (.pair (.list .str) (.pair .str .str)))) a),(.ptr 0 0)] (Bi b c)
def xN K (a:List (Int×cC×BS×BS)) b c:=J lG K 11 [] [(.val (.list (.pair (.int .i64) (.pair (.list .str) (.pair .str .str)))) a),(.ptr 0 0)] (Bi b c)
def Lr K (a:cC×BS) (b:List (Int×cC×BS×BS)):=Jt lG K (aI [some 2,none] (aE (.pair (.pair (.list .str) .str) (.list (.pair (.int .i64) (.pair (.list .str) (.pair .str .str))))) (a,b)))
attribute [irreducible] xD xQ yq oN yj xN Lr
def UK:xD K a b c d f h=oN K a b c (aCw .i64 (d+1)) f h:=af
def U0:xQ K c d h f b j=(dW d f).bind λa=>cond (lS ((a.1,(a.2.1,(a.2.2.1,a.2.2.2))),(aCx b.length))) (cond ((!(Int.same (ij ((a.1,(a.2.1,(a.2.2.1,a.2.2.2))),(aCx b.length))) 0))) (some (ij ((a.1,(a.2.1,(a.2.2.1,a.2.2.2))),(aCx b.length)))) (xD K c d h f b j)) (none):=by rw [<-B.e K (xD K c)];kernel_rfl
def Vw:yq K=some 0:=af
def IC:oN K (k+1) c a b d f=cond ((bZ b a)) (xQ K k c a b d f) (yq K):=by rw [<-B.e K (xQ K k),<-B.e K (yq K)];kernel_rfl
def Vg:yj K a b c=oN K K a (aCx a.length) 0 b c:=by rw [<-B.e K (oN K K)];kernel_rfl
def Ui:xN K a b c=cond ((bZ 64 (aCx a.length))) (some 5) (yj K a b c):=by rw [<-B.e K (yj K)];kernel_rfl
def abt:Lr K a b=cond (lh (a.1,a.2)) (cond ((!(Int.same (nm (a.1,a.2)) 0))) (some (nm (a.1,a.2))) (xN K b a.1 a.2)) (none):=by rw [<-B.e K (xN K)];kernel_rfl
def eR:Fx (Int):=⟨[(46,Io),(47,nT)],[],Fa (E0.fn 23) [16,6,16,6,38,4,38,102,16,102,16,38,4,16,0,16] [] [],aJ [none] (.int .i64) some⟩
def rD K a b c d f h j:=J eR K 10827 [a] [(vi b),(.ptr 0 0),(vi c)] (KQ d f h j)
def ry K a b c d f h j k:=J eR K 352843 [a] [(vi b),(.ptr 0 0),(vi c),(vs d)] (KQ f h j k)
def ly K a b c d f h j k:=J eR K 90699 [a] [(vi b),(.ptr 0 0),(vi c),(vs d)] (KQ f h j k)
def rE K a b c d f h j:=J eR K 2635 [a] [(vi b),(.ptr 0 0),(vi c)] (KQ d f h j)
def qp K:=J eR K 683 [] [] []
def rI K a b c d:=J eR K 171 [] Uq (KQ a b c d)
def lz K n a b c d f h:=Jl eR K n 331 [] [(vi a),(.ptr 0 0),(vi b)] (KQ c d f h)
def rG K a b c d f:=J eR K 43 [] [(vi a),(.ptr 0 0)] (KQ b c d f)
def lf K a b c d f:=J eR K 11 [] [(vi a),(.ptr 0 0)] (KQ b c d f)
def Dl K (a:Int×cC×BS×BS) (b:Int):=Jt eR K (aI [some 4,none] (aE (.pair (.pair (.int .i64) (.pair (.list .str) (.pair .str .str))) (.int .i64)) (a,b)))
attribute [irreducible] rD ry ly rE qp rI lz rG lf Dl
def Pr:rD K a b c d f h j=lz K a b (aCw .i64 (c+1)) d f h j:=af
def C0:ry K b c d a f h j k=cond (gx a) (cond ((!(Int.same (df a) 0))) (some 10) (cond (bw a) (cond ((bZ 100 (cS a))) (some 10) (rD K b c d f h j k)) (none))) (none):=by rw [<-B.e K (rD K b)];kernel_rfl
def PI:ly K b c d a f h j k=cond (gx a) (cond ((Int.same (df a) 3)) (some 3) (ry K b c d a f h j k)) (none):=by rw [<-B.e K (ry K b)];kernel_rfl
def Pz:rE K b c a h d f j=cond ((bZ a c)) ((dW d a).bind λk=>ly K b c a k h d f j) (ly K b c a f h d f j):=by rw [<-B.e K (ly K b)];kernel_rfl
def NJ:qp K=some 0:=af
def PA:rI K b c d a=cond ((!(aD a ([48]:BS)))) (some 2) (qp K):=by rw [<-B.e K (qp K)];kernel_rfl
def C6:lz K (k+1) a b c d f h=cond ((dD b a)) (rE K k a b c d f h) (rI K c d f h):=by rw [<-B.e K (rE K k),<-B.e K (rI K)];kernel_rfl
def Pq:rG K a b c d f=lz K K a 0 b c d f:=by rw [<-B.e K (lz K K)];kernel_rfl
def PN:lf K a c b d f=cond ((!(Int.same (aCx b.length) a))) (some 15) (rG K a c b d f):=by rw [<-B.e K (rG K)];kernel_rfl
def T5:Dl K a b=cond ((!(Int.same a.1 0))) (cond ((!(Int.same a.1 1))) (some 1) (lf K b a.1 a.2.1 a.2.2.1 a.2.2.2)) (lf K b a.1 a.2.1 a.2.2.1 a.2.2.2):=by rw [<-B.e K (lf K)];kernel_rfl
def oK:Fx (Int):=⟨[(22,QI),(23,Gc)],[],Fa (E0.fn 8) [16,6,16,6,70,0,70,16,70,0,16] [] [],aJ [none] (.int .i64) some⟩
def BI K a (b:List (Int×cC×BS×BS)) c d f:=J oK K 10827 [a] [(.val (.list (.pair (.int .i64) (.pair (.list .str) (.pair .str .str)))) b),(.ptr 0 0),(vi c)] (Bi d f)
def Cj K a (b:List (Int×cC×BS×BS)) c d f:=J oK K 2635 [a] [(.val (.list (.pair (.int .i64) (.pair (.list .str) (.pair .str .str)))) b),(.ptr 0 0),(vi c)] (Bi d f)
def BP K:=J oK K 171 [] [] []
def rP K n (a:List (Int×cC×BS×BS)) b c d:=Jl oK K n 331 [] [(.val (.list (.pair (.int .i64) (.pair (.list .str) (.pair .str .str)))) a),(.ptr 0 0),(vi b)] (Bi c d)
def Cp K (a:List (Int×cC×BS×BS)) b c:=J oK K 43 [] [(.val (.list (.pair (.int .i64) (.pair (.list .str) (.pair .str .str)))) a),(.ptr 0 0)] (Bi b c)
def Cs K (a:List (Int×cC×BS×BS)) b c:=J oK K 11 [] [(.val (.list (.pair (.int .i64) (.pair (.list .str) (.pair .str .str)))) a),(.ptr 0 0)] (Bi b c)
def Rh K (a:cC×BS) (b:List (Int×cC×BS×BS)):=Jt oK K (aI [some 2,none] (aE (.pair (.pair (.list .str) .str) (.list (.pair (.int .i64) (.pair (.list .str) (.pair .str .str))))) (a,b)))
attribute [irreducible] BI Cj BP rP Cp Cs Rh
def YE:BI K a b c d f=rP K a b (aCw .i64 (c+1)) d f:=af
def Yv:Cj K c d f b h=(dW d f).bind λa=>cond (nE ((a.1,(a.2.1,(a.2.2.1,a.2.2.2))),(aCx b.length))) (cond ((!(Int.same (jA ((a.1,(a.2.1,(a.2.2.1,a.2.2.2))),(aCx b.length))) 0))) (some (jA ((a.1,(a.2.1,(a.2.2.1,a.2.2.2))),(aCx b.length)))) (BI K c d f b h)) (none):=by rw [<-B.e K (BI K c)];kernel_rfl
def Zw:BP K=some 0:=af
def LQ:rP K (k+1) a b c d=cond ((bZ b (aCx a.length))) (Cj K k a b c d) (BP K):=by rw [<-B.e K (Cj K k),<-B.e K (BP K)];kernel_rfl
def Zf:Cp K a b c=rP K K a 0 b c:=by rw [<-B.e K (rP K K)];kernel_rfl
def YG:Cs K a b c=cond ((bZ 64 (aCx a.length))) (some 5) (Cp K a b c):=by rw [<-B.e K (Cp K)];kernel_rfl
def af9:Rh K a b=cond (mB (a.1,a.2)) (cond ((!(Int.same (oT (a.1,a.2)) 0))) (some (oT (a.1,a.2))) (Cs K b a.1 a.2)) (none):=by rw [<-B.e K (Cs K)];kernel_rfl
end
end Ls.pY
namespace Ls.pU
open dC
open Ls.Lf
open Go
set_option autoImplicit true
set_option relaxedAutoImplicit true
noncomputable section
def sc:Fx (Int):=⟨[(49,qw),(50,C8),(51,yF),(52,IZ),(53,Am)],[],Fa (E0.fn 26) [4,25,4,24,4,0,4] [] [],aJ [none] (.int .i64) some⟩
def vG K:=J sc K 343 [] [] []
def nq K a b:=J sc K 87 [] [(vs a),(vs b)] []
def vL K a b c:=J sc K 23 [] [(vs a),(vs b),(vs c)] []
def HY K (a:BS):=Jt sc K (aI [none] (aE .str a))
attribute [irreducible] vG nq vL HY
def So:vG K=some 0:=af
def S2:nq K a b=cond (ec a) (cond ((bZ 4096 (fZ a))) (some 10) (cond (ec b) (cond ((bZ 4096 (fZ b))) (some 10) (vG K)) (none))) (none):=by rw [<-B.e K (vG K)];kernel_rfl
def Gq:vL K c b a=cond (j5 (c,([47]:BS))) (cond ((pM (c,([47]:BS)))) (cond ((aD a ([48]:BS))) (some 3) (cond ((aD a ([49]:BS))) (some 3) ((dW a 0).bind λd=>cond ((Int.same (dB d) 45)) (some 3) (cond (ov (b,a)) (cond ((mT (b,a))) (some 3) (nq K b a)) (none))))) (nq K b a)) (none):=by rw [<-B.e K (nq K)];kernel_rfl
def aaE:HY K a=cond (dw a) (cond (gk ((cO a).1)) (cond ((!(il ((cO a).1)))) (some 3) (cond (gk ((cO a).2)) (cond ((!(il ((cO a).2)))) (some 3) (vL K a ((cO a).1) ((cO a).2))) (none))) (none)) (none):=by rw [<-B.e K (vL K)];kernel_rfl
def MX:Fx ((BS×BS)):=⟨[(82,wJ)],[],Fa (E0.fn 49) [12] [] [],aJ [none,none] (.pair .str .str) some⟩
def HW K (a:BS):=Jt MX K (aI [none] (aE .str a))
attribute [irreducible] HW
def aaz:HW K a=cond (jG (a,47)) (cond ((dD 0 (eG (a,47)))) (cond ((dD 0 (eG (a,47))&&dD (eG (a,47)) (aCx a.length))) (cond ((dD 0 (aCw .i64 ((eG (a,47))+1))&&dD (aCw .i64 ((eG (a,47))+1)) (aCx a.length))) (some ((a.take (eG (a,47)).toNat),(a.drop (aCw .i64 ((eG (a,47))+1)).toNat))) (none)) (none)) (some (a,([49]:BS)))) (none):=af
def Fm:Fx (Bool):=⟨[(77,zg)],[],Fa (E0.fn 50) [4] [] [],aJ [none] .bool some⟩
def Ao K (a:BS):=Jt Fm K (aI [none] (aE .str a))
attribute [irreducible] Ao
def Qh:Ao K a=cond (eV a) (some (!(Int.same (dR a) 3))) (none):=af
def nJ:Fx (Bool):=⟨[(53,Am),(84,K9),(85,De),(86,LP)],[],Fa (E0.fn 52) [16,3,384,128,384,128,16] [] [],aJ [none] .bool some⟩
def Uj K a b c:=J nJ K 651 [a] [(vLy b),(vLy c)] []
def Ud K a:=J nJ K 91 [] [(vLy a)] []
def UU K n a b:=Jl nJ K n 75 [] [(vLy a),(vLy b)] []
def s6 K a b:=J nJ K 11 [] [(vs a),(vs b)] []
def FA K (a:BS) (b:BS):=Jt nJ K (aI [none,none] (aE (.pair .str .str) (a,b)))
attribute [irreducible] Uj Ud UU s6 FA
def Xa:FA K a b=cond (ec a) (cond ((dD (fZ a) 4096)) (cond (ec b) (cond ((dD (fZ b) 4096)) (cond (nF (a,b)) (cond ((!(Int.same (iV (a,b)).2 0))) (some true) (some (!(aD (iV (a,b)).1 ([49]:BS))))) (none)) (s6 K a b)) (none)) (s6 K a b)) (none):=by rw [<-B.e K (s6 K)];kernel_rfl
def Ko:Fx (Int):=⟨[(87,uh)],[],Fa (E0.fn 53) [4] [] [],aJ [none] (.int .i64) some⟩
def FG K (a:BS):=Jt Ko K (aI [none] (aE .str a))
attribute [irreducible] FG
def Wx:FG K a=cond (er (a,([45]:BS))) (some (aCx (ib (a,([45]:BS))).length)) (none):=af
def IP:Fx ((BS×Int)):=⟨[(26,nC),(49,qw)],[],Fa (E0.fn 74) [12,1,12] [] [],aJ [none,none] (.pair .str (.int .i64)) some⟩
def zE K a:=J IP K 11 [] [(vs a)] []
def NG K (a:BS):=Jt IP K (aI [none] (aE .str a))
attribute [irreducible] zE NG
def Xr:zE K a=cond (dw a) (some ((cO a).1,0)) (none):=af
def aeK:NG K a=cond (cp a) (cond ((!(Int.same (bI a) 0))) (some (([]:BS),(bI a))) (zE K a)) (none):=by rw [<-B.e K (zE K)];kernel_rfl
def IT:Fx ((BS×Int)):=⟨[(26,nC),(49,qw)],[],Fa (E0.fn 75) [12,1,12] [] [],aJ [none,none] (.pair .str (.int .i64)) some⟩
def Ag K a:=J IT K 11 [] [(vs a)] []
def NV K (a:BS):=Jt IT K (aI [none] (aE .str a))
attribute [irreducible] Ag NV
def Ye:Ag K a=cond (dw a) (some ((cO a).2,0)) (none):=af
def afz:NV K a=cond (cp a) (cond ((!(Int.same (bI a) 0))) (some (([]:BS),(bI a))) (Ag K a)) (none):=by rw [<-B.e K (Ag K)];kernel_rfl
def ma:Fx ((BS×Int)):=⟨[(84,K9),(236,RF),(237,TG),(238,Tw)],[],Fa (E0.fn 213) [48,67,67,48,1090,48,3072,48,3072,48] [] [],aJ [none,none] (.pair .str (.int .i64)) some⟩
def uv K a b:=J ma K 22231 [] [(vs a),(vs b)] []
def uL K a b:=J ma K 5847 [] [(vs a),(vs b)] []
def vN K a b c:=J ma K 727 [] [(vs a),(vs b),(vs c)] []
def nv K a b c:=J ma K 87 [] [(vs a),(vs b),(vs c)] []
def ux K a b c:=J ma K 23 [] [(vs a),(vs b),(vs c)] []
def Bk K (a:BS) (b:BS):=Jt ma K (aI [none,none] (aE (.pair .str .str) (a,b)))
attribute [irreducible] uv uL vN nv ux Bk
def S7:uv K a b=cond (aCF (a.length+([47]:BS).length) 9223372036854775807) (cond (aCF ((a++([47]:BS)).length+b.length) 9223372036854775807) (some (((a++([47]:BS))++b),0)) (none)) (none):=af
def S4:uL K a b=cond ((aD b ([49]:BS))) (some (a,0)) (uv K a b):=by rw [<-B.e K (uv K)];kernel_rfl
def SF:vN K a b c=cond (qx (a,b)) (cond ((!(Int.same (iO (a,b)).2 0))) (some (([]:BS),(iO (a,b)).2)) (uL K c ((iO (a,b)).1))) (none):=by rw [<-B.e K (uL K)];kernel_rfl
def Sw:nv K b c a=cond (qx (b,a)) (cond ((!(Int.same (iO (b,a)).2 0))) (some (([]:BS),(iO (b,a)).2)) (vN K c a ((iO (b,a)).1))) (none):=by rw [<-B.e K (vN K)];kernel_rfl
def Tj:ux K c a b=cond (sP a) (cond ((bZ (r4 a).1 0)) (cond (uH b) (nv K c a ((tM b).1)) (none)) (nv K c a b)) (none):=by rw [<-B.e K (nv K)];kernel_rfl
def ZN:Bk K a b=cond (nF (a,b)) (cond ((!(Int.same (iV (a,b)).2 0))) (some (([]:BS),(iV (a,b)).2)) (ux K a b ((iV (a,b)).1))) (none):=by rw [<-B.e K (ux K)];kernel_rfl
def cT:=Fa (E0.fn 172) [192,257,192,3072,192] [(1,[(8,none,.box)])] []
def B3:=Fa (E0.fn 212) [1] [] []
def JV:=Fa (E0.fn 230) [4] [] []
def dX:=Fa (E0.fn 249) [56,198,56,12,56] [] []
def cz:Fx ((BS×Int)):=⟨[(211,yI),(213,CC),(231,Lh),(232,Ez),(233,qY),(235,qL),(234,xM),(250,Ex)],[(172,cT),(212,B3),(230,JV),(249,dX)],Fa (E0.fn 131) [48] [] [],aJ [none,none] (.pair .str (.int .i64)) some⟩
def FV a b c d f h:=(⟨11,[(7,(vs a)),(6,(vs b)),(5,(vi c)),(4,(vs d)),(0,(vs f)),(1,(vs h))]⟩:LF)
def an4 K:=(eF cT (λv b=>re b (some 8) v λa=>Fg (tA (Tm cz.s) (lkL cz.l) K 12) [] (aCI 3 (rgn (Jn cz 5))) a (okK (vQ (Rx cz K (Jn cz 7)) (eF cz.F (aJ [none,none] (.pair .str (.int .i64)) some))))):KL ((BS×Int)))
def zo:=(⟨0,[]⟩:LF)
def gE (K:Nat) (a b c d:BS) (f:Int) (h j k:BS):=Rn cz.s cz.l K 11 (nd 99 cT.body 183) ⟨⟨38,[(10,(vs a)),(11,(vs b))]⟩,[(FV c d f h j k),zo],[]⟩ (an4 K)
def aiP K:=(eF dX (λv b=>re b (some 26) v λa=>EX (tA (Tm cz.s) (lkL cz.l) K 11) (puS (Tm cz.s)) [] (rgn (nd 99 cT.body 39)) (aCI 5 (pln (nd 99 cT.body 39))) a ⟨[26,24,22],[2,1,0],0⟩ ⟨[],[],a.nx⟩ 4 (okK (vQ (Rn cz.s cz.l K 11 (nd 99 cT.body 55)) (an4 K)))):KL ((BS×Int)))
def Oa a b c d:=([(vs a),(vs b),(vs c),(vs d)]:List LV)
def Rg a b c d:=([some (.qW [43,45,42,47] [(.func 249 [] [(.ptr 1 0)]),(.func 249 [] [(.ptr 2 0)]),(.func 233 [] []),(.func 235 [] [])]),some (.cells [(.func 231 [] [])]),some (.cells [(.func 232 [] [])]),some (.cells (Oa a b c d))]:List (Option LB))
def ahX b c d f h j k l n a:=(⟨38,[(25,(.agg (Oa b c d f))),(24,(.func 249 [] [(.ptr 1 0)])),(23,(vy h)),(22,(.ET 0)),(0,(vy j)),(8,(.iX (Oa k l n a) 0))]⟩:LF)
def acL a:=(⟨45,[(2,(.ptr 3 0)),(3,(vs a))]⟩:LF)
def zJ (K:Nat) (r t u v w:BS) (x y:Int) (z A D a b c:BS) (d:Int) (f h j k n p q:BS):=Rn cz.s cz.l K 10 (nd 99 dX.body 87) ⟨(acL r),[(ahX t u v w x y z A D a),(FV b c d f h j),zo],(Rg k n p q)⟩ (aiP K)
def ao0 a b:=(⟨45,[(1,(.ptr 1 0)),(2,(.ptr 3 0)),(6,(vs a)),(7,(vs b))]⟩:LF)
def Ah (K:Nat) (t u v w x y:BS) (z A:Int) (D E a b c d:BS) (f:Int) (h j k n p q r:BS):=Rn cz.s cz.l K 10 (nd 99 dX.body 23) ⟨(ao0 t u),[(ahX v w x y z A D E a b),(FV c d f h j k),zo],(Rg n p q r)⟩ (aiP K)
def ajp b c d f h j k l n a:=(⟨38,[(25,(.agg (Oa b c d f))),(24,(.func 249 [] [(.ptr 2 0)])),(23,(vy h)),(22,(.ET 0)),(0,(vy j)),(8,(.iX (Oa k l n a) 0))]⟩:LF)
def abS (K:Nat) (r t u v w:BS) (x y:Int) (z A D a b c:BS) (d:Int) (f h j k n p q:BS):=Rn cz.s cz.l K 10 (nd 99 dX.body 87) ⟨(acL r),[(ajp t u v w x y z A D a),(FV b c d f h j),zo],(Rg k n p q)⟩ (aiP K)
def ap6 a b:=(⟨45,[(1,(.ptr 2 0)),(2,(.ptr 3 0)),(6,(vs a)),(7,(vs b))]⟩:LF)
def F8 (K:Nat) (t u v w x y:BS) (z A:Int) (D E a b c d:BS) (f:Int) (h j k n p q r:BS):=Rn cz.s cz.l K 10 (nd 99 dX.body 23) ⟨(ap6 t u),[(ajp v w x y z A D E a b),(FV c d f h j k),zo],(Rg n p q r)⟩ (aiP K)
def zF (K:Nat) (b:Int) (c d f h j k:BS) (n:Int) (p q a:BS):=Rn cz.s cz.l K 11 (nd 99 cT.body 23) ⟨⟨38,[(0,(vy b)),(8,(.iX (Oa c d f h) 0))]⟩,[(FV j k n p q a),zo],[]⟩ (an4 K)
def Ny K (a:BS) (b:BS):=Jt cz K (aI [none,none] (aE (.pair .str .str) (a,b)))
attribute [irreducible] gE zJ Ah abS F8 zF Ny
def XP:gE K a b c d f h j k=cond (gS (a,b)) (some ((fF (a,b)).1,(fF (a,b)).2)) (none):=af
def Xv:zJ K l r s t u v w x y z n c d f h j k p a q b=cond (jk (a,b)) (cond ((!(Int.same (e7 (a,b)).2 0))) (some (([]:BS),(e7 (a,b)).2)) (gE K l ((e7 (a,b)).1) c d f h j k)) (none):=by rw [<-B.e K (gE K)];kernel_rfl
def Xo:Ah K a b t u v w x y z A l n c d f h j k p q r s=cond (uu (a,b)) (cond ((!(Int.same (jM (a,b)).2 0))) (cond ((!(Int.same (jM (a,b)).2 0))) (some (([]:BS),(jM (a,b)).2)) (gE K ([]:BS) ([]:BS) c d f h j k)) (zJ K ((jM (a,b)).1) t u v w x y z A l n c d f h j k p q r s)) (none):=by rw [<-B.e K (gE K),<-B.e K (zJ K)];kernel_rfl
def Xb:zF K h a b c d j k l n p f=cond (Int.same h 43) (cond (ed (a,(d,(c,b)))) (cond ((!(Int.same (br (a,(d,(c,b)))).2.2 0))) (cond ((!(Int.same (br (a,(d,(c,b)))).2.2 0))) (some (([]:BS),(br (a,(d,(c,b)))).2.2)) (gE K ([]:BS) ([]:BS) j k l n p f)) (Ah K ((br (a,(d,(c,b)))).1) ((br (a,(d,(c,b)))).2.1) a b c d h h a b c d j k l n p f a b c d)) (none)) (cond (Int.same h 45) (cond (ed (a,(d,(c,b)))) (cond ((!(Int.same (br (a,(d,(c,b)))).2.2 0))) (cond ((!(Int.same (br (a,(d,(c,b)))).2.2 0))) (some (([]:BS),(br (a,(d,(c,b)))).2.2)) (gE K ([]:BS) ([]:BS) j k l n p f)) (F8 K ((br (a,(d,(c,b)))).1) ((br (a,(d,(c,b)))).2.1) a b c d h h a b c d j k l n p f a b c d)) (none)) (cond (Int.same h 42) (cond (gG (a,(b,(c,d)))) (cond ((!(Int.same (cQ (a,(b,(c,d)))).2.2 0))) (some (([]:BS),(cQ (a,(b,(c,d)))).2.2)) (gE K ((cQ (a,(b,(c,d)))).1) ((cQ (a,(b,(c,d)))).2.1) j k l n p f)) (none)) (cond (Int.same h 47) (cond (nQ (a,(b,(c,d)))) (cond ((!(Int.same (dF (a,(b,(c,d)))).2.2 0))) (some (([]:BS),(dF (a,(b,(c,d)))).2.2)) (gE K ((dF (a,(b,(c,d)))).1) ((dF (a,(b,(c,d)))).2.1) j k l n p f)) (none)) (none)))):=by rw [<-B.e K (gE K),<-B.e K (Ah K),<-B.e K (F8 K)];kernel_rfl
def ad8:Ny K a b=cond (ir (a,b)) (cond ((!(Int.same (bW (a,b)).2 0))) (some (([]:BS),(bW (a,b)).2)) (zF K 43 ((bW (a,b)).1.1) ((bW (a,b)).1.2.1) ((bW (a,b)).1.2.2.1) ((bW (a,b)).1.2.2.2) b a 0 ([]:BS) a b)) (none):=by rw [<-B.e K (zF K)];kernel_rfl
def cA:Fx ((BS×Int)):=⟨[(211,yI),(213,CC),(231,Lh),(232,Ez),(233,qY),(235,qL),(234,xM),(250,Ex)],[(172,cT),(212,B3),(230,JV),(249,dX)],Fa (E0.fn 132) [48] [] [],aJ [none,none] (.pair .str (.int .i64)) some⟩
def amP K:=(eF cT (λv b=>re b (some 8) v λa=>Fg (tA (Tm cA.s) (lkL cA.l) K 12) [] (aCI 3 (rgn (Jn cA 5))) a (okK (vQ (Rx cA K (Jn cA 7)) (eF cA.F (aJ [none,none] (.pair .str (.int .i64)) some))))):KL ((BS×Int)))
def nX (K:Nat) (a b c d:BS) (f:Int) (h j k:BS):=Rn cA.s cA.l K 11 (nd 99 cT.body 183) ⟨⟨38,[(10,(vs a)),(11,(vs b))]⟩,[(FV c d f h j k),zo],[]⟩ (amP K)
def ajs K:=(eF dX (λv b=>re b (some 26) v λa=>EX (tA (Tm cA.s) (lkL cA.l) K 11) (puS (Tm cA.s)) [] (rgn (nd 99 cT.body 39)) (aCI 5 (pln (nd 99 cT.body 39))) a ⟨[26,24,22],[2,1,0],0⟩ ⟨[],[],a.nx⟩ 4 (okK (vQ (Rn cA.s cA.l K 11 (nd 99 cT.body 55)) (amP K)))):KL ((BS×Int)))
def abQ (K:Nat) (r t u v w:BS) (x y:Int) (z A D a b c:BS) (d:Int) (f h j k n p q:BS):=Rn cA.s cA.l K 10 (nd 99 dX.body 87) ⟨(acL r),[(ahX t u v w x y z A D a),(FV b c d f h j),zo],(Rg k n p q)⟩ (ajs K)
def F6 (K:Nat) (t u v w x y:BS) (z A:Int) (D E a b c d:BS) (f:Int) (h j k n p q r:BS):=Rn cA.s cA.l K 10 (nd 99 dX.body 23) ⟨(ao0 t u),[(ahX v w x y z A D E a b),(FV c d f h j k),zo],(Rg n p q r)⟩ (ajs K)
def abj (K:Nat) (r t u v w:BS) (x y:Int) (z A D a b c:BS) (d:Int) (f h j k n p q:BS):=Rn cA.s cA.l K 10 (nd 99 dX.body 87) ⟨(acL r),[(ajp t u v w x y z A D a),(FV b c d f h j),zo],(Rg k n p q)⟩ (ajs K)
def FY (K:Nat) (t u v w x y:BS) (z A:Int) (D E a b c d:BS) (f:Int) (h j k n p q r:BS):=Rn cA.s cA.l K 10 (nd 99 dX.body 23) ⟨(ap6 t u),[(ajp v w x y z A D E a b),(FV c d f h j k),zo],(Rg n p q r)⟩ (ajs K)
def zk (K:Nat) (b:Int) (c d f h j k:BS) (n:Int) (p q a:BS):=Rn cA.s cA.l K 11 (nd 99 cT.body 23) ⟨⟨38,[(0,(vy b)),(8,(.iX (Oa c d f h) 0))]⟩,[(FV j k n p q a),zo],[]⟩ (amP K)
def Oj K (a:BS) (b:BS):=Jt cA K (aI [none,none] (aE (.pair .str .str) (a,b)))
attribute [irreducible] nX abQ F6 abj FY zk Oj
def Wu:nX K a b c d f h j k=cond (gS (a,b)) (some ((fF (a,b)).1,(fF (a,b)).2)) (none):=af
def V0:zk K h a b c d j k l n p f=cond (Int.same h 43) (cond (ed (a,(d,(c,b)))) (cond ((!(Int.same (br (a,(d,(c,b)))).2.2 0))) (cond ((!(Int.same (br (a,(d,(c,b)))).2.2 0))) (some (([]:BS),(br (a,(d,(c,b)))).2.2)) (nX K ([]:BS) ([]:BS) j k l n p f)) (F6 K ((br (a,(d,(c,b)))).1) ((br (a,(d,(c,b)))).2.1) a b c d h h a b c d j k l n p f a b c d)) (none)) (cond (Int.same h 45) (cond (ed (a,(d,(c,b)))) (cond ((!(Int.same (br (a,(d,(c,b)))).2.2 0))) (cond ((!(Int.same (br (a,(d,(c,b)))).2.2 0))) (some (([]:BS),(br (a,(d,(c,b)))).2.2)) (nX K ([]:BS) ([]:BS) j k l n p f)) (FY K ((br (a,(d,(c,b)))).1) ((br (a,(d,(c,b)))).2.1) a b c d h h a b c d j k l n p f a b c d)) (none)) (cond (Int.same h 42) (cond (gG (a,(b,(c,d)))) (cond ((!(Int.same (cQ (a,(b,(c,d)))).2.2 0))) (some (([]:BS),(cQ (a,(b,(c,d)))).2.2)) (nX K ((cQ (a,(b,(c,d)))).1) ((cQ (a,(b,(c,d)))).2.1) j k l n p f)) (none)) (cond (Int.same h 47) (cond (nQ (a,(b,(c,d)))) (cond ((!(Int.same (dF (a,(b,(c,d)))).2.2 0))) (some (([]:BS),(dF (a,(b,(c,d)))).2.2)) (nX K ((dF (a,(b,(c,d)))).1) ((dF (a,(b,(c,d)))).2.1) j k l n p f)) (none)) (none)))):=by rw [<-B.e K (nX K),<-B.e K (F6 K),<-B.e K (FY K)];kernel_rfl
def adY:Oj K a b=cond (ir (a,b)) (cond ((!(Int.same (bW (a,b)).2 0))) (some (([]:BS),(bW (a,b)).2)) (zk K 42 ((bW (a,b)).1.1) ((bW (a,b)).1.2.1) ((bW (a,b)).1.2.2.1) ((bW (a,b)).1.2.2.2) b a 0 ([]:BS) a b)) (none):=by rw [<-B.e K (zk K)];kernel_rfl
def s8:Fx (((BS×BS×BS×BS)×Int)):=⟨[(26,nC),(49,qw)],[],Fa (E0.fn 211) [48,19,48,19,48] [] [],aJ [some 4,none] (.pair (.pair .str (.pair .str (.pair .str .str))) (.int .i64)) some⟩
def rq K a b c d f h:=J s8 K 43 [] [(vs a),(vs b),(.ptr 0 0)] [some (.cells (Oa c d f h))]
def rB K a b c d f h:=J s8 K 11 [] [(vs a),(vs b),(.ptr 0 0)] [some (.cells (Oa c d f h))]
def DG K (a:BS) (b:BS):=Jt s8 K (aI [none,none] (aE (.pair .str .str) (a,b)))
attribute [irreducible] rq rB DG
def PC:rq K a b c d f h=cond (dw a) (cond (dw b) (some (((cO a).1,((cO a).2,((cO b).1,(cO b).2))),0)) (none)) (none):=af
def PK:rB K b a c d f h=cond (cp a) (cond ((!(Int.same (bI a) 0))) (some ((([]:BS),(([]:BS),(([]:BS),([]:BS)))),(bI a))) (rq K b a c d f h)) (none):=by rw [<-B.e K (rq K)];kernel_rfl
def UX:DG K a b=cond (cp a) (cond ((!(Int.same (bI a) 0))) (some ((([]:BS),(([]:BS),(([]:BS),([]:BS)))),(bI a))) (rB K a b ([]:BS) ([]:BS) ([]:BS) ([]:BS))) (none):=by rw [<-B.e K (rB K)];kernel_rfl
def FD:Fx ((BS×BS×Int)):=⟨[(250,Ex)],[],Fa (E0.fn 234) [1792,2060,1792] [] [],aJ [none,none,none] (.pair .str (.pair .str (.int .i64))) some⟩
def xR K a b c:=J FD K 23 [] [(vs a),(vs b),(vs c)] []
def KG K (a:BS) (b:BS) (c:BS) (d:BS):=Jt FD K (aI [none,none,none,none] (aE (.pair .str (.pair .str (.pair .str .str))) (a,b,c,d)))
attribute [irreducible] xR KG
def Uo:xR K a b c=cond (jk (a,b)) (some (c,((e7 (a,b)).1,(e7 (a,b)).2))) (none):=af
def abH:KG K a b c d=cond (jk (a,b)) (cond ((!(Int.same (e7 (a,b)).2 0))) (some (([]:BS),(([]:BS),(e7 (a,b)).2))) (xR K c d ((e7 (a,b)).1))) (none):=by rw [<-B.e K (xR K)];kernel_rfl
def AQ:Fx ((BS×BS×Int)):=⟨[(234,xM)],[],Fa (E0.fn 233) [28] [] [],aJ [none,none,none] (.pair .str (.pair .str (.int .i64))) some⟩
def uj K (a:BS×BS×BS×BS):=Jt AQ K (aI [some 4] (aE (.pair .str (.pair .str (.pair .str .str))) a))
attribute [irreducible] uj
def MA:uj K a=cond (ed (a.1,(a.2.2.1,(a.2.1,a.2.2.2)))) (some ((br (a.1,(a.2.2.1,(a.2.1,a.2.2.2)))).1,((br (a.1,(a.2.2.1,(a.2.1,a.2.2.2)))).2.1,(br (a.1,(a.2.2.1,(a.2.1,a.2.2.2)))).2.2))) (none):=af
end
end Ls.pU
namespace Ls.bY
open dC
open Ls.Lf
open Go
set_option autoImplicit true
set_option relaxedAutoImplicit true
noncomputable section
def ED:Fx (Int):=⟨[(80,TO),(47,nT)],[],Fa (E0.fn 46) [4,1,4,0,4] [] [],aJ [none] (.int .i64) some⟩
def B5 K:=J ED K 43 [] [] []
def Cr K a:=J ED K 11 [] [(vs a)] []
def Ri K (a:BS):=Jt ED K (aI [none] (aE .str a))
attribute [irreducible] B5 Cr Ri
def aaL:B5 K=some 0:=af
def aaM:Cr K a=cond (bw a) (cond ((bZ 4096 (cS a))) (some 10) (B5 K)) (none):=by rw [<-B.e K (B5 K)];kernel_rfl
def afY:Ri K a=cond (uQ a) (cond ((!(tN a))) (some 3) (Cr K a)) (none):=by rw [<-B.e K (Cr K)];kernel_rfl
def I7:Fx (Int):=⟨[(81,gZ)],[],Fa (E0.fn 47) [4,1,4] [] [],aJ [none] (.int .i64) some⟩
def zx K a:=J I7 K 11 [] [(vs a)] []
def N1 K (a:BS):=Jt I7 K (aI [none] (aE .str a))
attribute [irreducible] zx N1
def VR:zx K a=some (aCx a.length):=af
def afw:N1 K a=cond (bK a) (cond ((bc a)) (some (aCw .i64 ((aCx a.length)-1))) (zx K a)) (none):=by rw [<-B.e K (zx K)];kernel_rfl
def oD:Fx (Bool):=⟨[],[],Fa (E0.fn 80) [4,1,9,4,9,17,0,17,4,17,0,4] [] [],aJ [none] .bool some⟩
def Bs K a b c:=J oD K 86619 [a] [(vs b),(vi c)] []
def EN K a b c:=J oD K 21083 [a] [(vs b),(vi c)] []
def Cz K:=J oD K 1371 [] [] []
def oJ K n a b:=Jl oD K n 2651 [] [(vs a),(vi b)] []
def Ey K a b:=J oD K 347 [] [(vs a),(vi b)] []
def qO K a b:=J oD K 91 [] [(vs a),(vi b)] []
def EG K a:=J oD K 11 [] [(vs a)] []
def Vm K (a:BS):=Jt oD K (aI [none] (aE .str a))
attribute [irreducible] Bs EN Cz oJ Ey qO EG Vm
def ZQ:Bs K a b c=oJ K a b (aCw .i64 (c+1)):=af
def abk:EN K c a b=(dW a b).bind λd=>cond ((bZ (dB d) 48)) (some false) ((dW a b).bind λf=>cond ((bZ 57 (dB f))) (some false) (Bs K c a b)):=by rw [<-B.e K (Bs K c)];kernel_rfl
def LN:Cz K=some true:=af
def OO:oJ K (k+1) a b=cond ((bZ b (aCx a.length))) (EN K k a b) (Cz K):=by rw [<-B.e K (EN K k),<-B.e K (Cz K)];kernel_rfl
def abm:Ey K a b=oJ K K a b:=by rw [<-B.e K (oJ K K)];kernel_rfl
def abN:qO K a b=cond ((Int.same b (aCx a.length))) (some false) ((dW a b).bind λc=>cond ((Int.same (dB c) 48)) (some false) (Ey K a b)):=by rw [<-B.e K (Ey K)];kernel_rfl
def abY:EG K a=cond ((bZ 0 (aCx a.length))) ((dW a 0).bind λb=>cond ((Int.same (dB b) 45)) (qO K a 1) (qO K a 0)) (qO K a 0):=by rw [<-B.e K (qO K)];kernel_rfl
def aiy:Vm K a=cond ((aD a ([48]:BS))) (some true) (EG K a):=by rw [<-B.e K (EG K)];kernel_rfl
def MU:Fx (Bool):=⟨[],[],Fa (E0.fn 81) [4] [] [],aJ [none] .bool some⟩
def Ix K (a:BS):=Jt MU K (aI [none] (aE .str a))
attribute [irreducible] Ix
def ZF:Ix K a=(dW a 0).bind λb=>some (Int.same (dB b) 45):=af
def EP:Fx (Int):=⟨[(135,KF),(138,tj),(137,ow),(136,Cw)],[],Fa (E0.fn 100) [16,0,16,35,16] [] [],aJ [none] (.int .i64) some⟩
def BJ K:=J EP K 171 [] [] []
def xB K a b c:=J EP K 23 [] [(vs a),(vs b),(vi c)] []
def P0 K (a:BS) (b:BS):=Jt EP K (aI [none,none] (aE (.pair .str .str) (a,b)))
attribute [irreducible] BJ xB P0
def aaI:BJ K=some 1:=af
def Zu:xB K a b c=cond (ez a) (cond (cr (aM a)) (cond (ez b) (cond (cr (aM b)) (cond (eo ((bA (aM a)),(bA (aM b)))) (some (aCw .i64 (c*(fK ((bA (aM a)),(bA (aM b))))))) (none)) (none)) (none)) (none)) (none):=af
def afV:P0 K a b=cond (kG a) (cond (kG b) (cond ((!(Int.same (gC a) (gC b)))) (cond ((bZ (gC a) (gC b))) (some (-1)) (BJ K)) (xB K a b (gC a))) (none)) (none):=by rw [<-B.e K (BJ K),<-B.e K (xB K)];kernel_rfl
def vZ:Fx (BS):=⟨[(139,Iv),(140,T0)],[],Fa (E0.fn 101) [96,32,96,32,16] [] [],aJ [none] .str some⟩
def zA K a b c:=J vZ K 163 [a] [(vs b),(vs c)] []
def zc K a:=J vZ K 23 [] [(vs a)] []
def qb K n a b:=Jl vZ K n 19 [] [(vs a),(vs b)] []
def Nx K (a:BS) (b:BS):=Jt vZ K (aI [none,none] (aE (.pair .str .str) (a,b)))
attribute [irreducible] zA zc qb Nx
def Xs:zA K c b a=cond (nB (b,a)) (qb K c a (tF (b,a))) (none):=af
def A9:zc K a=some a:=af
def CB:qb K (k+1) a b=cond ((!(aD b ([48]:BS)))) (zA K k a b) (zc K a):=by rw [<-B.e K (zA K k),<-B.e K (zc K)];kernel_rfl
def adV:Nx K a b=cond (kV a) (cond (kV b) (qb K K (ki a) (ki b)) (none)) (none):=by rw [<-B.e K (qb K K)];kernel_rfl
def zi:Fx (BS):=⟨[(81,gZ)],[],Fa (E0.fn 180) [4,1,4,1,4] [] [],aJ [none] .str some⟩
def xU K a:=J zi K 43 [] [(vs a)] []
def yn K a:=J zi K 11 [] [(vs a)] []
def KI K (a:BS):=Jt zi K (aI [none] (aE .str a))
attribute [irreducible] xU yn KI
def Vr:xU K a=cond (aCF (([45]:BS).length+a.length) 9223372036854775807) (some (([45]:BS)++a)) (none):=af
def UM:yn K a=cond (bK a) (cond ((bc a)) (cond (dD 1 (aCx a.length)) (some (a.drop 1)) (none)) (xU K a)) (none):=by rw [<-B.e K (xU K)];kernel_rfl
def abv:KI K a=cond ((aD a ([48]:BS))) (some a) (yn K a):=by rw [<-B.e K (yn K)];kernel_rfl
def WZ:Fx (BS):=⟨[(175,HL),(141,rV),(174,KR)],[],Fa (E0.fn 140) [16] [] [],aJ [none] .str some⟩
def Vd K (a:BS) (b:BS):=Jt WZ K (aI [none,none] (aE (.pair .str .str) (a,b)))
attribute [irreducible] Vd
def ahZ:Vd K b a=cond (ft (b,a)) (cond (cH (a,(ek (b,a)))) (cond (gV (b,(bE (a,(ek (b,a)))))) (some (nO (b,(bE (a,(ek (b,a))))))) (none)) (none)) (none):=af
def Gb:Fx (BS):=⟨[(47,nT),(177,zY),(176,Bv),(138,tj),(179,Q8),(81,gZ),(178,EO)],[],Fa (E0.fn 141) [16,3,16] [] [],aJ [none] .str some⟩
def ss K a b:=J Gb K 11 [] [(vs a),(vs b)] []
def KH K (a:BS) (b:BS):=Jt Gb K (aI [none,none] (aE (.pair .str .str) (a,b)))
attribute [irreducible] ss KH
def Vv:ss K a b=cond (ez a) (cond (ez b) (cond (sO ((aM a),(aM b))) (cond (bK a) (cond (bK b) (cond (fQ ((ml ((aM a),(aM b))),(!((bc a)==(bc b))))) (some (dY ((ml ((aM a),(aM b))),(!((bc a)==(bc b)))))) (none)) (none)) (none)) (none)) (none)) (none):=af
def abX:KH K a b=cond (bw a) (cond (bw b) (cond ((dD (aCw .i64 ((cS a)+(cS b))) 18)) (cond (fD a) (cond (fD b) (cond (iy (aCw .i64 ((cJ a)*(cJ b)))) (some (iW (aCw .i64 ((cJ a)*(cJ b))))) (none)) (none)) (none)) (ss K a b)) (none)) (none):=by rw [<-B.e K (ss K)];kernel_rfl
def G3:Fx (Int):=⟨[(81,gZ)],[],Fa (E0.fn 135) [4,1,4,0,4] [] [],aJ [none] (.int .i64) some⟩
def EE K:=J G3 K 43 [] [] []
def EL K a:=J G3 K 11 [] [(vs a)] []
def UQ K (a:BS):=Jt G3 K (aI [none] (aE .str a))
attribute [irreducible] EE EL UQ
def abx:EE K=some 1:=af
def ab3:EL K a=cond (bK a) (cond ((bc a)) (some (-1)) (EE K)) (none):=by rw [<-B.e K (EE K)];kernel_rfl
def ah1:UQ K a=cond ((aD a ([48]:BS))) (some 0) (EL K a):=by rw [<-B.e K (EL K)];kernel_rfl
def mI:Fx (Int):=⟨[],[],Fa (E0.fn 136) [16,0,16,3,35,0,35,16,0,16,35,0,16] [] [],aJ [none] (.int .i64) some⟩
def BX K:=J mI K 85 [] [] []
def BU K a:=J mI K 43155 [a] [] []
def Ac K a b c d:=J mI K 2707 [a] [(mP b),(mP c),(vi d)] []
def Cl K a b c d:=J mI K 659 [a] [(mP b),(mP c),(vi d)] []
def Aa K:=J mI K 43 [] [] []
def nf K n a b c:=Jl mI K n 83 [] [(mP a),(mP b),(vi c)] []
def BQ K a b:=J mI K 11 [] [(mP a),(mP b)] []
def QO K (a:LI) (b:LI):=Jt mI K (aI [none,none] (aE (.pair (.list (.int .i64)) (.list (.int .i64))) (a,b)))
attribute [irreducible] BX BU Ac Cl Aa nf BQ QO
def Z7:BX K=some 1:=af
def Y1:BU K a=some 1:=af
def VX:Ac K a b c d=nf K a b c (aCw .i64 (d-1)):=af
def aau:Cl K b c d a=(dW c a).bind λf=>(dW d a).bind λh=>cond ((!(Int.same f h))) ((dW c a).bind λj=>(dW d a).bind λk=>cond ((bZ j k)) (some (-1)) (BU K b)) (Ac K b c d a):=by rw [<-B.e K (BU K b),<-B.e K (Ac K b)];kernel_rfl
def Kb:Aa K=some 0:=af
def Ly:nf K (k+1) b c a=cond ((dD 0 a)) (Cl K k b c a) (Aa K):=by rw [<-B.e K (Cl K k),<-B.e K (Aa K)];kernel_rfl
def Yy:BQ K a b=nf K K a b (aCw .i64 ((aCx a.length)-1)):=by rw [<-B.e K (nf K K)];kernel_rfl
def agv:QO K a b=cond ((!(Int.same (aCx a.length) (aCx b.length)))) (cond ((bZ (aCx a.length) (aCx b.length))) (some (-1)) (BX K)) (BQ K a b):=by rw [<-B.e K (BX K),<-B.e K (BQ K)];kernel_rfl
def Fj:Fx (LI):=⟨[],[],Fa (E0.fn 137) [9,9,9,9,4] [] [],aJ [none] (.list (.int .i64)) some⟩
def GP K a b c:=J Fj K 163 [a] [(mP b),(vi c)] []
def BT K a b:=J Fj K 23 [] [(mP a),(vi b)] []
def yr K n a b:=Jl Fj K n 19 [] [(mP a),(vi b)] []
def Z5 K (a:LI):=Jt Fj K (aI [none] (aE (.list (.int .i64)) a))
attribute [irreducible] GP BT yr Z5
def QR:GP K a b c=yr K a b (aCw .i64 (c-1)):=af
def Rr:BT K b a=cond ((dD 0 a&&dD a (aCx b.length))) (some (b.take a.toNat)) (none):=af
def Qq:yr K (k+1) b a=cond ((bZ 0 a)) ((dW b (aCw .i64 (a-1))).bind λc=>cond ((Int.same c 0)) (GP K k b a) (BT K b a)) (BT K b a):=by rw [<-B.e K (GP K k),<-B.e K (BT K)];kernel_rfl
def akd:Z5 K a=yr K K a (aCx a.length):=by rw [<-B.e K (yr K K)];kernel_rfl
def wW:Fx (LI):=⟨[],[],Fa (E0.fn 138) [25,8,25,8,4] [(0,[(3,none,.own (.int .i64))])] [],aJ [none] (.list (.int .i64)) some⟩
def hI a:=([some (.seq (.int .i64) a)]:List (Option LB))
def zP K a b c (d:LI):=J wW K 331 [a] [(vs b),(.own 0),(vi c)] (hI d)
def tC K (a:LI):=J wW K 23 [] [(.own 0)] (hI a)
def nW K n a b (c:LI):=Jl wW K n 43 [] [(vs a),(.own 0),(vi b)] (hI c)
def NN K (a:BS):=Jt wW K (aI [none] (aE .str a))
attribute [irreducible] zP tC nW NN
def Wn:zP K d a b c=(dW a b).bind λf=>cond (fits (c.length+1) 8) (nW K d a (aCw .i64 (b-1)) (c++([(aCw .i64 (aCw .u8 ((dB f)-48)))]:LI))) (none):=af
def JB:tC K a=some a:=af
def JL:nW K (k+1) c a b=cond ((dD 0 a)) ((dW c a).bind λd=>cond ((!(Int.same (dB d) 45))) (zP K k c a b) (tC K b)) (tC K b):=by rw [<-B.e K (zP K k),<-B.e K (tC K)];kernel_rfl
def aeE:NN K a=nW K K a (aCw .i64 ((aCx a.length)-1)) ([]:LI):=by rw [<-B.e K (nW K K)];kernel_rfl
def CS:Fx (BS):=⟨[(81,gZ)],[],Fa (E0.fn 139) [4,1,4] [] [],aJ [none] .str some⟩
def sQ K a:=J CS K 11 [] [(vs a)] []
def FQ K (a:BS):=Jt CS K (aI [none] (aE .str a))
attribute [irreducible] sQ FQ
def QK:sQ K a=some a:=af
def WS:FQ K a=cond (bK a) (cond ((bc a)) (cond (dD 1 (aCx a.length)) (some (a.drop 1)) (none)) (sQ K a)) (none):=by rw [<-B.e K (sQ K)];kernel_rfl
def EY:Fx (BS):=⟨[(181,It),(177,zY),(176,Bv),(138,tj),(81,gZ),(182,TW),(178,EO),(137,ow),(136,Cw),(183,HD)],[],Fa (E0.fn 143) [16,3,16,99,16,98,16] [] [],aJ [none] .str some⟩
def Bc K a b c:=J EY K 347 [] [(vs a),(mP b),(mP c)] []
def G2 K a b c d:=J EY K 91 [] [(vs a),(vs b),(mP c),(mP d)] []
def xH K a b:=J EY K 11 [] [(vs a),(vs b)] []
def YB K (a:BS) (b:BS):=Jt EY K (aI [none,none] (aE (.pair .str .str) (a,b)))
attribute [irreducible] Bc G2 xH YB
def aef:Bc K a b c=cond (ep (c,b)) (cond (bK a) (cond (fQ ((fN (c,b)),(bc a))) (some (dY ((fN (c,b)),(bc a)))) (none)) (none)) (none):=af
def afb:G2 K c d a b=cond (cr a) (cond (cr b) (cond (eo ((bA a),(bA b))) (cond ((dD 0 (fK ((bA a),(bA b))))) (cond (ep (a,b)) (cond (bK c) (cond (fQ ((fN (a,b)),(bc c))) (some (dY ((fN (a,b)),(bc c)))) (none)) (none)) (none)) (Bc K d a b)) (none)) (none)) (none):=by rw [<-B.e K (Bc K)];kernel_rfl
def adS:xH K a b=cond (ez a) (cond (ez b) (cond (bK a) (cond (bK b) (cond (((bc a)==(bc b))) (cond (uO ((aM a),(aM b))) (cond (bK a) (cond (fQ ((qa ((aM a),(aM b))),(bc a))) (some (dY ((qa ((aM a),(aM b))),(bc a)))) (none)) (none)) (none)) (G2 K a b (aM a) (aM b))) (none)) (none)) (none)) (none):=by rw [<-B.e K (G2 K)];kernel_rfl
def alZ:YB K a b=cond (jU (a,17)) (cond ((mg (a,17))) (cond (jU (b,17)) (cond ((mg (b,17))) (cond (fD a) (cond (fD b) (cond (iy (aCw .i64 ((cJ a)+(cJ b)))) (some (iW (aCw .i64 ((cJ a)+(cJ b))))) (none)) (none)) (none)) (xH K a b)) (none)) (xH K a b)) (none):=by rw [<-B.e K (xH K)];kernel_rfl
def Yc:Fx (BS):=⟨[(180,Ds),(143,Nr)],[],Fa (E0.fn 174) [16] [] [],aJ [none] .str some⟩
def Vj K (a:BS) (b:BS):=Jt Yc K (aI [none,none] (aE (.pair .str .str) (a,b)))
attribute [irreducible] Vj
def aib:Vj K b a=cond (iH a) (cond (e9 (b,(eQ a))) (some (eS (b,(eQ a)))) (none)) (none):=af
def EJ:Fx (BS):=⟨[(181,It),(177,zY),(216,P9),(176,Bv),(138,tj),(137,ow),(217,P3),(81,gZ),(178,EO),(174,KR)],[],Fa (E0.fn 175) [16,3,16,128,16] [] [],aJ [none] .str some⟩
def wO K a:=J EJ K 187 [] [(vs a)] []
def sl K a b:=J EJ K 11 [] [(vs a),(vs b)] []
def Rz K (a:BS) (b:BS):=Jt EJ K (aI [none,none] (aE (.pair .str .str) (a,b)))
attribute [irreducible] wO sl Rz
def ZT:wO K a=some a:=af
def aab:sl K a b=cond (ez a) (cond (cr (aM a)) (cond (ez b) (cond (cr (aM b)) (cond (mf ((bA (aM a)),(bA (aM b)))) (cond (bK a) (cond (bK b) (cond (fQ ((gM ((bA (aM a)),(bA (aM b)))).1,(!((bc a)==(bc b))))) (cond (bK a) (cond (bK b) (cond ((!((bc a)==(bc b)))) (cond ((bZ 0 (aCx (gM ((bA (aM a)),(bA (aM b)))).2.length))) (cond (gV ((dY ((gM ((bA (aM a)),(bA (aM b)))).1,(!((bc a)==(bc b))))),([49]:BS))) (some (nO ((dY ((gM ((bA (aM a)),(bA (aM b)))).1,(!((bc a)==(bc b))))),([49]:BS)))) (none)) (wO K (dY ((gM ((bA (aM a)),(bA (aM b)))).1,(!((bc a)==(bc b))))))) (wO K (dY ((gM ((bA (aM a)),(bA (aM b)))).1,(!((bc a)==(bc b))))))) (none)) (none)) (none)) (none)) (none)) (none)) (none)) (none)) (none)) (none):=by rw [<-B.e K (wO K)];kernel_rfl
def afR:Rz K a b=cond (jU (a,17)) (cond ((mg (a,17))) (cond (jU (b,17)) (cond ((mg (b,17))) (cond (fD a) (cond (fD b) (cond (mr ((cJ a),(cJ b))) (cond (iy (oM ((cJ a),(cJ b)))) (some (iW (oM ((cJ a),(cJ b))))) (none)) (none)) (none)) (none)) (sl K a b)) (none)) (sl K a b)) (none):=by rw [<-B.e K (sl K)];kernel_rfl
def qV:Fx (BS):=⟨[],[],Fa (E0.fn 176) [4,1,25,9,25,9,4,8,4] [] [],aJ [none] .str some⟩
def B6 K a b c d:=J qV K 1323 [a] [(vi b),(vs c),(vi d)] []
def Bw K a:=J qV K 347 [] [(vs a)] []
def wC K a b:=J qV K 91 [] [(vi a),(vs b)] []
def o7 K n a b c:=Jl qV K n 171 [] [(vi a),(vs b),(vi c)] []
def Cd K a:=J qV K 11 [] [(vi a)] []
def Ra K (a:Int):=Jt qV K (aI [none] (aE (.int .i64) a))
attribute [irreducible] B6 Bw wC o7 Cd Ra
def aae:B6 K c d b a=cond ((dD 0 (aCw .i64 ((cond (bZ (aCC a 10) (aCw .i64 (0-(aCC a 10)))) (aCw .i64 (0-(aCC a 10))) (aCC a 10))+1))&&dD (aCw .i64 ((cond (bZ (aCC a 10) (aCw .i64 (0-(aCC a 10)))) (aCw .i64 (0-(aCC a 10))) (aCC a 10))+1)) 10)) (cond ((dD 0 (cond (bZ (aCC a 10) (aCw .i64 (0-(aCC a 10)))) (aCw .i64 (0-(aCC a 10))) (aCC a 10))&&dD (cond (bZ (aCC a 10) (aCw .i64 (0-(aCC a 10)))) (aCw .i64 (0-(aCC a 10))) (aCC a 10)) (aCw .i64 ((cond (bZ (aCC a 10) (aCw .i64 (0-(aCC a 10)))) (aCw .i64 (0-(aCC a 10))) (aCC a 10))+1)))) (cond (aCF (((([48,49,50,51,52,53,54,55,56,57]:BS).drop (cond (bZ (aCC a 10) (aCw .i64 (0-(aCC a 10)))) (aCw .i64 (0-(aCC a 10))) (aCC a 10)).toNat).take ((aCw .i64 ((cond (bZ (aCC a 10) (aCw .i64 (0-(aCC a 10)))) (aCw .i64 (0-(aCC a 10))) (aCC a 10))+1)).toNat-(cond (bZ (aCC a 10) (aCw .i64 (0-(aCC a 10)))) (aCw .i64 (0-(aCC a 10))) (aCC a 10)).toNat)).length+b.length) 9223372036854775807) (o7 K c d (((([48,49,50,51,52,53,54,55,56,57]:BS).drop (cond (bZ (aCC a 10) (aCw .i64 (0-(aCC a 10)))) (aCw .i64 (0-(aCC a 10))) (aCC a 10)).toNat).take ((aCw .i64 ((cond (bZ (aCC a 10) (aCw .i64 (0-(aCC a 10)))) (aCw .i64 (0-(aCC a 10))) (aCC a 10))+1)).toNat-(cond (bZ (aCC a 10) (aCw .i64 (0-(aCC a 10)))) (aCw .i64 (0-(aCC a 10))) (aCC a 10)).toNat))++b) (aCw .i64 (aCG a 10))) (none)) (none)) (none):=af
def aax:Bw K a=some a:=af
def YY:wC K b a=cond ((bZ b 0)) (cond (aCF (([45]:BS).length+a.length) 9223372036854775807) (some (([45]:BS)++a)) (none)) (Bw K a):=by rw [<-B.e K (Bw K)];kernel_rfl
def Dx:o7 K (k+1) a b c=cond ((!(Int.same c 0))) (B6 K k a b c) (wC K a b):=by rw [<-B.e K (B6 K k),<-B.e K (wC K)];kernel_rfl
def Ym:Cd K a=o7 K K a ([]:BS) a:=by rw [<-B.e K (o7 K K)];kernel_rfl
def agc:Ra K a=cond ((Int.same a 0)) (some ([48]:BS)) (Cd K a):=by rw [<-B.e K (Cd K)];kernel_rfl
def pk:Fx (Int):=⟨[(81,gZ)],[],Fa (E0.fn 177) [25,9,25,25,9,4,8,4] [] [],aJ [none] (.int .i64) some⟩
def tB K a b c d:=J pk K 1355 [a] [(vs b),(vi c),(vi d)] []
def zn K a b c d:=J pk K 331 [a] [(vs b),(vi c),(vi d)] []
def z8 K a:=J pk K 87 [] [(vi a)] []
def nP K a b:=J pk K 23 [] [(vs a),(vi b)] []
def gF K n a b c:=Jl pk K n 43 [] [(vs a),(vi b),(vi c)] []
def Ob K (a:BS):=Jt pk K (aI [none] (aE .str a))
attribute [irreducible] tB zn z8 nP gF Ob
def JU:tB K a b c d=gF K a b c (aCw .i64 (d+1)):=af
def Kw:zn K c a d b=(dW a b).bind λf=>cond ((!(Int.same (dB f) 45))) ((dW a b).bind λh=>tB K c a (aCw .i64 ((aCw .i64 (d*10))+(aCw .i64 (aCw .u8 ((dB h)-48))))) b) (tB K c a d b):=by rw [<-B.e K (tB K c)];kernel_rfl
def XC:z8 K a=some a:=af
def WM:nP K a b=cond (bK a) (cond ((bc a)) (some (aCw .i64 (0-b))) (z8 K b)) (none):=by rw [<-B.e K (z8 K)];kernel_rfl
def Bj:gF K (k+1) a b c=cond ((bZ c (aCx a.length))) (zn K k a b c) (nP K a b):=by rw [<-B.e K (zn K k),<-B.e K (nP K)];kernel_rfl
def aeC:Ob K a=gF K K a 0 0:=by rw [<-B.e K (gF K K)];kernel_rfl
def lb:Fx (BS):=⟨[(137,ow)],[],Fa (E0.fn 178) [16,3,33,97,32,97,32,16] [(3,[(5,none,.own (.int .u8))])] [],aJ [none] .str some⟩
def WI a:=([none,some (.seq (.int .u8) a)]:List (Option LB))
def D3 K a b c (d:LI):=J lb K 10551 [a] [(mP b),(.own 1),(vi c)] (WI d)
def Eb K (a:LI):=J lb K 695 [] [(.own 1)] (WI a)
def q8 K n a b (c:LI):=Jl lb K n 1335 [] [(mP a),(.own 1),(vi b)] (WI c)
def Eu K a (b:LI):=J lb K 183 [] [(mP a),(.own 1)] (WI b)
def EF K a b c (d:LI):=J lb K 10551 [a] [(mP b),(.own 0),(vi c)] [some (.seq (.int .u8) d)]
def Ce K (a:LI):=J lb K 695 [] [(.own 0)] [some (.seq (.int .u8) a)]
def qQ K n a b (c:LI):=Jl lb K n 1335 [] [(mP a),(.own 0),(vi b)] [some (.seq (.int .u8) c)]
def D5 K a:=J lb K 183 [] [(mP a),.nil] []
def D8 K a b:=J lb K 23 [] [(mP a),(vb b)] []
def T6 K (a:LI) (b:Bool):=Jt lb K (aI [none,none] (aE (.pair (.list (.int .i64)) .bool) (a,b)))
attribute [irreducible] D3 Eb q8 Eu EF Ce qQ D5 D8 T6
def abA:D3 K d a b c=(dW a b).bind λf=>cond (fits (c.length+1) 1) (q8 K d a (aCw .i64 (b-1)) (c++([(aCw .u8 (aCw .i64 (48+f)))]:LI))) (none):=af
def aby:Eb K a=cond (um a) (some (ofBytes a)) (none):=af
def Pa:q8 K (k+1) c a b=cond ((dD 0 a)) (D3 K k c a b) (Eb K b):=by rw [<-B.e K (D3 K k),<-B.e K (Eb K)];kernel_rfl
def abP:Eu K a b=q8 K K a (aCw .i64 ((aCx a.length)-1)) b:=by rw [<-B.e K (q8 K K)];kernel_rfl
def abu:EF K f b c d=(dW b c).bind λa=>cond (fits (d.length+1) 1) (qQ K f b (aCw .i64 (c-1)) (d++([(aCw .u8 (aCw .i64 (48+a)))]:LI))) (none):=af
def Yn:Ce K a=cond (um a) (some (ofBytes a)) (none):=af
def O5:qQ K (k+1) c a b=cond ((dD 0 a)) (EF K k c a b) (Ce K b):=by rw [<-B.e K (EF K k),<-B.e K (Ce K)];kernel_rfl
def abl:D5 K a=qQ K K a (aCw .i64 ((aCx a.length)-1)) ([]:LI):=by rw [<-B.e K (qQ K K)];kernel_rfl
def ab4:D8 K a b=cond (b) (Eu K a ([45]:LI)) (D5 K a):=by rw [<-B.e K (Eu K),<-B.e K (D5 K)];kernel_rfl
def aiD:T6 K a b=cond (cr a) (cond ((Int.same (aCx (bA a).length) 0)) (some ([48]:BS)) (D8 K (bA a) b)) (none):=by rw [<-B.e K (D8 K)];kernel_rfl
def mL:Fx (LI):=⟨[(137,ow)],[],Fa (E0.fn 179) [99,32,99,483,227,483,227,99,32,16] [] [],aJ [none] (.list (.int .i64)) some⟩
def aeg a b c d f:=([(mP a),(mP b),(.own 0),(vi c),(vi d),(vi f)]:List LV)
def Cq K a b c d f h j (k:LI):=J mL K 169035 [a,b] (aeg c d f h j) (hI k)
def Bd K a b c d (f:LI):=J mL K 1355 [a] [(mP b),(mP c),(.own 0),(vi d)] (hI f)
def Mh a b c d:=([(mP a),(mP b),(.own 0),(vi c),(vi d)]:List LV)
def wR K a b c d f (h:LI):=J mL K 11339 [a] (Mh b c d f) (hI h)
def nj K a n b c d f h (j:LI):=Jl mL K n 21579 [a] (aeg b c d f h) (hI j)
def BM K a b c d (f:LI):=J mL K 331 [a] [(mP b),(mP c),(.own 0),(vi d)] (hI f)
def tt K (a:LI):=J mL K 23 [] [(.own 0)] (hI a)
def kC K n a b c (d:LI):=Jl mL K n 43 [] [(mP a),(mP b),(.own 0),(vi c)] (hI d)
def Qu K (a:LI) (b:LI):=Jt mL K (aI [none,none] (aE (.pair (.list (.int .i64)) (.list (.int .i64))) (a,b)))
attribute [irreducible] Cq Bd wR nj BM tt kC Qu
def Z4:Cq K n p d f a h b c=cond (C4 (aCw .i64 (a+b)) c.length) ((c[(aCw .i64 (a+b)).toNat]?).bind λj=>(dW d a).bind λk=>(dW f b).bind λl=>cond (C4 (aCw .i64 (a+b)) c.length) (nj K n p d f a (aCw .i64 (aCG (aCw .i64 (h+(aCw .i64 (j+(aCw .i64 (k*l)))))) 10)) (aCw .i64 (b+1)) (c.set (aCw .i64 (a+b)).toNat (aCC (aCw .i64 (h+(aCw .i64 (j+(aCw .i64 (k*l)))))) 10))) (none)) (none):=af
def Yg:Bd K a b c d f=kC K a b c (aCw .i64 (d+1)) f:=af
def aaA:wR K c f a b h d=cond (C4 (aCw .i64 (b+(aCx a.length))) d.length) (Bd K c f a b (d.set (aCw .i64 (b+(aCx a.length))).toNat h)) (none):=by rw [<-B.e K (Bd K c)];kernel_rfl
def MF:nj K a (k+1) c b d f h j=cond ((bZ h (aCx b.length))) (Cq K a k c b d f h j) (wR K a c b d f j):=by rw [<-B.e K (Cq K a k),<-B.e K (wR K a)];kernel_rfl
def Ms:BM K a b c d f=nj K a K b c d 0 0 f:=by rw [<-B.e K (nj K a K)];kernel_rfl
def XM:tt K a=cond (cr a) (some (bA a)) (none):=af
def Nf:kC K (k+1) a d b c=cond ((bZ b (aCx a.length))) (BM K k a d b c) (tt K c):=by rw [<-B.e K (BM K k),<-B.e K (tt K)];kernel_rfl
def agb:Qu K a b=cond ((((Int.same (aCw .i64 ((aCx a.length)+(aCx b.length))) (aCw .i64 ((aCx a.length)+(aCx b.length))))&&(dD 0 (aCw .i64 ((aCx a.length)+(aCx b.length)))))&&(fits ((aCw .i64 ((aCx a.length)+(aCx b.length))).toNat) 8))) (kC K K a b 0 (aCE ((aCw .i64 ((aCx a.length)+(aCx b.length))).toNat) 0:LI)) (none):=by rw [<-B.e K (kC K K)];kernel_rfl
def TY:Fx (Bool):=⟨[(47,nT)],[],Fa (E0.fn 181) [16] [] [],aJ [none] .bool some⟩
def Rk K (a:BS) (b:Int):=Jt TY K (aI [none,none] (aE (.pair .str (.int .i64)) (a,b)))
attribute [irreducible] Rk
def agu:Rk K a b=cond (bw a) (some (dD (cS a) b)) (none):=af
def Cm:Fx (LI):=⟨[(218,Rq),(137,ow)],[],Fa (E0.fn 182) [227,32,227,32,16] [(0,[(5,none,.own (.int .i64))])] [],aJ [none] (.list (.int .i64)) some⟩
def Em K a b c d f (h:LI):=J Cm K 663 [a] (Mh b c d f) (hI h)
def y7 K (a:LI):=J Cm K 47 [] [(.own 0)] (hI a)
def qP K n a b c d (f:LI):=Jl Cm K n 87 [] (Mh a b c d) (hI f)
def Uf K (a:LI) (b:LI):=Jt Cm K (aI [none,none] (aE (.pair (.list (.int .i64)) (.list (.int .i64))) (a,b)))
attribute [irreducible] Em y7 qP Uf
def aca:Em K h b c d a f=cond (lD (b,a)) (cond (lD (c,a)) (cond (fits (f.length+1) 8) (qP K h b c (aCw .i64 (aCG (aCw .i64 (d+(aCw .i64 ((iQ (b,a))+(iQ (c,a)))))) 10)) (aCw .i64 (a+1)) (f++([(aCC (aCw .i64 (d+(aCw .i64 ((iQ (b,a))+(iQ (c,a)))))) 10)]:LI))) (none)) (none)) (none):=af
def abo:y7 K a=cond (cr a) (some (bA a)) (none):=af
def OX:qP K (k+1) a b f c d=cond ((bZ c (aCw .i64 ((cond (bZ (aCx a.length) (aCx b.length)) (aCx b.length) (aCx a.length))+1)))) (Em K k a b f c d) (y7 K d):=by rw [<-B.e K (Em K k),<-B.e K (y7 K)];kernel_rfl
def ahY:Uf K a b=qP K K a b 0 0 ([]:LI):=by rw [<-B.e K (qP K K)];kernel_rfl
def qT:Fx (LI):=⟨[(218,Rq),(137,ow)],[],Fa (E0.fn 183) [227,32,227,483,227,32,16] [(0,[(5,none,.own (.int .i64))])] [],aJ [none] (.list (.int .i64)) some⟩
def Cn K a b c d f (h:LI):=J qT K 2711 [a] (Mh b c d f) (hI h)
def sy K a b c d f h (j:LI):=J qT K 47255 [a] (aeg b c d f h) (hI j)
def Bt K a b c d f (h:LI):=J qT K 663 [a] (Mh b c d f) (hI h)
def sB K (a:LI):=J qT K 47 [] [(.own 0)] (hI a)
def ni K n a b c d (f:LI):=Jl qT K n 87 [] (Mh a b c d) (hI f)
def PY K (a:LI) (b:LI):=Jt qT K (aI [none,none] (aE (.pair (.list (.int .i64)) (.list (.int .i64))) (a,b)))
attribute [irreducible] Cn sy Bt sB ni PY
def aaH:Cn K a b c d f h=ni K a b c d (aCw .i64 (f+1)) h:=af
def ZY:sy K a c d f h j b=cond (fits (b.length+1) 8) (Cn K a c d f h (b++([j]:LI))) (none):=by rw [<-B.e K (Cn K a)];kernel_rfl
def ZZ:Bt K c d b f a j=cond (lD (b,a)) ((dW d a).bind λh=>cond ((bZ (aCw .i64 ((aCw .i64 (h-(iQ (b,a))))-f)) 0)) (sy K c d b 1 a (aCw .i64 ((aCw .i64 ((aCw .i64 (h-(iQ (b,a))))-f))+10)) j) (sy K c d b 0 a (aCw .i64 ((aCw .i64 (h-(iQ (b,a))))-f)) j)) (none):=by rw [<-B.e K (sy K c)];kernel_rfl
def aat:sB K a=cond (cr a) (some (bA a)) (none):=af
def Mb:ni K (k+1) a d f b c=cond ((bZ b (aCx a.length))) (Bt K k a d f b c) (sB K c):=by rw [<-B.e K (Bt K k),<-B.e K (sB K)];kernel_rfl
def agz:PY K a b=ni K K a b 0 0 ([]:LI):=by rw [<-B.e K (ni K K)];kernel_rfl
def KD:Fx (Int):=⟨[],[],Fa (E0.fn 216) [32,16] [] [],aJ [none] (.int .i64) some⟩
def su K a:=J KD K 23 [] [(vi a)] []
def Qw K (a:Int) (b:Int):=Jt KD K (aI [none,none] (aE (.pair (.int .i64) (.int .i64)) (a,b)))
attribute [irreducible] su Qw
def Zm:su K a=some a:=af
def ags:Qw K b a=cond (Int.same a 0) (none) (cond (Int.same a 0) (none) (cond ((!(Int.same (aCC b a) 0))) (cond ((!((bZ b 0)==(bZ a 0)))) (su K (aCw .i64 ((aCw .i64 (aCG b a))-1))) (su K (aCw .i64 (aCG b a)))) (su K (aCw .i64 (aCG b a))))):=by rw [<-B.e K (su K)];kernel_rfl
def oI:Fx ((LI×LI)):=⟨[(137,ow),(136,Cw),(183,HD)],[],Fa (E0.fn 217) [899,384,899,899,899,899,899,384,48] [(0,[(8,none,.fz (.int .i64))])] [(19,(.int .i64))],aJ [none,none] (.pair (.list (.int .i64)) (.list (.int .i64))) some⟩
def QB a b c d:=([(mP a),(mP b),(.own 0),(mP c),(vi d)]:List LV)
def B7 K a b c d f h (j:LI):=J oI K 168239 [a,b] (QB c d f h) (hI j)
def BN K a b c d f (h:LI):=J oI K 5423 [a] (QB b c d f) (hI h)
def so K a n b c d f (h:LI):=Jl oI K n 20783 [a] (QB b c d f) (hI h)
def Ci K a b c d f (h:LI):=J oI K 1327 [a] (QB b c d f) (hI h)
def Cg K a (b:LI):=J oI K 95 [] [(.own 0),(mP a)] (hI b)
def iJ K n a b c d (f:LI):=Jl oI K n 175 [] (QB a b c d) (hI f)
def PX K (a:LI) (b:LI):=Jt oI K (aI [none,none] (aE (.pair (.list (.int .i64)) (.list (.int .i64))) (a,b)))
attribute [irreducible] B7 BN so Ci Cg iJ PX
def YP:B7 K f h j c d a b=cond (ep (d,c)) (cond (C4 a b.length) ((b[a.toNat]?).bind λk=>cond (C4 a b.length) (so K f h j c (fN (d,c)) a (b.set a.toNat (aCw .i64 (k+1)))) (none)) (none)) (none):=af
def Dq:BN K a b c d f h=iJ K a b c d (aCw .i64 (f-1)) h:=af
def D1:so K a (k+1) d b c f h=cond (eo (c,b)) (cond ((dD 0 (fK (c,b)))) (B7 K a k d b c f h) (BN K a d b c f h)) (none):=by rw [<-B.e K (B7 K a k),<-B.e K (BN K a)];kernel_rfl
def Zp:Ci K b c h a d j=(dW c d).bind λf=>cond (fits (1+a.length) 8) (cond (cr (([f]:LI)++a)) (so K b K c h (bA (([f]:LI)++a)) d j) (none)) (none):=by rw [<-B.e K (so K b K)];kernel_rfl
def ZU:Cg K b a=cond (cr a) (some ((bA a),b)) (none):=af
def Nk:iJ K (k+1) d f a b c=cond ((dD 0 b)) (Ci K k d f a b c) (Cg K a c):=by rw [<-B.e K (Ci K k),<-B.e K (Cg K)];kernel_rfl
def afS:PX K a b=cond ((((Int.same (cond (bZ 0 (aCw .i64 ((aCw .i64 ((aCx a.length)-(aCx b.length)))+1))) (aCw .i64 ((aCw .i64 ((aCx a.length)-(aCx b.length)))+1)) 0) (cond (bZ 0 (aCw .i64 ((aCw .i64 ((aCx a.length)-(aCx b.length)))+1))) (aCw .i64 ((aCw .i64 ((aCx a.length)-(aCx b.length)))+1)) 0))&&(dD 0 (cond (bZ 0 (aCw .i64 ((aCw .i64 ((aCx a.length)-(aCx b.length)))+1))) (aCw .i64 ((aCw .i64 ((aCx a.length)-(aCx b.length)))+1)) 0)))&&(fits ((cond (bZ 0 (aCw .i64 ((aCw .i64 ((aCx a.length)-(aCx b.length)))+1))) (aCw .i64 ((aCw .i64 ((aCx a.length)-(aCx b.length)))+1)) 0).toNat) 8))) (cond ((dD 0 (cond (bZ 0 (aCw .i64 ((aCw .i64 ((aCx a.length)-(aCx b.length)))+1))) (aCw .i64 ((aCw .i64 ((aCx a.length)-(aCx b.length)))+1)) 0)&&dD (cond (bZ 0 (aCw .i64 ((aCw .i64 ((aCx a.length)-(aCx b.length)))+1))) (aCw .i64 ((aCw .i64 ((aCx a.length)-(aCx b.length)))+1)) 0) (aCx a.length))) (cond (fits (0+(a.drop (cond (bZ 0 (aCw .i64 ((aCw .i64 ((aCx a.length)-(aCx b.length)))+1))) (aCw .i64 ((aCw .i64 ((aCx a.length)-(aCx b.length)))+1)) 0).toNat).length) 8) (iJ K K a b (([]:LI)++(a.drop (cond (bZ 0 (aCw .i64 ((aCw .i64 ((aCx a.length)-(aCx b.length)))+1))) (aCw .i64 ((aCw .i64 ((aCx a.length)-(aCx b.length)))+1)) 0).toNat)) (aCw .i64 ((cond (bZ 0 (aCw .i64 ((aCw .i64 ((aCx a.length)-(aCx b.length)))+1))) (aCw .i64 ((aCw .i64 ((aCx a.length)-(aCx b.length)))+1)) 0)-1)) (aCE ((cond (bZ 0 (aCw .i64 ((aCw .i64 ((aCx a.length)-(aCx b.length)))+1))) (aCw .i64 ((aCw .i64 ((aCx a.length)-(aCx b.length)))+1)) 0).toNat) 0:LI)) (none)) (none)) (none):=by rw [<-B.e K (iJ K K)];kernel_rfl
def U9:Fx (Int):=⟨[],[],Fa (E0.fn 218) [16,0,16] [] [],aJ [none] (.int .i64) some⟩
def JO K:=J U9 K 11 [] [] []
def adt K (a:LI) (b:Int):=Jt U9 K (aI [none,none] (aE (.pair (.list (.int .i64)) (.int .i64)) (a,b)))
attribute [irreducible] JO adt
def afU:JO K=some 0:=af
def amr:adt K a b=cond ((bZ b (aCx a.length))) ((dW a b).bind λc=>some c) (JO K):=by rw [<-B.e K (JO K)];kernel_rfl
end
end Ls.bY
namespace Ls.fW
open dC
open Ls.Lf
open Go
set_option autoImplicit true
set_option relaxedAutoImplicit true
noncomputable section
def HC:Fx (BS):=⟨[(98,r6)],[],Fa (E0.fn 99) [4,0,4] [] [],aJ [none] .str some⟩
def zw K:=J HC K 11 [] [] []
def On K (a:BS):=Jt HC K (aI [none] (aE .str a))
attribute [irreducible] zw On
def Wb:zw K=some ([49]:BS):=af
def ad4:On K a=cond (dE a) (cond ((dD 0 (cD a))) (cond ((dD 0 (aCw .i64 ((cD a)+1))&&dD (aCw .i64 ((cD a)+1)) (aCx a.length))) (some (a.drop (aCw .i64 ((cD a)+1)).toNat)) (none)) (zw K)) (none):=by rw [<-B.e K (zw K)];kernel_rfl
def D4:Fx (Int):=⟨[(59,OZ),(60,O1)],[],Fa (E0.fn 29) [4,1,4,0,4] [] [],aJ [none] (.int .i64) some⟩
def BH K:=J D4 K 43 [] [] []
def Bz K a:=J D4 K 11 [] [(vs a)] []
def Q7 K (a:BS):=Jt D4 K (aI [none] (aE .str a))
attribute [irreducible] BH Bz Q7
def Zb:BH K=some 0:=af
def Y3:Bz K a=cond (lx a) (cond ((bZ 4096 (uD a))) (some 10) (BH K)) (none):=by rw [<-B.e K (BH K)];kernel_rfl
def af7:Q7 K a=cond (oe a) (cond ((!(qJ a))) (some 3) (Bz K a)) (none):=by rw [<-B.e K (Bz K)];kernel_rfl
def QM:Fx (Int):=⟨[(97,sX),(47,nT),(99,nV)],[],Fa (E0.fn 60) [4] [] [],aJ [none] (.int .i64) some⟩
def NH K (a:BS):=Jt QM K (aI [none] (aE .str a))
attribute [irreducible] NH
def afy:NH K a=cond (dt a) (cond (bw (bq a)) (cond (b9 a) (cond (bw (aP a)) (some (cond (bZ (cS (bq a)) (cS (aP a))) (cS (aP a)) (cS (bq a)))) (none)) (none)) (none)) (none):=af
def GX:Fx (BS):=⟨[(135,KF),(180,Ds),(101,Fv),(175,HL)],[],Fa (E0.fn 142) [3,16,3,16] [] [],aJ [none] .str some⟩
def D9 K a b:=J GX K 187 [] [(vs a),(vs b)] []
def tR K a b:=J GX K 11 [] [(vs a),(vs b)] []
def UG K (a:BS) (b:BS):=Jt GX K (aI [none,none] (aE (.pair .str .str) (a,b)))
attribute [irreducible] D9 tR UG
def abz:D9 K a b=cond (aCF (a.length+([47]:BS).length) 9223372036854775807) (cond (aCF ((a++([47]:BS)).length+b.length) 9223372036854775807) (some ((a++([47]:BS))++b)) (none)) (none):=af
def ab7:tR K a b=cond (fI (a,b)) (cond (ft (a,(eP (a,b)))) (cond (ft (b,(eP (a,b)))) (cond ((aD (ek (b,(eP (a,b)))) ([49]:BS))) (some (ek (a,(eP (a,b))))) (D9 K (ek (a,(eP (a,b)))) (ek (b,(eP (a,b)))))) (none)) (none)) (none):=by rw [<-B.e K (D9 K)];kernel_rfl
def aiN:UG K b a=cond (kG a) (cond ((bZ (gC a) 0)) (cond (iH b) (cond (iH a) (tR K (eQ b) (eQ a)) (none)) (none)) (tR K b a)) (none):=by rw [<-B.e K (tR K)];kernel_rfl
def Tv:Fx (Int):=⟨[(97,sX),(99,nV),(141,rV),(100,Hv)],[],Fa (E0.fn 102) [16] [] [],aJ [none] (.int .i64) some⟩
def PW K (a:BS) (b:BS):=Jt Tv K (aI [none,none] (aE (.pair .str .str) (a,b)))
attribute [irreducible] PW
def af4:PW K a b=cond (dt a) (cond (b9 b) (cond (cH ((bq a),(aP b))) (cond (dt b) (cond (b9 a) (cond (cH ((bq b),(aP a))) (cond (gy ((bE ((bq a),(aP b))),(bE ((bq b),(aP a))))) (some (ke ((bE ((bq a),(aP b))),(bE ((bq b),(aP a)))))) (none)) (none)) (none)) (none)) (none)) (none)) (none):=af
def Om:Fx (BS):=⟨[(98,r6),(143,Nr),(97,sX),(99,nV),(141,rV),(142,EB)],[],Fa (E0.fn 107) [16,3,16] [] [],aJ [none] .str some⟩
def tU K a b:=J Om K 11 [] [(vs a),(vs b)] []
def UJ K (a:BS) (b:BS):=Jt Om K (aI [none,none] (aE (.pair .str .str) (a,b)))
attribute [irreducible] tU UJ
def abD:tU K a b=cond (dt a) (cond (b9 b) (cond (cH ((bq a),(aP b))) (cond (dt b) (cond (b9 a) (cond (cH ((bq b),(aP a))) (cond (e9 ((bE ((bq a),(aP b))),(bE ((bq b),(aP a))))) (cond (b9 a) (cond (b9 b) (cond (cH ((aP a),(aP b))) (cond (fR ((eS ((bE ((bq a),(aP b))),(bE ((bq b),(aP a))))),(bE ((aP a),(aP b))))) (some (iM ((eS ((bE ((bq a),(aP b))),(bE ((bq b),(aP a))))),(bE ((aP a),(aP b)))))) (none)) (none)) (none)) (none)) (none)) (none)) (none)) (none)) (none)) (none)) (none):=af
def aja:UJ K a b=cond (dE a) (cond ((bZ (cD a) 0)) (cond (dE b) (cond ((bZ (cD b) 0)) (cond (e9 (a,b)) (some (eS (a,b))) (none)) (tU K a b)) (none)) (tU K a b)) (none):=by rw [<-B.e K (tU K)];kernel_rfl
def Ed:Fx (BS):=⟨[(98,r6),(141,rV),(97,sX),(99,nV),(142,EB)],[],Fa (E0.fn 108) [16,3,16,3,16] [] [],aJ [none] .str some⟩
def sx K a b:=J Ed K 43 [] [(vs a),(vs b)] []
def CM K a b:=J Ed K 11 [] [(vs a),(vs b)] []
def Rd K (a:BS) (b:BS):=Jt Ed K (aI [none,none] (aE (.pair .str .str) (a,b)))
attribute [irreducible] sx CM Rd
def Yu:sx K a b=cond (dt a) (cond (dt b) (cond (cH ((bq a),(bq b))) (cond (b9 a) (cond (b9 b) (cond (cH ((aP a),(aP b))) (cond (fR ((bE ((bq a),(bq b))),(bE ((aP a),(aP b))))) (some (iM ((bE ((bq a),(bq b))),(bE ((aP a),(aP b)))))) (none)) (none)) (none)) (none)) (none)) (none)) (none):=af
def ZG:CM K a b=cond (dE a) (cond ((bZ (cD a) 0)) (cond (dE b) (cond ((bZ (cD b) 0)) (cond (cH (a,b)) (some (bE (a,b))) (none)) (sx K a b)) (none)) (sx K a b)) (none):=by rw [<-B.e K (sx K)];kernel_rfl
def af6:Rd K a b=cond ((aD a ([48]:BS))) (some ([48]:BS)) (cond ((aD b ([48]:BS))) (some ([48]:BS)) (CM K a b)):=by rw [<-B.e K (CM K)];kernel_rfl
def Qg:Fx (BS):=⟨[(98,r6)],[],Fa (E0.fn 97) [4,1,4] [] [],aJ [none] .str some⟩
def GY K a:=J Qg K 11 [] [(vs a)] []
def Zh K (a:BS):=Jt Qg K (aI [none] (aE .str a))
attribute [irreducible] GY Zh
def afd:GY K a=some a:=af
def akG:Zh K a=cond (dE a) (cond ((dD 0 (cD a))) (cond ((dD 0 (cD a)&&dD (cD a) (aCx a.length))) (some (a.take (cD a).toNat)) (none)) (GY K a)) (none):=by rw [<-B.e K (GY K)];kernel_rfl
def wI:Fx (Bool):=⟨[(97,sX),(46,Io),(98,r6),(99,nV),(100,Hv),(101,Fv)],[],Fa (E0.fn 59) [4,1,4,1,4,17,4] [] [],aJ [none] .bool some⟩
def ti K a b:=J wI K 363 [] [(vs a),(vs b)] []
def zu K a:=J wI K 43 [] [(vs a)] []
def tL K a:=J wI K 11 [] [(vs a)] []
def OB K (a:BS):=Jt wI K (aI [none] (aE .str a))
attribute [irreducible] ti zu tL OB
def Xu:ti K b a=cond (gy (a,([49]:BS))) (cond ((bZ 0 (ke (a,([49]:BS))))) (cond (dt b) (cond (fI ((bq b),a)) (some (aD (eP ((bq b),a)) ([49]:BS))) (none)) (none)) (some false)) (none):=af
def Ww:zu K a=cond (b9 a) (cond (gx (aP a)) (cond ((!(Int.same (df (aP a)) 0))) (cond ((!(Int.same (df (aP a)) 10))) (some false) (ti K a (aP a))) (ti K a (aP a))) (none)) (none):=by rw [<-B.e K (ti K)];kernel_rfl
def WD:tL K a=cond (dE a) (cond ((bZ (cD a) 0)) (some true) (zu K a)) (none):=by rw [<-B.e K (zu K)];kernel_rfl
def afs:OB K a=cond (dt a) (cond (gx (bq a)) (cond ((!(Int.same (df (bq a)) 0))) (cond ((!(Int.same (df (bq a)) 10))) (some false) (tL K a)) (tL K a)) (none)) (none):=by rw [<-B.e K (tL K)];kernel_rfl
def tW:Fx (Int):=⟨[],[],Fa (E0.fn 98) [9,0,9,4,9,0,4] [] [],aJ [none] (.int .i64) some⟩
def CP K a b c:=J tW K 677 [a] [(vs b),(vi c)] []
def BZ K a b c:=J tW K 165 [a] [(vs b),(vi c)] []
def Cf K:=J tW K 11 [] [] []
def pz K n a b:=Jl tW K n 21 [] [(vs a),(vi b)] []
def Qv K (a:BS):=Jt tW K (aI [none] (aE .str a))
attribute [irreducible] CP BZ Cf pz Qv
def Zr:CP K a b c=pz K a b (aCw .i64 (c+1)):=af
def Yp:BZ K b c a=(dW c a).bind λd=>cond ((Int.same (dB d) 47)) (some a) (CP K b c a):=by rw [<-B.e K (CP K b)];kernel_rfl
def MR:Cf K=some (-1):=af
def Mn:pz K (k+1) a b=cond ((bZ b (aCx a.length))) (BZ K k a b) (Cf K):=by rw [<-B.e K (BZ K k),<-B.e K (Cf K)];kernel_rfl
def af0:Qv K a=pz K K a 0:=by rw [<-B.e K (pz K K)];kernel_rfl
end
end Ls.fW
end Go.Proofs.YtccmgnimoheekaaGreatDoor
