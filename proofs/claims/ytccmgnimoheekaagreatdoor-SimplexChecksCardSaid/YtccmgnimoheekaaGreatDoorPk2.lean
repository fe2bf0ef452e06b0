/-
  Part 2 of the proof, joined and thinned by a program.
-/
import Derived.Test.YtccmgnimoheekaaGreatDoorPk1
import Derived.RangeFuncCalls
import Derived.LoopNIn
import GoSem.Extern.BytealgIndexByte
import GoSem.Extern.BytealgMakeNoZero
import GoSem.Extern.AbiNoEscape
set_option autoImplicit true
set_option relaxedAutoImplicit true
set_option linter.all false
set_option linter.unusedVariables false
set_option linter.unusedSimpArgs false
set_option linter.unusedSectionVars false
open Bool renaming and_eq_true -> azl, rec -> aAc, false_eq_true -> aAk, not_eq_true' -> aAx
open Nat renaming beq -> azm, le_refl -> azv, eq_of_beq_eq_true -> azy, testBit -> azR, beq_eq -> az0, lt_of_lt_of_le -> aAa, mul_le_mul_right -> aAb, lt_or_ge -> aAd, ble -> aAh, lt_irrefl -> aAi, le_trans -> aAm, blt_eq -> aAp, le_of_lt -> aAs, blt -> aAv, zero_add -> aAZ, add_mul -> aA2
open Option.some renaming injEq -> azn
open Prod.mk renaming injEq -> azB
open Go.Result renaming andThen_ok -> azQ
open Option renaming bind_some -> azW, bind_eq_some_iff -> aAK, rec -> aAS
open Go.Sem renaming run_bind -> azY, run_pure -> aAe
open List renaming length_append -> aAf, rec -> aAD, take_append_of_le_length -> aAT, eq_nil_of_length_eq_zero -> aAU, length_drop -> aA0
open Int renaming ofNat -> aAg, toNat_natCast -> aAY
open Go.Extern.BytealgMakeNoZero renaming digits -> aAl
open Go.Value renaming bool -> aAN
open Go.Code renaming roundsIn -> aA1
open Go.Region renaming binds -> aA3
open Go.Extern.BytealgIndexByte renaming indexByte -> aA4
namespace Go.Proofs.YtccmgnimoheekaaGreatDoor
namespace dC
open Go
abbrev Fr (r:Option Nat):Fence:= {Fence.wide with round:=r}
def Marks (base:Nat) (ρ:pZ) (H:AH) (w:World):List Deferred->Prop
 | []=>True
 |d::a=>(∃r,d.target= .collected r/\base<=r/\w.heap[r]? =some (.deferred (some []))/\ ¬Own ρ H r/\ ∀b∈a,b.target≠ .collected r)/\Marks base ρ H w a
theorem Marks.frm (a:Gu ρ H w ρ' H' w'): ∀ {b},Marks base ρ H w b->Marks base ρ' H' w' b
 | [],_=>trivial
 |d::b,⟨⟨r,h,j,c,f,k⟩,l⟩=>
  ⟨⟨r,h,j,by rw [a.gQ r (gl c) f];exact c,λn=>f (a.own r (gl c) n),k⟩,Marks.frm a l⟩
structure St (tab:Fu) (base:Nat) (ρ:pZ) (f:AF) (H:AH) (w:World) (a:Act):Prop where
 f:yE ρ f a.tmps
 VG:vR tab ρ H w
 marks:Marks base ρ H w a.defers
 base:base<=w.heap.size
def QU:AE->Exit->Prop
 | .normal,.normal=>True
 | .exit i,.exit j=>i=j
 | .ret,.ret=>True
 |_,_=>False
def aa9 (tab:Fu) (base:Nat) (e:AE) (f':AF) (H':AH) (ρ:pZ) (H:AH) (w:World):Exit->Act->World->Prop:=λc d b=>
 QU e c/\ ∃a,St tab base a f' H' b d/\Gu ρ H w a H' b
def aa1 (tab:Fu) (v:AV) (H':AH) (ρ:pZ) (H:AH) (w:World):Ending->World->Prop:=λe b=>
 ∃y a,e= .returned y/\bT a v y/\vR tab a H' b/\Gu ρ H w a H' b
def Enters (P:Program) (g:Nat):Prop:= ∀a w,(callFunc g a).run P w= .ok (.enter g a) w
def ahP (F:Fence) (n:Nat) (P:Program) (m:Nat) (c:Code) (Q:Exit->Act->World->Prop) (a:Act) (w:World):Prop:=
 match c with
 | .loop b=>aA1 F n P b Q m a w
 |c=>c.wpIn F n P Q a w
theorem ahP.wp (h:ahP F n P m c Q a w):c.wpIn F n P Q a w:=by
 cases c<;>first |exact h |exact wpIn_loop_rounds m h
def Nw (P:Program) (tab:Fu) (x:XF):Prop:= ∀b f H e j d,x b f H=some (e,j,d)-> ∃m,∀k,cOK tab b k=true-> ∀r,(r.isSome=true->mQ b=true)->
 ∀c h w a n,St tab c h f H w a->uM h H d->ahP (Fr r) n P m k (aa9 tab c e j d h H w) a w
theorem Nw.wp (l:Nw P tab x): ∀b f H e f' H',x b f H=some (e,f',H')-> ∀c,cOK tab b c=true-> ∀r,(r.isSome=true->mQ b=true)->
  ∀base ρ w a n,St tab base ρ f H w a->uM ρ H H'->c.wpIn (Fr r) n P (aa9 tab base e f' H' ρ H w) a w:=λb f H e f' H' h c d r j base ρ w a n p k=>
 let⟨m,q⟩:=l b f H e f' H' h
 (q c d r j base ρ w a n p k).wp
def Rj:List AV->Bool
 | []=>true
 | .yield _::_=>false
 |_::aCL=>Rj aCL
theorem Pg: ∀ {a b},Rj (a++ [.yield l]++b)=false
 | [],_=>rfl
 |x::a,b=>by
  have:=Pg (l:=l) (a:=a) (b:=b);cases x<;>first |rfl |exact this
def aiS (P:Program) (tab:Fu) (g:Nat) (a:Array Value) (v:AV) (H':AH) (ρ:pZ) (H:AH) (w:World):Prop:=
 ∃y c b,(callFunc g a).run P w= .ok (.value y) c/\bT b v y/\vR tab b H' c/\Gu ρ H w b H' c
abbrev atJ (P:Program) (tab:Fu) (g:Nat) (b:List AV) (H:AH) (v:AV) (H':AH):Prop:=
 (Enters P g/\ ∀c w (a:Array Value),ca c b a.toList->vR tab c H w->uM c H H'-> ∀n r,CallsIn (Fr r) n P g a w (aa1 tab v H' c H w))\/
 (Rj b=true/\ ∀c w (a:Array Value),ca c b a.toList->vR tab c H w->uM c H H'->aiS P tab g a v H' c H w)
def ac1 (P:Program) (tab:Fu) (c:CF):Prop:= ∀g a H v b,c g a H=some (v,b)->atJ P tab g a H v b
section
variable {P:Program} {tab:Fu}
theorem xX (h:ef tab o op=true): ∀c,o.op≠ .defer c:=by
 intro c a;cases op<;>simp [ef,a]at h
theorem yX (b: ∀c,o.op≠ .defer c)
  (k:sK P tab ρ H w (execOp a.eval o) v H') (h: ∀y w' ρ',bT ρ' v y->vR tab ρ' H' w'->Gu ρ H w ρ' H' w'->next (a.put o.dst y) w'):o.wpIn (Fr r) n P a w next Q:=by
 obtain⟨x,y,w',ρ',l,p,d,f,j⟩:=k;refine⟨λ_ _=>trivial, ?_⟩;rw [Oper.semAt_eq _ _ _ b,l];rcases p with rfl |⟨rfl,rfl⟩
 ·exact h y w' ρ' d f j
 ·exact h _ w' ρ' d f j
theorem run_getLoop (h:w.heap[l]? =some (.loop L)):(Instr.getLoop l).run P w= .ok L w:=by
 simp only [Instr.getLoop,azY,ae5 (P:=P) h (λ_ _ _ e=>by cases e),azQ];rfl
theorem QX (h:w.heap[l]? =some (.loop L)):(setObj l (.loop a)).run P w= .ok () (qZ w l (.loop a)):=
 afF (P:=P) h (λ_ _ _ e=>by cases e)
theorem OI: ∀ps vs xs f f' tmps,mh f ps vs=some f'->ca ρ vs xs->yE ρ f tmps->
  yE ρ f' ((ps.zip xs).foldl (λt p=>t.setIfInBounds p.1 p.2) tmps)/\ps.length=xs.length
 | [],[],[],f,f',tmps,h,_,c=>by simp [mh]at h;subst h;exact⟨c,rfl⟩
 |p::ps,v::vs,x::xs,f,f',tmps,h,b,c=>by
  simp only [mh]at h;cases d:f.put (some p) v with
  |none=>rw [d]at h;cases h
  |some j=>
   rw [d]at h;have k:=yE.put (a:= {tmps:=tmps,defers:=[]}) c d b.1;obtain⟨l,n⟩:=OI ps vs xs j f' _ h b.2 k;exact⟨l,by simp [n]⟩
 | [],_::_,_,_,_,_,h,_,_=>by simp [mh]at h
 |_::_,[],_,_,_,_,h,_,_=>by simp [mh]at h
 |_,[],_::_,_,_,_,_,b,_=>b.elim
 |_,_::_,[],_,_,_,_,b,_=>b.elim
theorem vR.apA (a:vR tab ρ H w) (c:H.get i=some (.loop l)) (d:ρ i=some (some (b,s))): ∃L,w.heap[b]? =some (.loop L)/\ap9 tab ρ l L:=by
 obtain⟨o,f,L,h,j⟩:=a.at_ c d;subst h;exact⟨L,f,j⟩
theorem al2 (hx:Nw P tab x) (vc:Wv x) (e:gA x c (.yield l) A H=some (v,H'))
  (N:ca ρ A d.toList) (hs:vR tab ρ H w) (vd:uM ρ H H') (hb:ρ l=some (some (b,s))) r n:
  ∃L tmps,w.heap[b]? =some (.loop L)/\(Instr.yield b d).run P w= .ok (.round b L.fn tmps L.assign L.body) w/\RoundIn (Fr r) n P b L.fn tmps L.assign L.body w (aa1 tab v H' ρ H w):=by
 simp only [gA]at e;cases hl:H.get l with
 |none=>rw [hl]at e;cases e
 |some ob=>
  rw [hl]at e;cases ob with
  |cells=>cases e
  |map=>cases e
  |loop R=>
   simp only at e;obtain⟨L,hL,k⟩:=hs.apA hl hb;cases O:mh R.f R.ps A with
   |none=>rw [O]at e;cases e
   |some f=>
    rw [O]at e;simp only at e;have ve:L.params.toList=R.ps:=k.ps;obtain⟨vq,vf⟩:=OI R.ps A d.toList R.f f L.tmps O N k.f;refine⟨L,(L.params.zip d).foldl (λtmps (p:Nat×Value)=>tmps.setIfInBounds p.1 p.2) L.tmps,hL, ?_, ?_⟩
    ·have vr:d.size=L.params.size:=by
      rw [<-Array.length_toList,<-Array.length_toList,ve,vf]
     simp only [Instr.yield,azY,run_getLoop hL,azQ];rw [if_neg (by simp [vr])];rfl
    ·have Q:(L.params.zip d).foldl (λtmps (p:Nat×Value)=>tmps.setIfInBounds p.1 p.2) L.tmps=(R.ps.zip d.toList).foldl (λ(t:Array Value) (p:Nat×Value)=>t.setIfInBounds p.1 p.2) L.tmps:=by
      rw [<-Array.foldl_toList,Array.toList_zip,ve]
     rw [Q];refine roundIn_of_wpIn (F:=Fr r) trivial ?_;cases G:x R.assign f H with
     |none=>rw [G]at e;cases e
     |some q=>
      obtain⟨ea,f1,H1⟩:=q;rw [G]at e;cases ea with
      |exit _=>cases e
      |ret=>cases e
      |normal=>
       simp only at e;cases D:H1.get l with
       |none=>rw [D]at e;cases e
       |some vt=>
        rw [D]at e;cases vt with
        |cells=>cases e
        |map=>cases e
        |loop R1=>
         simp only at e;cases vg:R1.st<;>rw [vg]at e<;>try (cases e;done)
         simp only at e;cases I:x R.body f1 (H1.set l (some (.loop {R1 with st:= .busy})))with
         |none=>rw [I]at e;cases e
         |some q2=>
          obtain⟨eb,f2,H2⟩:=q2;rw [I]at e;simp only at e;cases E:H2.get l with
          |none=>rw [E]at e;cases e
          |some vu=>
           rw [E]at e;cases vu with
           |cells=>cases e
           |map=>cases e
           |loop R2=>
            simp only [azn,azB]at e;obtain⟨hv,S⟩:=e;have m1:=vc _ _ _ _ _ _ G;have m2:=vc _ _ _ _ _ _ I;simp only [AH.aei]at m2;have vv:H'.next=H2.next:=by rw [<-S];rfl
            have vh:uM ρ H H1:=vd.left aa;have vw:=hx.wp _ _ _ _ _ _ G L.assign k.assign (some b) (λ_=>k.nrA) w.heap.size ρ w {tmps:=(R.ps.zip d.toList).foldl (λ(t:Array Value) (p:Nat×Value)=>t.setIfInBounds p.1 p.2) L.tmps,defers:=[]} n
             ⟨vq,hs,trivial,azv _⟩ vh
            refine wpIn_mono vw ?_;rintro ex a1 w1 ⟨vx,vj,y,T⟩;cases ex<;>simp only [QU]at vx;show∃v3,_;obtain⟨b1,s1,K⟩:=y.VG.live D;have vk:b1=b:=by
             obtain⟨m',U,z⟩:=T.ext.some_ hb;rw [K]at U;cases U;rcases z with z |z
             ·cases z;rfl
             ·cases z
            subst vk;obtain⟨L1,vl,a⟩:=y.VG.apA D K;obtain⟨u1,u2⟩:=y.VG.upd (ob':= .loop {R1 with st:= .busy}) (o':= .loop {L1 with state:= .busy}) (λ_ e=>by cases e) D K ⟨_,rfl,⟨rfl,a.Be,a.f,a.ps,a.assign,a.body,a.nrA,a.nrB⟩⟩;have vm:L1.state= .ready:=by rw [a.st,vg]
            refine⟨qZ w1 b1 (.loop {L1 with state:= .busy}), ?_, ?_⟩
            ·simp only [Instr.beginRound,azY,run_getLoop vl,azQ,QX vl,vm];rfl
            ·have vn:uM vj (H1.set l (some (.loop {R1 with st:= .busy}))) H2:=by
              have:=(vd.left (H':=H2) aa).right T;exact λi U z=>this i U z
             have vz:=hx.wp _ _ _ _ _ _ I L.body k.body (some b1) (λ_=>k.nrB) w.heap.size vj _ a1 n ⟨y.f,u1,y.marks.frm u2,by rw [Nd];exact y.base⟩ vn;refine wpIn_mono vz ?_;rintro V a2 w2 ⟨u,v0,W,vo⟩;obtain⟨b2,s2,Y⟩:=W.VG.live E;have Z:b2=b1:=by
              obtain⟨m',U,z⟩:=vo.ext.some_ K;rw [Y]at U;cases U;rcases z with z |z
              ·cases z;rfl
              ·cases z
             subst Z;obtain⟨L2,vp,h⟩:=W.VG.apA E Y;have va: ∀(j:Option Code) (nb:Bool) (M:LoopState) (pn:Option dy),AV.bool nb=v->H2.set l (some (.loop {R2 with st:=M,Be:=pn}))=H'->acx tab pn j->j.isNone=nb->
               (if j.isNone=true then LoopState.ready else LoopState.done)=M->
               ∃v' w',(Instr.endRound b2 j).run P w2= .ok v' w'/\aa1 tab v H' ρ H w (.returned v') w':=by
              intro j nb M pn hv S hj v1 v2;obtain⟨k1,k2⟩:=W.VG.upd (ob':= .loop {R2 with st:=M,Be:=pn}) (o':= .loop {L2 with state:=if j.isNone then .ready else .done,pending:=j}) (λ_ e=>by cases e) E Y
               ⟨_,rfl,⟨v2,hj,h.f,h.ps,h.assign,h.body,h.nrA,h.nrB⟩⟩
              refine⟨.bool j.isNone,qZ w2 b2 (.loop {L2 with state:=if j.isNone then .ready else .done,pending:=j}), ?_,⟨.bool j.isNone,v0,rfl, ?_, ?_, ?_⟩⟩
              ·simp only [Instr.endRound,azY,run_getLoop vp,azQ,QX vp,aAe]
              ·rw [<-hv,<-v1];rfl
              ·rw [<-S];exact k1
              ·rw [<-S];exact((T.trans u2).trans vo).trans k2
             cases eb with
             |normal=>cases V<;>simp only [QU]at u;exact va none _ _ _ hv S trivial rfl rfl
             |exit id=>cases V<;>simp only [QU]at u;subst u;exact va (some (.exit id)) _ _ _ hv S (by simp [AE.Be,acx,cOK]) rfl rfl
             |ret=>cases V<;>simp only [QU]at u;exact va (some .ret) _ _ _ hv S (by simp [AE.Be,acx,cOK]) rfl rfl
end
theorem bT.atN (h:bT ρ x (.bool b)):x= .bool b:=by
 cases x with
 |bool c=>have d:aAN b= .bool c:=h;cases d;rfl
 |int k n=>have d:aAN b=_:=h;cases d
 |str s=>have d:aAN b=_:=h;cases d
 |ptr p=>
       rcases p with _ |⟨i,o⟩
       ·have d:aAN b=_:=h;cases d
       ·obtain⟨_,_,_,d,_⟩:=h;cases d
 |slice p _ _ _=>
           rcases p with _ |⟨i,o⟩
           ·obtain⟨d,_⟩:=h;cases d
           ·obtain⟨_,_,_,_,d,_⟩:=h;cases d
 |map p=>
       rcases p with _ |i
       ·have d:aAN b=_:=h;cases d
       ·obtain⟨_,_,d,_⟩:=h;simp [UR]at d
 |func f y z=>obtain⟨_,_,d,_⟩:=h;cases d
 |yield l=>obtain⟨_,_,_,d,_⟩:=h;cases d
 |nilFunc=>have d:aAN b=_:=h;cases d
 |iface t y=>obtain⟨_,d,_⟩:=h;cases d
 |nilIface=>have d:aAN b=_:=h;cases d
 |agg c=>obtain⟨_,d,_⟩:=h;cases d
 |tuple c=>obtain⟨_,d,_⟩:=h;cases d
theorem X5 {a:Act} (A:yE ρ f a.tmps) (h:NW ops g o.guard=true):Region.wanted o (yielded ops a.tmps)=aT f g:=by
 cases g with
 |none=>
  cases p:o.guard with
  |none=>simp [Region.wanted,p,aT]
  |some _=>rw [p]at h;simp [NW]at h
 |some D=>
  obtain⟨t,b⟩:=D;cases p:o.guard with
  |none=>rw [p]at h;simp [NW]at h
  |some E=>
   obtain⟨j,F⟩:=E;rw [p]at h;simp only [NW,azl]at h;obtain⟨h,q⟩:=h;have G:b=F:=by simpa using q
   subst G;cases s:ops[j]? with
   |none=>rw [s]at h;cases h
   |some I=>
    rw [s]at h;simp only at h;cases hd:I.dst with
    |none=>rw [hd]at h;cases h
    |some d=>
     rw [hd]at h;have u:d=t:=azy h;subst u;have hc:=A.2 d;simp only [Region.wanted,p,yielded,s,azW,hd,aT];cases z:a.tmps[d]? with
     |none=>
      rw [Array.getD_eq_getD_getElem?,z]at hc;cases l:f.get d with
      |bool c=>rw [l]at hc;cases(show undef=aAN c from hc)
      |_=>rfl
     |some v=>
      rw [Array.getD_eq_getD_getElem?,z]at hc;simp only [Option.getD_some]at hc;cases v with
      |bool c=>rw [bT.atN hc];simp
      |_=>
       cases l:f.get d with
       |bool c=>rw [l]at hc;cases(show _=aAN c from hc)
       |_=>rfl
section
variable {P:Program} {tab:Fu} (aBl:yA P tab) {x:XF} {c:CF} (hx:Nw P tab x) (hxm:Wv x) (hc:ac1 P tab c) (aBt:adJ c)
include aBl hx hxm hc
theorem amU (hf:yE ρ f a.tmps) (M:vR tab ρ H w) (d:ef tab o (.call g xs)=true)
  (q:aZ (gA x c) (.call g xs) f H=some (v,H')) (hfr:uM ρ H H')
  (h: ∀y w' ρ',bT ρ' v y->vR tab ρ' H' w'->Gu ρ H w ρ' H' w'->next (a.put o.dst y) w'):o.wpIn (Fr r) n P a w next Q:=by
 have R:=xX d;simp only [ef]at d;split at d
 ·rename_i S D;split at d
  ·rename_i g' t;simp only [azl]at d;have N:=(cI d.1).ev hf;have G:=Tp.nk hf (ME d.2);simp only [aZ,asu]at q;refine⟨λ_ _=>trivial, ?_⟩;rw [Oper.semAt_eq _ _ _ R];cases E:f.ev g with
   |func gf ga gb=>
    rw [E]at q N;simp only [gA]at q;obtain⟨x',y',u,h1,h2⟩:=N;have j:ca ρ (ga++xs.map f.ev++gb) ((x'++S.args.map a.eval)++y').toList:=by
     have:=(h1.append G).append h2;simpa using this
    rcases hc _ _ _ _ _ q with⟨I,z⟩ |⟨_,T⟩
    rotate_left
    ·obtain⟨y,w1,U,V,W,Y,Z⟩:=T ρ w _ j M hfr;have p:(execOp a.eval o).run P w= .ok (.value y) w1:=by
      simp only [execOp,D,resolve,t,u,Deferred.ofValue,azY,aAe,azQ,invoke];exact V
     rw [p,Oper.uponIn_value];exact h y w1 U W Y Z
    have p:(execOp a.eval o).run P w= .ok (.enter gf ((x'++S.args.map a.eval)++y')) w:=by
     simp only [execOp,D,resolve,t,u,Deferred.ofValue,azY,aAe,azQ,invoke];rw [I]
    rw [p,Oper.uponIn_enter];refine⟨λh=>by simp [Fence.wide]at h,CallsIn.mono (z ρ w _ j M hfr (n-1) r) ?_⟩;rintro e w' ⟨y,ρ',rfl,k1,k2,k3⟩;exact h y w' ρ' k1 k2 k3
   |yield l=>
    rw [E]at q N;obtain⟨m,hm,l',u,va⟩:=N;have F: ∃O,H.get l=some O:=by
     simp only [gA]at q;cases hl:H.get l with
     |none=>rw [hl]at q;cases q
     |some O=>exact⟨O,rfl⟩
    obtain⟨O,hl⟩:=F;obtain⟨b,s,hb⟩:=M.live hl;rw [hb]at hm;cases hm;have vc:=va b s rfl;subst vc;have j:ca ρ (xs.map f.ev) (S.args.map a.eval).toList:=by simpa using G
    obtain⟨L,K,hL,hy,A⟩:=al2 hx hxm q j M hfr hb r (n-1);have p:(execOp a.eval o).run P w= .ok (.round l' L.fn K L.assign L.body) w:=by
     simp only [execOp,D,resolve,t,u,Deferred.ofValue,azY,aAe,azQ,invoke];simpa using hy
    rw [p,Oper.uponIn_round];refine⟨λh=>by simp [Fence.wide]at h,RoundIn.mono A ?_⟩;rintro e w' ⟨y,ρ',rfl,k1,k2,k3⟩;exact h y w' ρ' k1 k2 k3
   |_=>rw [E]at q;simp [gA]at q
  ·cases d
 ·cases d
theorem alo (p:yE ρ f a.tmps) (q:vR tab ρ H w) (d:ef tab o op=true)
  (s:aZ (gA x c) op f H=some (v,H')) (hfr:uM ρ H H')
  (h: ∀y w' ρ',bT ρ' v y->vR tab ρ' H' w'->Gu ρ H w ρ' H' w'->next (a.put o.dst y) w'):o.wpIn (Fr r) n P a w next Q:=by
 by_cases b: ∃g j,op= .call g j
 ·obtain⟨g,j,rfl⟩:=b;exact amU aBl hx hxm hc p q d s hfr h
 ·exact yX (xX d) (aq2 aBl p q (λg j e=>b ⟨g,j,e⟩) d s λl=>hfr _ (azv _) l) h
theorem atf (s:yE ρ f a.tmps) (q:vR tab ρ H w) (j:ef tab o op=true)
  (d:dQ (gA x c) op f H=some (v,H')) (hfr:uM ρ H H')
  (h: ∀y w' ρ',bT ρ' v y->vR tab ρ' H' w'->Gu ρ H w ρ' H' w'->next (a.put o.dst y) w'):o.wpIn (Fr r) n P a w next Q:=by
 simp only [dQ]at d;cases l:cls op with
 |P=>
  rw [l]at d;simp only at d;cases b:aw op f with
  |none=>rw [b]at d;cases d
  |some t=>
   rw [b]at d;cases d;obtain⟨y,hr,p⟩:=ad5 aBl s w j b;exact yX (xX j) (sK.same q hr p) h
 |R=>
  rw [l]at d;simp only at d;cases b:aR op f H with
  |none=>rw [b]at d;cases d
  |some t=>
   rw [b]at d;cases d;obtain⟨y,hr,p⟩:=adN aBl s q j b;exact yX (xX j) (sK.same q hr p) h
 |A=>
  rw [l]at d;simp only at d;cases b:aW op f H.next with
  |none=>rw [b]at d;cases d
  |some vb=>
   obtain⟨t,u⟩:=vb;rw [b]at d;cases d;exact yX (xX j) (aaZ aBl s q (hfr _ (azv _) ab) j b) h
 |E=>
  rw [l]at d;exact alo aBl hx hxm hc s q j d hfr h
theorem aay: ∀ {aCL} {os},XR tab d aCL os=true->aCL.length=os.length/\ ∀(i:Nat) b,aCL[i]? =some b-> ∃o,os[i]? =some o/\alC b.dst o.dst=true/\NW d b.g o.guard=true/\ef tab o b.op=true
 | [],[],_=>⟨rfl,λi b h=>by simp at h⟩
 |a::aCL,o::os,h=>by
  simp only [XR,azl]at h;obtain⟨⟨⟨l,p⟩,q⟩,s⟩:=h;obtain⟨t,u⟩:=aay s;refine⟨by simp [t],λi b j=> ?_⟩;cases i with
  |zero=>simp at j;subst j;exact⟨o,rfl,l,p,q⟩
  |succ i=>simpa using u i b (by simpa using j)
 | [],_::_,h=>by simp [XR]at h
 |_::_,[],h=>by simp [XR]at h
theorem akw (h:alC a b=true):a=b:=by
 cases a<;>cases b<;>simp [alC,az0]at h
 ·rfl
 ·rw [h]
include aBt in
theorem ahw {ops:Array Oper} {aBw:List bU} (aB6:XR tab ops aBw ops.toList=true) {r:Option Nat} {n base:Nat} {ρ0:pZ} {H0:AH} {w0:World} {f':AF} {H':AH} :
  ∀(k:Nat) (rest:List bU),aBw.drop k=rest-> ∀(f:AF) (H:AH) (ρ:pZ) (w:World) (a:Act),bt (gA x c) rest f H=some (f',H')->St tab base ρ f H w a->uM ρ H H'->Gu ρ0 H0 w0 ρ H w->
   wpOpsIn (Fr r) n P ops (aa9 tab base .normal f' H' ρ0 H0 w0) (List.range' k (ops.size-k)) a w:=by
 obtain⟨hlen,aB3⟩:=aay aBl hx hxm hc aB6;have aCe:aBw.length=ops.size:=by rw [hlen];simp
 intro k rest;induction rest generalizing k with
 |nil=>
  intro hd f H ρ w a hr st hfr hfm;have hk:ops.size-k=0:=by
   have:=congrArg List.length hd;simp at this;omega
  rw [hk];simp only [bt,azn,azB]at hr;obtain⟨rfl,rfl⟩:=hr;exact⟨trivial,ρ,st,hfm⟩
 |cons o rest ih=>
  intro hd f H ρ w a hr st hfr hfm;have hk:k<ops.size:=by
   have:=congrArg List.length hd;simp at this;omega
  have hao:aBw[k]? =some o:=(drop_cons hd).1;have hd':=(drop_cons hd).2;obtain⟨oc,hoc,aB2,hgu,aBU⟩:=aB3 k o hao;have aB5:ops[k]? =some oc:=by simpa using hoc
  have aBH:=akw aBl hx hxm hc aB2;rw [show ops.size-k=(ops.size-(k+1))+1 by omega,List.range'_succ];simp only [wpOpsIn,aB5];have aBE:=X5 st.f hgu;simp only [bt]at hr;cases hwa:aT f o.g with
  |false=>
   rw [hwa]at hr;rw [aBE,hwa];simp only [aAk,if_false];refine⟨λ_ _=>trivial, ?_⟩;simp only at hr;cases hpt:f.put o.dst .undef with
   |none=>rw [hpt]at hr;cases hr
   |some f1=>
    rw [hpt]at hr;refine ih (k+1) hd' f1 H ρ w _ hr ⟨?_,st.VG, ?_,st.base⟩ hfr hfm
    ·rw [<-aBH];exact st.f.put hpt bT.undef
    ·rw [Act.Li];exact st.marks
  |true=>
   rw [hwa]at hr;rw [aBE,hwa];simp only [if_true];simp only at hr;cases hdo:dQ (gA x c) o.op f H with
   |none=>rw [hdo]at hr;cases hr
   |some vh=>
    obtain⟨v,H1⟩:=vh;rw [hdo]at hr;simp only at hr;cases hpt:f.put o.dst v with
    |none=>rw [hpt]at hr;cases hr
    |some f1=>
     rw [hpt]at hr;have hm1:=JY (λ_ _ _ _ _ e=>Us hxm aBt e) rest hr;refine atf aBl hx hxm hc st.f st.VG aBU hdo (hfr.left hm1) λy w' ρ' k1 k2 k3=> ?_
     refine ih (k+1) hd' f1 H1 ρ' w' _ hr ⟨?_,k2, ?_,aAm st.base k3.size⟩ (hfr.right k3) (hfm.trans k3)
     ·rw [<-aBH];exact(st.f.mono k3.ext).put hpt k1
     ·rw [Act.Li];exact st.marks.frm k3
end
def pr {f g:AF} (h: ∀t∈J7 x,f.get t=g.get t):f.ev x=g.ev x:=by
 cases x with
 |t i=>exact h i (by simp [J7])
 |c v=>rfl
def MK {f g:AF} : ∀ {xs},(∀t∈Qz xs,f.get t=g.get t)->xs.map f.ev=xs.map g.ev
 | [],_=>rfl
 |x::xs,h=>by
  simp only [List.map_cons];rw [pr (x:=x) λt a=>h t (by simp [Qz,a]),MK λt a=>h t (by simp [Qz,a])]
def U6: ∀ {ps} {cs},(∀t∈ajP ps,f.get t=g.get t)->fill f cs ps=fill g cs ps
 | [],_,_=>rfl
 |(o,s,x)::ps,cs,h=>by
  simp only [fill];rw [pr (x:=x) λt a=>h t (by simp [ajP,a]),U6 λt a=>h t (by simp [ajP,a])]
def AN (h: ∀t∈abb x,f.get t=g.get t):bound x f d m=bound x g d m:=by
 cases x with
 |none=>rfl
 |some x=>simp only [bound];rw [pr (x:=x) λt a=>h t (by simpa [abb]using a)]
def afO (h: ∀t∈abb a,f.get t=g.get t):nA b a f l c m=nA b a g l c m:=by
 cases b with
 |none=>exact AN h
 |some _=>
  cases a with
  |none=>rfl
  |some x=>exact AN (x:=some x) (d:=0) h
def avv op (h: ∀t∈o8 op,f.get t=g.get t):aw op f=aw op g/\(∀H,aR op f H=aR op g H)/\(∀i,aW op f i=aW op g i)/\(∀cv H,aZ cv op f H=aZ cv op g H):=by
 cases op with
 |alloc t z=>exact⟨rfl,λ_=>rfl,λ_=>rfl,λ_ _=>rfl⟩
 |P2=>exact⟨rfl,λ_=>rfl,λ_=>rfl,λ_ _=>rfl⟩
 |fail=>exact⟨rfl,λ_=>rfl,λ_=>rfl,λ_ _=>rfl⟩
 |build z v=>simp only [aw,aR,aW,aZ,U6 (f:=f) (g:=g) (ps:=v) h,implies_true,and_self]
 |BG z l v=>simp only [aw,aR,aW,aZ,U6 (f:=f) (g:=g) (ps:=v) h,implies_true,and_self]
 |Kc k x y=>
  have b:=MK (f:=f) (g:=g) (xs:=x) λt a=>h t (by simp [o8,a])
  have j:=MK (f:=f) (g:=g) (xs:=y) λt a=>h t (by simp [o8,a])
  simp only [aw,aR,aW,aZ,b,j,implies_true,and_self]
 |call k n=>
  have b:=pr (f:=f) (g:=g) (x:=k) λt a=>h t (by simp [o8,a])
  have j:=MK (f:=f) (g:=g) (xs:=n) λt a=>h t (by simp [o8,a])
  simp only [aw,aR,aW,aZ,asu,b,j,implies_true,and_self]
 |CR m n=>
  have j:=MK (f:=f) (g:=g) (xs:=n) λt a=>h t (by simpa [o8]using a)
  refine⟨?_,λ_=>rfl,λ_=>rfl,λ_ _=>rfl⟩;cases n with
  |nil=>rfl
  |cons x n=>
   simp only [List.map_cons,List.cons.injEq]at j;simp only [aw,j.1,j.2]
 |Aw x p q=>
  have b:=pr (f:=f) (g:=g) (x:=x) λt a=>h t (by simp [o8,a])
  have j: ∀d m,bound p f d m=bound p g d m:=λd m=>AN λt a=>h t (by simp [o8,a])
  have r: ∀d m,bound q f d m=bound q g d m:=λd m=>AN λt a=>h t (by simp [o8,a])
  simp only [aw,aR,aW,aZ,b,j,r,implies_true,and_self]
 |slice s x p q u=>
  have b:=pr (f:=f) (g:=g) (x:=x) λt a=>h t (by simp [o8,a])
  have j: ∀d m,bound p f d m=bound p g d m:=λd m=>AN λt a=>h t (by simp [o8,a])
  have r: ∀l c m,nA u q f l c m=nA u q g l c m:=λl c m=>afO λt a=>h t (by simp [o8,a])
  have h4: ∀d m,bound u f d m=bound u g d m:=λd m=>AN λt a=>h t (by simp [o8,a])
  simp only [aw,aR,aW,aZ,b,j,r,h4,implies_true,and_self]
 |un op x=>
  have b:=pr (f:=f) (g:=g) (x:=x) λt a=>h t (by simpa [o8]using a)
  cases op<;>simp only [aw,aR,aW,aZ,b,implies_true,and_self]
 |conv k x=>
  have b:=pr (f:=f) (g:=g) (x:=x) λt a=>h t (by simpa [o8]using a)
  cases k<;>simp only [aw,aR,aW,aZ,b,implies_true,and_self]
 |len k x=>
  have b:=pr (f:=f) (g:=g) (x:=x) λt a=>h t (by simpa [o8]using a)
  cases k<;>simp only [aw,aR,aW,aZ,b,implies_true,and_self]
 |mv x |box x |ng x |yS _ x |iface _ x |fld _ _ _ x |qF _ x |ext x _ |GN x |clear _ x |LG x=>
  have b:=pr (f:=f) (g:=g) (x:=x) λt a=>h t (by simpa [o8]using a)
  simp only [aw,aR,aW,aZ,b,implies_true,and_self]
 |pick x y z |Q4 _ x y z=>
  have b:=pr (f:=f) (g:=g) (x:=x) λt a=>h t (by simp [o8,a])
  have j:=pr (f:=f) (g:=g) (x:=y) λt a=>h t (by simp [o8,a])
  have r:=pr (f:=f) (g:=g) (x:=z) λt a=>h t (by simp [o8,a])
  simp only [aw,aR,aW,aZ,b,j,r,implies_true,and_self]
 |store _ x y |bin _ x y |eqv _ _ x y |zy _ _ x y |AL _ x y |FK _ _ x y |Nq x y |Zc _ _ _ x y |look _ _ _ x y |append _ _ _ x y |sL _ _ _ x y |peq _ x y |Qo _ x y |copy _ x y |del _ x y=>
  have b:=pr (f:=f) (g:=g) (x:=x) λt a=>h t (by simp [o8,a])
  have j:=pr (f:=f) (g:=g) (x:=y) λt a=>h t (by simp [o8,a])
  simp only [aw,aR,aW,aZ,b,j,implies_true,and_self]
def af1 (h: ∀t b,a=some (t,b)->f.get t=g.get t):aT f a=aT g a:=by
 cases a with
 |none=>rfl
 |some c=>obtain⟨t,b⟩:=c;simp only [aT];rw [h t b rfl]
abbrev DS:=AF×AH×List (Nat×AH)
inductive TL (cv:CV) (i m:Nat) (o:bU) (v:AV):DS->DS->Prop
 |off {f f' h aBs} (hw:aT f o.g=false) (hv:v= .undef) (hp:f.put o.dst v=some f'):TL cv i m o v (f,h,aBs) (f',h,aBs)
 |P {f f' h aBs} (hw:aT f o.g=true) (hc:cls o.op= .P) (ho:aw o.op f=some v) (hp:f.put o.dst v=some f'):TL cv i m o v (f,h,aBs) (f',h,aBs)
 |R {f f' h e g aBx} (hw:aT f o.g=true) (hc:cls o.op= .R) (hr:aR o.op f g=some v) (hk:bJ o.op f v m ((e,g)::aBx)=true) (hp:f.put o.dst v=some f'):TL cv i m o v (f,h,(e,g)::aBx) (f',h,(e,g)::aBx)
 |A {f f' h aBs b} (hw:aT f o.g=true) (hc:cls o.op= .A) (ho:aW o.op f h.next=some (v,b)) (hp:f.put o.dst v=some f'):TL cv i m o v (f,h,aBs) (f',h.new b,aBs)
 |E {f f' h h' aBs} (hw:aT f o.g=true) (hc:cls o.op= .E) (ho:aZ cv o.op f h=some (v,h')) (hp:f.put o.dst v=some f'):TL cv i m o v (f,h,aBs) (f',h',(i,h')::aBs)
def arp (e:cW cv ops ((i,m)::n) f h a=some (f',r)):
  ∃o v s,ops[i]? =some o/\TL cv i m o v (f,h,a) s/\cW cv ops n s.1 s.2.1 s.2.2=some (f',r):=by
 simp only [cW]at e;split at e
 ·cases e
 ·rename_i o p;split at e
  ·rename_i l;split at e
   ·rename_i c d;exact⟨o,_,(c,h,a),p,.off l rfl d,e⟩
   ·cases e
  ·rename_i l;split at e
   ·rename_i j;split at e
    ·rename_i v k;split at e
     ·rename_i c d;exact⟨o,v,(c,h,a),p,.P l j k d,e⟩
     ·cases e
    ·cases e
   ·rename_i j;split at e
    ·cases e
    ·split at e
     ·rename_i v k;obtain⟨t,e⟩:=bF e;split at e
      ·rename_i c d;exact⟨o,v,(c,h,_),p,.R l j k t d,e⟩
      ·cases e
     ·cases e
   ·rename_i j;split at e
    ·rename_i v b k;split at e
     ·rename_i c d;exact⟨o,v,(c,h.new b,a),p,.A l j k d,e⟩
     ·cases e
    ·cases e
   ·rename_i j;split at e
    ·rename_i v q k;split at e
     ·rename_i c d;exact⟨o,v,(c,q,(i,q)::a),p,.E l j k d,e⟩
     ·cases e
    ·cases e
def aed: ∀a s {f'} {f},cW cv ops a s.1 s.2.1 s.2.2=some (f',f)->
  ∃(b:Nat->DS) (c:Nat->AV),b 0=s/\(∀p i m,a[p]? =some (i,m)-> ∃o,ops[i]? =some o/\TL cv i m o (c p) (b p) (b (p+1)))/\(b a.length).1=f'/\(b a.length).2.1=f
 | [],s,f',f,e=>by
  simp only [cW,azn,azB]at e;exact⟨λ_=>s,λ_=> .undef,rfl,λp i m h=>by simp at h,e.1,e.2⟩
 |(i,m)::d,s,f',f,e=>by
  obtain⟨o,v,k,l,n,q⟩:=arp e;obtain⟨b,c,r,t,u,w⟩:=aed d k q;refine⟨λp=>match p with |0=>s |p+1=>b p,λp=>match p with |0=>v |p+1=>c p,rfl,λp x y j=> ?_,u,w⟩;cases p with
  |zero=>
   simp only [List.getElem?_cons_zero,azn,azB]at j;obtain⟨rfl,rfl⟩:=j;exact⟨o,l,by simp only [r];exact n⟩
  |succ p=>exact t p x y (by simpa using j)
def US: ∀ {b},azR (PV ms b) k=true-> ∃e∈b,aA3 .any e=true/\(k=e.on\/azR (ms.getD e.on 0) k=true)
 | [],h=>by simp [PV]at h
 |e::b,h=>by
  simp only [PV]at h;cases a:aA3 .any e with
  |false=>
   rw [a,cond_false]at h;obtain⟨c,d,f⟩:=US h;exact⟨c,by simp [d],f⟩
  |true=>
   rw [a,cond_true]at h;simp only [Nat.testBit_or,Bool.or_eq_true]at h;rcases h with(h |h) |h
   ·have j:e.on=k:=by simpa [Nat.testBit_two_pow]using h
    exact⟨e,ab,a,.inl j.symm⟩
   ·exact⟨e,ab,a,.inr h⟩
   ·obtain⟨c,d,f⟩:=US h;exact⟨c,by simp [d],f⟩
def Ro: ∀os ms,(sd ms os).length=ms.length+os.length/\(∀j,j<ms.length->(sd ms os)[j]? =ms[j]?)/\
  ∀j o,os[j]? =some o-> ∃a,(sd ms os)[ms.length+j]? =some (PV a o.after.toList)/\ ∀k,k<ms.length+j->a[k]? =(sd ms os)[k]?
 | [],ms=>⟨by simp [sd],λ_ _=>rfl,λj o h=>by simp at h⟩
 |o::os,ms=>by
  obtain⟨l,c,n⟩:=Ro os (ms++ [PV ms o.after.toList]);simp only [sd];refine⟨by rw [l];simp;omega,λj b=> ?_,λj p b=> ?_⟩
  ·rw [c j ae,List.getElem?_append_left b]
  ·cases j with
   |zero=>
    simp at b;subst b;refine⟨ms, ?_,λk q=> ?_⟩
    ·rw [Nat.add_zero,c ms.length ab,List.getElem?_append_right (azv _)];simp
    ·rw [c k ae,List.getElem?_append_left aa]
   |succ j=>
    obtain⟨a,d,f⟩:=n j p (by simpa using b);simp only [aAf,List.length_cons,List.length_nil]at d f;exact⟨a,by rw [show ms.length+(j+1)=ms.length+(0+1)+j by omega];exact d,λk q=>f k aa⟩
def VM: ∀ {b},acq i b=true-> ∀e∈b,aA3 .any e=true->e.on<i
 | [],_,e,a,_=>by cases a
 |e0::b,h,e,a,c=>by
  simp only [acq,azl]at h;rcases List.mem_cons.1 a with rfl |a
  ·have:=h.1;rw [c,cond_true]at this;simpa [aAp]using this
  ·exact VM h.2 e a c
def Lp: ∀ {os} {i},X1 i os=true-> ∀j o,os[j]? =some o-> ∀e∈o.after,aA3 .any e=true->e.on<i+j
 | [],_,_,j,o,a,_,_,_=>by simp at a
 |o0::os,i,h,j,o,a,e,b,c=>by
  simp only [X1,azl]at h;cases j with
  |zero=>simp at a;subst a;exact VM h.1 e (by simpa using b) c
  |succ j=>have:=Lp h.2 j o (by simpa using a) e b c;omega
def Xd: ∀ {aCL} {c},WH b i m q aCL c=true-> ∀j o d,aCL[j]? =some o->o.dst=some d->d∈q->
  azR m (c+j)=true\/ ∃k,b[c+j]? =some k/\azR k i=true
 | [],_,_,j,o,d,f,_,_=>by simp at f
 |o0::aCL,c,h,j,o,d,f,l,n=>by
  simp only [WH,azl]at h;cases j with
  |zero=>
   simp at f;subst f;have a:=h.1;rw [l]at a;simp only [Bool.or_eq_true,aAx]at a;rcases a with(a |a) |a
   ·exfalso;rw [List.any_eq_false]at a;exact a d n (Nat.beq_refl d)
   ·exact .inl a
   ·cases p:b[c]? with
    |none=>rw [p]at a;cases a
    |some k=>rw [p]at a;exact .inr ⟨k,rfl,a⟩
  |succ j=>
   have:=Xd h.2 j o d (by simpa using f) l n;rwa [show c+1+j=c+(j+1) by omega]at this
def abi: ∀ {aCL} {b},ahT a d aCL b=true-> ∀j o,aCL[j]? =some o->WH a (b+j) (a.getD (b+j) 0) (aqC o) d 0=true
 | [],_,_,j,o,c=>by simp at c
 |o0::aCL,b,h,j,o,c=>by
  simp only [ahT,azl]at h;cases j with
  |zero=>simp at c;subst c;exact h.1
  |succ j=>
   have:=abi h.2 j o (by simpa using c);rwa [show b+1+j=b+(j+1) by omega]at this
def Kr: ∀ {aCL} {seen},P5 aCL seen=true-> ∀(j:Nat) o d,aCL[j]? =some o->o.dst=some d->d∉seen
 | [],_,_,j,o,d,a,_=>by simp at a
 |o0::aCL,seen,h,j,o,d,a,c=>by
  simp only [P5]at h;cases j with
  |zero=>
   simp at a;subst a;rw [c]at h;simp only [azl,aAx]at h;intro f;have:=h.1;rw [List.any_eq_false]at this;exact this d f (Nat.beq_refl d)
  |succ j=>
   cases b:o0.dst with
   |none=>rw [b]at h;exact Kr h j o d (by simpa using a) c
   |some k=>
    rw [b]at h;simp only [azl]at h;exact λf=>Kr h.2 j o d (by simpa using a) c (by simp [f])
def afl: ∀ {aCL} {seen},P5 aCL seen=true-> ∀(j k:Nat) o o' d,aCL[j]? =some o->aCL[k]? =some o'->o.dst=some d->o'.dst=some d->j=k
 | [],_,_,j,k,o,o',d,f,_,_,_=>by simp at f
 |o0::aCL,seen,h,j,k,o,o',d,f,p,r,b=>by
  have c: ∃a,P5 aCL a=true/\ ∀q,o0.dst=some q->q∈a:=by
   simp only [P5]at h;cases l:o0.dst with
   |none=>rw [l]at h;exact⟨seen,h,λ_ e=>by cases e⟩
   |some q=>rw [l]at h;simp only [azl]at h;exact⟨q::seen,h.2,λ_ e=>by cases e;simp⟩
  obtain⟨a,s,n⟩:=c;cases j with
  |zero=>
   cases k with
   |zero=>rfl
   |succ k=>
    simp at f;subst f;exact absurd (n d r) (Kr s k o' d (by simpa using p) b)
  |succ j=>
   cases k with
   |zero=>
    simp at p;subst p;exact absurd (n d b) (Kr s j o d (by simpa using f) r)
   |succ k=>rw [afl s j k o o' d (by simpa using f) (by simpa using p) r b]
structure Yr (aBq:List Nat) (ops:List bU) (prev:List (Nat×Nat)) (i m:Nat):Prop where
 mask:aBq[i]? =some m
 op: ∃o,ops[i]? =some o
 once: ∀m',(i,m')∉prev
 before: ∀k,azR m k=true-> ∃m',(k,m')∈prev
 chain: ∀o,ops[i]? =some o->cls o.op= .E-> ∀k m' ok,(k,m')∈prev->ops[k]? =some ok->cls ok.op≠ .P->azR m k=true
def VN: ∀d a f z D,Of j ops d f z D=true->
  (∀k,azR f k=true↔ ∃m,(k,m)∈a)->(∀k m v,(k,m)∈a->ops[k]? =some v->cls v.op≠ .P->k∈z\/k∈D)->
  ∀p i m,d[p]? =some (i,m)->Yr j ops (a++d.take p) i m
 | [],_,_,_,_,_,_,_,p,i,m,h=>by simp at h
 |(n,w)::d,a,f,z,D,h,Q,V,p,i,m,S=>by
  simp only [Of,azl,aAx]at h;obtain⟨⟨⟨l,F⟩,L⟩,b⟩:=h;cases G:j[n]? with
  |none=>rw [G]at l;cases l
  |some W=>
   rw [G]at l;have T:w=W:=azy l;subst T;have H:w&&&f=w:=azy L;cases M:ops[n]? with
   |none=>rw [M]at b;cases b
   |some o=>
    rw [M]at b;simp only at b;have q: ∀k,azR w k=true-> ∃x,(k,x)∈a:=λk r=>by
     rw [<-H,Nat.testBit_and,azl]at r;exact(Q k).1 r.2
    have I: ∀x,(n,x)∉a:=λx U=>by
     rw [(Q n).2 ⟨x,U⟩]at F;cases F
    have K: ∀k,azR (f |||2^n) k=true↔ ∃m,(k,m)∈a++ [(n,w)]:=λk=>by
     rw [Nat.testBit_or,Bool.or_eq_true,Nat.testBit_two_pow];simp only [List.mem_append,List.mem_singleton,azB,decide_eq_true_eq];constructor
     ·rintro(h |h)
      ·obtain⟨m,Y⟩:=(Q k).1 h;exact⟨m,.inl Y⟩
      ·exact⟨w,.inr ⟨h.symm,rfl⟩⟩
     ·rintro⟨m,h |h⟩
      ·exact .inl ((Q k).2 ⟨m,h⟩)
      ·exact .inr h.1.symm
    have y: ∀s t,Of j ops d (f |||2^n) s t=true->(∀k,k∈z->k∈s)->(∀k,k∈D->k∈t)->(cls o.op≠ .P->n∈s\/n∈t)->
      (cls o.op= .E-> ∀k x v,(k,x)∈a->ops[k]? =some v->cls v.op≠ .P->azR w k=true)->Yr j ops (a++((n,w)::d).take p) i m:=by
     intro s t Z h1 h2 h3 h4;cases p with
     |zero=>
      simp only [List.getElem?_cons_zero,azn,azB]at S;obtain⟨rfl,rfl⟩:=S;rw [List.take_zero,List.append_nil];exact⟨G,⟨o,M⟩,I,q,λo' N c=>by rw [M]at N;cases N;exact h4 c⟩
     |succ p=>
      have:=VN d (a++ [(n,w)]) _ s t Z K (λk m v r u c=>by
       simp only [List.mem_append,List.mem_singleton,azB]at r;rcases r with r |r
       ·rcases V k m v r u c with h |h
        ·exact .inl (h1 k h)
        ·exact .inr (h2 k h)
       ·obtain⟨rfl,_⟩:=r;rw [M]at u;cases u;exact h3 c) p i m (by simpa using S)
      rw [List.take_succ_cons];simpa using this
    cases c:cls o.op with
    |P=>rw [c]at b;exact y z D b (λ_ h=>h) (λ_ h=>h) (λh=>absurd c h) (λh=>by rw [c]at h;cases h)
    |R=>rw [c]at b;exact y z (n::D) b (λ_ h=>h) (λ_ h=>by simp [h]) (λ_=> .inr ab) (λh=>by rw [c]at h;cases h)
    |A=>rw [c]at b;exact y z (n::D) b (λ_ h=>h) (λ_ h=>by simp [h]) (λ_=> .inr ab) (λh=>by rw [c]at h;cases h)
    |E=>
     rw [c]at b;simp only [azl,List.all_eq_true]at b;exact y (n::z) D b.2 (λ_ h=>by simp [h]) (λ_ h=>h) (λ_=> .inl ab) (λ_ k x v r u O=>by
      rcases V k x v r u O with h |h
      ·exact b.1.1 k h
      ·exact b.1.2 k h)
theorem acr (g:Nat->Option AB): ∀B,∃t:PT AB,∀i,t.get i=if i<B then g i else none
 |0=>⟨.leaf,λi=>by simp [PT.aet]⟩
 |B+1=>by
  obtain⟨t,b⟩:=acr g B;refine⟨t.set B (g B),λi=> ?_⟩;rw [PT.mK,b];by_cases h:i=B
  ·subst h;simp
  ·rw [if_neg h];by_cases a:i<B
   ·rw [if_pos a,if_pos aa]
   ·rw [if_neg a,if_neg aa]
section
variable {tab:Fu} {ρ ρ':pZ} {HS K K':AH} {w w':World}
theorem vR.congr (h:vR tab ρ H w) (c: ∀i,H'.get i=H.get i) (f:H.next<=H'.next):vR tab ρ H' w:=
 ⟨⟨λi d a=>h.obj i d (by rw [<-c];exact a),λi j k l b s n a p=>h.inj i j k l b s n (by rw [<-c];exact a) (by rw [<-c];exact p),λi d a=>aAa (h.PU i d (by rw [<-c];exact a)) f⟩,h.lay.sub λ⟨i,d,s,a,q⟩=>⟨i,d,s,by rw [<-c];exact a,q⟩⟩
theorem Gu.ayO (h:Gu ρ H w ρ' H' w') (f: ∀i,d.get i=H'.get i) (l:d.next=H'.next):Gu ρ H w ρ' d w':=
 ⟨h.size,h.ext,by rw [l];exact h.next,λi a=>h.out i (by rw [<-l];exact a),h.gQ,λb n ⟨i,j,s,a,k⟩=>h.own b n ⟨i,j,s,by rw [<-f];exact a,k⟩,h.stay,λi j a=>h.live i j (by rw [<-f];exact a),h.low,h.os,h.output,h.tape,λi c b s a k=>let⟨p,q,r⟩:=h.fix i c b s a k;⟨p,by rw [f];exact q,r⟩⟩
theorem vR.sub (h:vR tab ρ HS w) (a: ∀i ob,K.get i=some ob->HS.get i=some ob) (c: ∀i ob,K.get i=some ob->i<K.next):vR tab ρ K w:=
 ⟨⟨λi ob d=>h.obj i ob (a i ob d),λi j f k b s l d n=>h.inj i j f k b s l (a i f d) (a j k n),c⟩,h.lay.sub λ⟨i,ob,s,d,p⟩=>⟨i,ob,s,a i ob d,p⟩⟩
theorem vR.frame (P:vR tab ρ HS w) (q: ∀i ob,K.get i=some ob->HS.get i=some ob) (A:vR tab ρ' K' w') (u:Gu ρ K w ρ' K' w') (hn:K'.next<=HS.next) (r:Gu ρ0 H0 w0 ρ HS w) (Y:H0.next<=K.next):
  ∃F,F.next=HS.next/\(∀i,F.get i=match K'.get i with |some ob=>some ob |none=>match K.get i with |some _=>none |none=>HS.get i)/\vR tab ρ' F w'/\Gu ρ0 H0 w0 ρ' F w':=by
 obtain⟨t,ht⟩:=acr (λi=>match K'.get i with |some ob=>some ob |none=>match K.get i with |some _=>none |none=>HS.get i) HS.next;have y: ∀i,(⟨t,HS.next⟩:AH).get i=match K'.get i with |some ob=>some ob |none=>match K.get i with |some _=>none |none=>HS.get i:=λi=>by
  show t.get i=_;rw [ht];by_cases h:i<HS.next
  ·rw [if_pos h]
  ·rw [if_neg h];cases p:K'.get i with
   |some ob=>have:=A.PU i ob p;omega
   |none=>
    cases n:K.get i with
    |some _=>rfl
    |none=>
     cases x:HS.get i with
     |none=>rfl
     |some ob=>have:=P.PU i ob x;omega
 have l: ∀i ob,(⟨t,HS.next⟩:AH).get i=some ob->K'.get i=some ob\/(K'.get i=none/\K.get i=none/\HS.get i=some ob):=λi ob a=>by
  rw [y]at a;cases p:K'.get i with
  |some z=>rw [p]at a;exact .inl a
  |none=>
   rw [p]at a;cases n:K.get i with
   |some _=>rw [n]at a;cases a
   |none=>rw [n]at a;exact .inr ⟨rfl,rfl,a⟩
 have d: ∀i ob,K.get i=none->HS.get i=some ob-> ∃b s o,ρ i=some (some (b,s))/\ρ' i=some (some (b,s))/\w.heap[b]? =some o/\w'.heap[b]? =some o/\ob.Rel tab ρ o s/\ ¬Own ρ K b:=λi ob n a=>by
  obtain⟨b,s,o,I,f,R⟩:=P.obj i ob a;have D: ¬Own ρ K b:=λ⟨k,L,S,E,N⟩=>by
   have:=P.inj k i L ob b S s (q k L E) a N I;subst this;rw [n]at E;cases E
  exact⟨b,s,o,I,u.stay i _ n I,f,by rw [u.gQ b (gl f) D];exact f,R,D⟩
 refine⟨⟨t,HS.next⟩,rfl,y,⟨⟨λi ob a=> ?_,λi j T O b s V a hj I f=> ?_,λi ob a=> ?_⟩, ?_⟩,
  ⟨aAm r.size u.size,r.ext.trans u.ext,r.next,λi a=>(u.out i (aAm hn a)).trans (r.out i a),λb Q D=> ?_,λb Q ⟨i,ob,s,a,v⟩=>r.own b Q ?_,λi m a v=>u.stay i m ?_ (r.stay i m a v),λi ob a=> ?_,λi a v=>u.low i (aAa a Y) (r.low i a v),u.os.trans r.os,u.output.trans r.output,u.tape.trans r.tape,λi c b s a v=> ?_⟩⟩
 ·rcases l i ob a with h |⟨_,n,x⟩
  ·exact A.obj i ob h
  ·obtain⟨b,s,o,_,f,_,h4,h5,_⟩:=d i ob n x;exact⟨b,s,o,f,h4,h5.mono u.ext⟩
 ·rcases l i T a with h |⟨_,n,x⟩
  ·rcases l j O hj with Z |⟨_,p,G⟩
   ·exact A.inj i j T O b s V h Z I f
   ·obtain⟨W,s1,o,_,H,U,_,_,g6⟩:=d j O p G;rw [H]at f;cases f;exact absurd (u.own b (gl U) ⟨i,T,s,h,I⟩) g6
  ·obtain⟨W,s1,o,M,H,U,_,_,g6⟩:=d i T n x;rw [H]at I;cases I;rcases l j O hj with Z |⟨_,p,G⟩
   ·exact absurd (u.own b (gl U) ⟨j,O,V,Z,f⟩) g6
   ·obtain⟨b2,s2,o2,e1,e2,_⟩:=d j O p G;rw [e2]at f;cases f;exact P.inj i j T O b s V x G M e1
 ·rcases l i ob a with h |⟨_,_,x⟩
  ·exact aAa (A.PU i ob h) hn
  ·exact P.PU i ob x
 ·refine A.lay.sub λ⟨i,ob,s,a,v⟩=> ?_
  rcases l i ob a with h |⟨_,n,x⟩
  ·exact⟨i,ob,s,h,v⟩
  ·obtain⟨W,s1,o,M,H,_⟩:=d i ob n x;rw [H]at v;cases v;exact absurd ⟨i,ob,s,x,M⟩ P.lay.2
 ·rw [u.gQ b (aAa Q r.size) λ⟨k,L,S,n,v⟩=>D (r.own b Q ⟨k,L,S,q k L n,v⟩)];exact r.gQ b Q D
 ·rcases l i ob a with h |⟨_,n,x⟩
  ·obtain⟨k,L,S,E,N⟩:=u.own b (aAa Q r.size) ⟨i,ob,s,h,v⟩;exact⟨k,L,S,q k L E,N⟩
  ·obtain⟨W,s1,o,M,H,_⟩:=d i ob n x;rw [H]at v;cases v;exact⟨i,ob,s,x,M⟩
 ·cases n:K.get i with
  |none=>rfl
  |some ob=>
   rcases r.live i ob (q i ob n)with⟨z,f⟩ |f
   ·rw [a]at f;cases f
   ·rw [v]at f;cases f
 ·rcases l i ob a with h |⟨_,_,x⟩
  ·rcases u.live i ob h with⟨z,f⟩ |f
   ·exact r.live i z (q i z f)
   ·right;cases v:ρ0 i with
    |none=>rfl
    |some m=>rcases r.ext i m v with R |R<;>rw [f]at R<;>cases R
  ·exact r.live i ob x
 ·obtain⟨a1,a2,a3⟩:=r.fix i c b s a v;cases n:K.get i with
  |some ob=>
   have:=q i ob n;rw [a2]at this;cases this;obtain⟨b1,b2,b3⟩:=u.fix i c b s n a3;exact⟨b1.trans a1,by rw [y,b2],b3⟩
  |none=>
   obtain⟨W,V,o,M,H,U,g4,_,_⟩:=d i _ n a2;rw [a3]at M;cases M;refine⟨by rw [g4,<-U];exact a1, ?_,H⟩;rw [y];cases p:K'.get i with
   |some z=>
    rcases u.live i z p with⟨va,f⟩ |f
    ·rw [n]at f;cases f
    ·rw [a3]at f;cases f
   |none=>simp only [n];exact a2
end
structure Ctx (cv:CV) (ops:Array Oper) (aCL:List bU) (aBm:List (Nat×Nat)) (aBq:List Nat) (tr:Nat->DS) (val:Nat->AV) (f0:AF) (H0:AH):Prop where
 len:aCL.length=ops.size
 aBa:aBm.length=ops.size
 msk: ∀(i:Nat) (o:Oper),ops[i]? =some o-> ∃m,aBq[i]? =some m/\ ∀k,azR m k=true-> ∃e∈o.after,aA3 .any e=true/\(k=e.on\/ ∃me,aBq[e.on]? =some me/\azR me k=true)
 az7: ∀(i:Nat) (o:Oper),ops[i]? =some o-> ∀e∈o.after,aA3 .any e=true->e.on<i
 pos: ∀i,i<ops.size-> ∃(p m:Nat),aBm[p]? =some (i,m)
 fact: ∀(p i m:Nat),aBm[p]? =some (i,m)->Yr aBq aCL (aBm.take p) i m
 tmps: ∀(i:Nat) (o:bU) (m:Nat),aCL[i]? =some o->aBq[i]? =some m-> ∀(k:Nat) (ok:bU) (d:Nat),aCL[k]? =some ok->ok.dst=some d->d∈aqC o->azR m k=true\/ ∃mk,aBq[k]? =some mk/\azR mk i=true
 aAH: ∀(j k:Nat) (o o':bU) (d:Nat),aCL[j]? =some o->aCL[k]? =some o'->o.dst=some d->o'.dst=some d->j=k
 t0:tr 0=(f0,H0,[(aCL.length,H0)])
 step: ∀(p i m:Nat),aBm[p]? =some (i,m)-> ∃o,aCL[i]? =some o/\TL cv i m o (val p) (tr p) (tr (p+1))
 mono: ∀g args h v h',cv g args h=some (v,h')->h.next<=h'.next
theorem Hf {α:Type} {l:List α} {x} :x∈l.take p↔ ∃q,q<p/\l[q]? =some x:=by
 rw [List.mem_iff_getElem?];constructor
 ·rintro⟨q,a⟩;rw [List.getElem?_take]at a;split at a
  ·exact⟨q,aq,a⟩
  ·cases a
 ·rintro⟨q,b,c⟩;exact⟨q,by rw [List.getElem?_take,if_pos b];exact c⟩
section
variable {cv:CV} {ops:Array Oper} {aCL:List bU} {aBm:List (Nat×Nat)} {aBq:List Nat} {tr:Nat->DS} {val:Nat->AV} {f0:AF} {H0:AH} (C:Ctx cv ops aCL aBm aBq tr val f0 H0)
include C
theorem Ctx.uniq {p q i m a:Nat} (b:aBm[p]? =some (i,m)) (c:aBm[q]? =some (i,a)):p=q:=by
 rcases Nat.lt_trichotomy p q with h |h |h
 ·exact absurd (Hf.2 ⟨p,h,b⟩) ((C.fact q i a c).once m)
 ·exact h
 ·exact absurd (Hf.2 ⟨q,h,c⟩) ((C.fact p i m b).once a)
theorem Ctx.api {p i m k:Nat} (b:aBm[p]? =some (i,m)) (c:azR m k=true): ∃q a,q<p/\aBm[q]? =some (k,a):=by
 obtain⟨a,d⟩:=(C.fact p i m b).before k c;obtain⟨q,f,h⟩:=Hf.1 d;exact⟨q,a,f,h⟩
theorem Ctx.at_ (a:p<aBm.length): ∃i m,aBm[p]? =some (i,m):=⟨aBm[p].1,aBm[p].2,by simp [a]⟩
abbrev KK (tr:Nat->DS) (p:Nat):AH:=(tr p).2.1
abbrev FF (tr:Nat->DS) (p:Nat):AF:=(tr p).1
def Mk (aCL:List bU) (aBm:List (Nat×Nat)) (tr:Nat->DS) (p:Nat) (ob:AB):Prop:=
 ∃(i m:Nat) (o:bU) (v:AV),aBm[p]? =some (i,m)/\aCL[i]? =some o/\cls o.op= .A/\aT (FF tr p) o.g=true/\aW o.op (FF tr p) (KK tr p).next=some (v,ob)/\KK tr (p+1)=(KK tr p).new ob
def WE (aCL:List bU) (aBm:List (Nat×Nat)) (tr:Nat->DS) (p:Nat):Prop:= ∃(i m:Nat) (o:bU),aBm[p]? =some (i,m)/\aCL[i]? =some o/\cls o.op= .E/\aT (FF tr p) o.g=true
theorem Ctx.YS (I:p<aBm.length) (y: ¬WE aCL aBm tr p):(KK tr (p+1)=KK tr p/\ ∀ob,¬Mk aCL aBm tr p ob)\/ ∃ob,Mk aCL aBm tr p ob:=by
 obtain⟨i,m,d⟩:=C.at_ I;obtain⟨o,z,D⟩:=C.step p i m d;have a: ∀(ob:AB) (f k:Nat) (h:bU) (l:AV),aBm[p]? =some (f,k)->aCL[f]? =some h->h=o:=λob f k h l b c=>by
  rw [d]at b;cases b;rw [z]at c;cases c;rfl
 have K: ∀ {s H:DS},tr p=s->tr (p+1)=H->FF tr p=s.1/\KK tr p=s.2.1/\KK tr (p+1)=H.2.1:=λb c=>⟨by rw [FF,b],by rw [KK,b],by rw [KK,c]⟩
 generalize F:tr p=L at D;generalize G:tr (p+1)=M at D;obtain⟨v,u,w⟩:=K F G;cases D with
 |off n N j=>
  left;refine⟨by rw [u,w],λob ⟨f,k,h,l,b,c,t,x,_⟩=> ?_⟩;have:=a ob f k h l b c;subst this;rw [v,n]at x;cases x
 |P n q r j=>
  left;refine⟨by rw [u,w],λob ⟨f,k,h,l,b,c,t,x,_⟩=> ?_⟩;have:=a ob f k h l b c;subst this;rw [q]at t;cases t
 |R n q O Q j=>
  left;refine⟨by rw [u,w],λob ⟨f,k,h,l,b,c,t,x,_⟩=> ?_⟩;have:=a ob f k h l b c;subst this;rw [q]at t;cases t
 |A n q r j=>exact .inr ⟨_,i,m,o,_,d,z,q,by rw [v];exact n,by rw [v,u];exact r,by rw [u,w]⟩
 |E n q r j=>exact absurd ⟨i,m,o,d,z,q,by rw [v];exact n⟩ y
theorem Ctx.Y4 (h:p<aBm.length):(KK tr p).next<=(KK tr (p+1)).next:=by
 obtain⟨i,m,a⟩:=C.at_ h;obtain⟨o,k,b⟩:=C.step p i m a;generalize c:tr p=l at b;generalize d:tr (p+1)=n at b;simp only [KK,c,d];cases b with
 |off=>exact azv _
 |P=>exact azv _
 |R=>exact azv _
 |A=>simp
 |E q r f j=>exact VC C.mono f
theorem Ctx.apJ: ∀d,p+d<=aBm.length->(KK tr p).next<=(KK tr (p+d)).next
 |0,_=>azv _
 |d+1,h=>aAm (Ctx.apJ d aa) (C.Y4 (p:=p+d) aa)
theorem Ctx.Fo (h:p<=p') (a:p'<=aBm.length):(KK tr p).next<=(KK tr p').next:=by
 have:=C.apJ (p:=p) (p'-p) aa;rwa [show p+(p'-p)=p' by omega]at this
theorem Mk.lt (h:Mk aCL aBm tr p ob):p<aBm.length:=by
 obtain⟨_,_,_,_,a,_⟩:=h;exact(List.getElem?_eq_some_iff.1 a).1
theorem Mk.next (h:Mk aCL aBm tr p ob):(KK tr (p+1)).next=(KK tr p).next+1:=by
 obtain⟨_,_,_,_,_,_,_,_,_,a⟩:=h;rw [a];rfl
theorem Mk.uniq (h:Mk aCL aBm tr p ob) (d:Mk aCL aBm tr p ob'):ob=ob':=by
 obtain⟨i,m,o,v,f,j,_,_,k,_⟩:=h;obtain⟨l,n,q,r,a,b,_,_,c,_⟩:=d;rw [f]at a;cases a;rw [j]at b;cases b;rw [k]at c;cases c;rfl
theorem Ctx.mk_inj (h:Mk aCL aBm tr p ob) (c:Mk aCL aBm tr p' ob') (e:(KK tr p).next=(KK tr p').next):p=p':=by
 rcases Nat.lt_trichotomy p p' with a |b |a
 ·have d:=h.next C;have f:=C.Fo (p:=p+1) (p':=p') a (aAs (c.lt C));omega
 ·exact b
 ·have d:=c.next C;have f:=C.Fo (p:=p'+1) (p':=p) a (aAs (h.lt C));omega
structure Td (tab:Fu) (aCL:List bU) (aBm:List (Nat×Nat)) (tr:Nat->DS) (In:Nat->Prop) (q:Nat) (HS:AH) (ρ:pZ) (w:World):Prop where
 qN:q<=aBm.length
 eIn: ∀(p:Nat),WE aCL aBm tr p->In p->p<q
 low: ∀(p i m:Nat) (o:bU),aBm[p]? =some (i,m)->aCL[i]? =some o->cls o.op≠ .P->p<q->In p
 next:HS.next=(KK tr aBm.length).next
 spec: ∀id ob,HS.get id=some ob↔(KK tr q).get id=some ob\/ ∃p,q<=p/\In p/\Mk aCL aBm tr p ob/\id=(KK tr p).next
 unk: ∀id,(KK tr q).next<=id->id<(KK tr aBm.length).next->ρ id≠none-> ∃p ob,q<=p/\In p/\Mk aCL aBm tr p ob/\id=(KK tr p).next
 PU: ∀p,p<=q-> ∀id ob,(KK tr p).get id=some ob->id<(KK tr p).next
 VG:vR tab ρ HS w
theorem Td.aAw (h:Td tab aCL aBm tr I q K ρ w) (E:q<aBm.length) (u: ¬WE aCL aBm tr q)
  (x: ∀i m o,aBm[q]? =some (i,m)->aCL[i]? =some o->cls o.op≠ .P->I q):Td tab aCL aBm tr I (q+1) K ρ w:=by
 refine⟨E,λp b c=>Nat.lt_succ_of_lt (h.eIn p b c),λp i m o b c f s=> ?_,h.next,λid l=> ?_,λid b c f=> ?_,λp O id l n=> ?_,h.VG⟩
 ·rcases aAd p q with a |j
  ·exact h.low p i m o b c f a
  ·have:p=q:=aa
   subst this;exact x i m o b c f
 ·rw [h.spec id l];rcases C.YS E u with⟨n,y⟩ |⟨F,d⟩
  ·rw [n];constructor
   ·rintro(b |⟨p,b,c,f,s⟩)
    ·exact .inl b
    ·refine .inr ⟨p, ?_,c,f,s⟩;rcases aAd q p with a |j
     ·exact a
     ·have:p=q:=aa
      subst this;exact absurd f (y l)
   ·rintro(b |⟨p,b,c,f,s⟩)
    ·exact .inl b
    ·exact .inr ⟨p,aa,c,f,s⟩
  ·have z:=d;obtain⟨i,m,o,v,b,c,f,s,L,G⟩:=z;have A:=x i m o b c (by rw [f];intro e;cases e);rw [G,AH.rm];constructor
   ·rintro(k |⟨p,k,D,r,t⟩)
    ·left;have:=h.PU q (azv _) id l k;rw [if_neg aa];exact k
    ·rcases aAd q p with a |j
     ·exact .inr ⟨p,a,D,r,t⟩
     ·have:p=q:=aa
      subst this;left;rw [if_pos t.symm,d.uniq C r]
   ·rintro(k |⟨p,k,D,r,t⟩)
    ·by_cases e:(KK tr q).next=id
     ·rw [if_pos e]at k;cases k;exact .inr ⟨q,azv _,A,d,e.symm⟩
     ·rw [if_neg e]at k;exact .inl k
    ·exact .inr ⟨p,aa,D,r,t⟩
 ·have M:=C.Y4 E;obtain⟨p,l,k,D,r,t⟩:=h.unk id aa c f;refine⟨p,l, ?_,D,r,t⟩;rcases aAd q p with a |j
  ·exact a
  ·have:p=q:=aa
   subst this;have:=r.next C;omega
 ·rcases aAd q p with a |j
  ·have:p=q+1:=aa
   subst this;rcases C.YS E u with⟨H,y⟩ |⟨F,d⟩
   ·rw [H]at n⊢;exact h.PU q (azv _) id l n
   ·have N:=d.next C;obtain⟨i,m,o,v,b,c,f,s,L,G⟩:=d;rw [G,AH.rm]at n;by_cases e:(KK tr q).next=id
    ·omega
    ·rw [if_neg e]at n;have:=h.PU q (azv _) id l n;omega
  ·exact h.PU p j id l n
theorem Td.adv: ∀d {q},Td tab aCL aBm tr j q k ρ w->q+d<=aBm.length->(∀p,q<=p->p<q+d-> ¬WE aCL aBm tr p)->
  (∀p i m o,q<=p->p<q+d->aBm[p]? =some (i,m)->aCL[i]? =some o->cls o.op≠ .P->j p)->Td tab aCL aBm tr j (q+d) k ρ w
 |0,q,h,_,_,_=>h
 |d+1,q,h,n,c,f=>by
  have l:=Td.adv d h aa (λp a b=>c p a aa) (λp i m o a b=>f p i m o a aa);exact l.aAw C aa (c (q+d) aa aa) (λi m o=>f (q+d) i m o aa aa)
theorem Td.more (h:Td tab aCL aBm tr u q v ρ w) (a: ∀p,In' p↔u p\/p=l) (n: ∀ob,¬Mk aCL aBm tr l ob)
  (r:WE aCL aBm tr l->l<q):Td tab aCL aBm tr In' q v ρ w:=by
 refine⟨h.qN,λp c f=> ?_,λp i m o c s t f=>(a p).2 (.inl (h.low p i m o c s t f)),h.next,λid ob=> ?_,λid c s t=> ?_,h.PU,h.VG⟩
 ·rcases(a p).1 f with f |rfl
  ·exact h.eIn p c f
  ·exact r c
 ·rw [h.spec];constructor
  ·rintro(g |⟨p,j,b,d,k⟩)
   ·exact .inl g
   ·exact .inr ⟨p,j,(a p).2 (.inl b),d,k⟩
  ·rintro(g |⟨p,j,b,d,k⟩)
   ·exact .inl g
   ·rcases(a p).1 b with b |rfl
    ·exact .inr ⟨p,j,b,d,k⟩
    ·exact absurd d (n ob)
 ·obtain⟨p,ob,j,b,d,k⟩:=h.unk id c s t;exact⟨p,ob,j,(a p).2 (.inl b),d,k⟩
structure afX (aCL:List bU) (aBm:List (Nat×Nat)) (val:Nat->AV) (f0:AF) (In:Nat->Prop) (f:AF):Prop where
 n:f.n=f0.n
 inn: ∀(p i m:Nat) (o:bU) (d:Nat),aBm[p]? =some (i,m)->aCL[i]? =some o->o.dst=some d->In p->f.get d=val p
 out: ∀(d:Nat),(∀(p i m:Nat) (o:bU),aBm[p]? =some (i,m)->aCL[i]? =some o->o.dst=some d-> ¬In p)->f.get d=f0.get d
theorem afX.put (h:afX aCL aBm val f0 w f) (s:aBm[p]? =some (i,m)) (t:aCL[i]? =some o) (a: ∀p',In' p'↔w p'\/p'=p) (b:f.put o.dst (val p)=some f'):
  afX aCL aBm val f0 In' f':=by
 refine⟨by rw [AF.axU b,h.n],λp' q u r d c j k l=> ?_,λd v=> ?_⟩
 ·rw [AF.ajr b];by_cases e:o.dst=some d
  ·rw [if_pos e];have:=C.aAH q i r o d j t k e;subst this;rw [C.uniq c s]
  ·rw [if_neg e];rcases(a p').1 l with l |rfl
   ·exact h.inn p' q u r d c j k l
   ·rw [s]at c;cases c;rw [t]at j;cases j;exact absurd k e
 ·rw [AF.ajr b];by_cases e:o.dst=some d
  ·exact absurd ((a p).2 (.inr rfl)) (v p i m o s t e)
  ·rw [if_neg e];exact h.out d λp' q u r c j k l=>v p' q u r c j k ((a p').2 (.inl l))
theorem TL.put (h:TL cv i m o v s s'):s.1.put o.dst v=some s'.1:=by
 cases h with
 |off b f a=>exact a
 |P b c d a=>exact a
 |R b c j k a=>exact a
 |A b c d a=>exact a
 |E b c d a=>exact a
theorem Ctx.afB: ∀p,p<=aBm.length->afX aCL aBm val f0 (λq=>q<p) (FF tr p)
 |0,_=>⟨by rw [FF,C.t0],λp i m o d _ _ _ h=>absurd h aa,λd _=>by rw [FF,C.t0]⟩
 |p+1,h=>by
  obtain⟨i,m,a⟩:=C.at_ (p:=p) aa;obtain⟨o,b,c⟩:=C.step p i m a;exact(Ctx.afB p aa).put C a b (λf=>aa) (c.put C)
theorem afX.agree (h:afX aCL aBm val f0 In f) (n:afX aCL aBm val f0 In' f') (l: ∀p i m o,aBm[p]? =some (i,m)->aCL[i]? =some o->o.dst=some d->(In p↔In' p)):f.get d=f'.get d:=by
 by_cases j: ∃(p i m:Nat) (o:bU),aBm[p]? =some (i,m)/\aCL[i]? =some o/\o.dst=some d/\In p
 ·obtain⟨p,i,m,o,a,b,c,k⟩:=j;rw [h.inn p i m o d a b c k,n.inn p i m o d a b c ((l p i m o a b c).1 k)]
 ·rw [h.out d λp i m o a b c k=>j ⟨p,i,m,o,a,b,c,k⟩,n.out d λp i m o a b c k=>j ⟨p,i,m,o,a,b,c,(l p i m o a b c).2 k⟩]
theorem Ctx.aqU (h:afX aCL aBm val f0 v f) (l:aBm[p]? =some (i,m)) (E:aCL[i]? =some o) (n: ¬v p)
  (c: ∀k,azR m k=true-> ∀p' b,aBm[p']? =some (k,b)->v p') (a: ∀p' F b,aBm[p']? =some (F,b)->v p'-> ∀k,azR b k=true-> ∀r w,aBm[r]? =some (k,w)->v r):
  ∀d∈aqC o,f.get d=(FF tr p).get d:=by
 intro d G;have x:p<aBm.length:=(List.getElem?_eq_some_iff.1 l).1;refine h.agree C (C.afB p (aAs x)) λp' k b H s I K=> ?_
 have L:=(C.fact p i m l).mask;rcases C.tmps i o m E L k H d I K G with t |⟨M,y,t⟩
 ·obtain⟨q,N,u,j⟩:=C.api l t;have:=C.uniq s j;subst this;exact⟨λ_=>u,λ_=>c k t p' b s⟩
 ·have z:b=M:=by have:=(C.fact p' k b s).mask;rw [y]at this;cases this;rfl
  subst z;obtain⟨q,N,u,j⟩:=C.api s t;have:=C.uniq l j;subst this;exact⟨λA=>absurd (a p' k b s A i t p m l) n,λD=>absurd D aa⟩
noncomputable def SN (aCL:List bU) (aBm:List (Nat×Nat)) (tr:Nat->DS):Nat->AH
 |0=>KK tr 0
 |p+1=> @ite _ (WE aCL aBm tr p) (Classical.propDecidable _) (KK tr (p+1)) (SN aCL aBm tr p)
theorem Ctx.V2: ∀p,p<=aBm.length->bJ op f v m (tr p).2.2=true-> ∀q,q<=p->
  (∀p' l r,q<=p'->p'<p->WE aCL aBm tr p'->aBm[p']? =some (l,r)->azR m l=false)->aR op f (SN aCL aBm tr q)=some v
 |0,_,c,q,K,_=>by
  have:q=0:=aa
  subst this;rw [C.t0]at c;simp only [bJ]at c;rw [SN,KK,C.t0];cases w:aR op f H0 with
  |none=>rw [w]at c;cases c
  |some L=>
   rw [w]at c;simp only [azl]at c;rw [AV.dG _ _ c.1]
 |p+1,O,c,q,K,s=>by
  obtain⟨i,mm,j⟩:=C.at_ (p:=p) aa;obtain⟨o,G,x⟩:=C.step p i mm j;by_cases h:WE aCL aBm tr p
  ·
   have d:(tr (p+1)).2.2=(i,KK tr (p+1))::(tr p).2.2:=by
    obtain⟨l,r,Q,H,I,y,D⟩:=h;rw [j]at H;cases H;rw [G]at I;cases I;generalize t:tr p=M at x;generalize z:tr (p+1)=N at x;simp only [FF,t]at D;simp only [KK,z];cases x with
    |off u=>rw [u]at D;cases D
    |P u n=>rw [n]at y;cases y
    |R u n=>rw [n]at y;cases y
    |A u n=>rw [n]at y;cases y
    |E u n=>rfl
   rw [d]at c;simp only [bJ]at c;cases w:aR op f (KK tr (p+1))with
   |none=>rw [w]at c;cases c
   |some L=>
    rw [w]at c;simp only [azl]at c;rcases aAd p q with F |k
    ·have:q=p+1:=aa
     subst this;rw [SN,if_pos h,w,AV.dG _ _ c.1]
    ·rw [s p i mm k aa h j,cond_false]at c;exact Ctx.V2 p aa c.2 q k λp' l r a b=>s p' l r a aa
  ·have d:(tr (p+1)).2.2=(tr p).2.2:=by
    generalize t:tr p=M at x;generalize z:tr (p+1)=N at x;cases x with
    |off=>rfl
    |P=>rfl
    |R=>rfl
    |A=>rfl
    |E u n=>exact absurd ⟨i,mm,o,j,G,n,by simp only [FF,t];exact u⟩ h
   rw [d]at c;rcases aAd p q with F |k
   ·have:q=p+1:=aa
    subst this;rw [SN,if_neg h];exact Ctx.V2 p aa c p (azv _) λp' l r a b=>absurd b aa
   ·exact Ctx.V2 p aa c q k λp' l r a b=>s p' l r a aa
theorem Ctx.atG (d: ∀p,p<=q-> ∀id ob,(KK tr p).get id=some ob->id<(KK tr p).next): ∀p,p<=q->p<=aBm.length-> ∀id ob,(SN aCL aBm tr p).get id=some ob->(KK tr p).get id=some ob
 |0,_,_,id,ob,h=>h
 |p+1,f,n,id,ob,h=>by
  by_cases a:WE aCL aBm tr p
  ·rw [SN,if_pos a]at h;exact h
  ·rw [SN,if_neg a]at h;have b:=Ctx.atG d p aa aa id ob h;rcases C.YS (p:=p) aa a with⟨j,_⟩ |⟨k,c⟩
   ·rw [j];exact b
   ·obtain⟨_,_,_,_,_,_,_,_,_,l⟩:=c;rw [l,AH.rm,if_neg (by have:=d p aa id ob b;omega)];exact b
theorem Ctx.aup (c: ∀p,p<=q-> ∀id ob,(KK tr p).get id=some ob->id<(KK tr p).next): ∀p,p<=q->p<=aBm.length-> ∀id ob,(SN aCL aBm tr p).get id=some ob->id<(SN aCL aBm tr p).next
 |0,a,_,id,ob,h=>c 0 aa id ob h
 |p+1,a,d,id,ob,h=>by
  by_cases b:WE aCL aBm tr p
  ·rw [SN,if_pos b]at h⊢;exact c (p+1) a id ob h
  ·rw [SN,if_neg b]at h⊢;exact Ctx.aup c p aa aa id ob h
end
theorem Oh (b:Gu ρ0 H0 w0 d j k) (h:aa9 tab base e f' H' d j k ex a w):aa9 tab base e f' H' ρ0 H0 w0 ex a w:=by
 obtain⟨l,f,n,p⟩:=h;exact⟨l,f,n,b.trans p⟩
def InL (a:List (Nat×Nat)) (L:Array Bool) (p:Nat):Prop:= ∃(i m:Nat),a[p]? =some (i,m)/\L.getD i false=true
section
variable {P:Program} {tab:Fu} (aBl:yA P tab) (aBr:P.follows .mixedOrders=true) {x:XF} {c:CF} (hx:Nw P tab x) (hxm:Wv x) (hc:ac1 P tab c) (aBt:adJ c)
include aBl aBr hx hxm hc aBt
theorem aro (C:Ctx (gA x c) ops aCL l xg z vn f0 H0)
  (wv: ∀(i:Nat) ao,aCL[i]? =some ao-> ∃o,ops[i]? =some o/\alC ao.dst o.dst=true/\NW ops ao.g o.guard=true/\ef tab o ao.op=true)
  (hQ: ∀a' w',aa9 tab base .normal (FF z l.length) (KK z l.length) ρ0 H0 w0 .normal a' w'->Q .normal a' w') (xh:Marks base ρ0 H0 w0 ds0) (xi:base<=w0.heap.size):
  ∀Z L (U:List Nat) a w fS HS ρ q,L.size=ops.size->U.length<=Z->(∀i,i<ops.size->L.getD i true=false->i∈U)->
   (∀p i m,l[p]? =some (i,m)->InL l L p-> ∀k,azR m k=true-> ∀p' S,l[p']? =some (k,S)->InL l L p')->
   afX aCL l vn f0 (InL l L) fS->Td tab aCL l z (InL l L) q HS ρ w->yE ρ fS a.tmps->Gu ρ0 H0 w0 ρ HS w->a.defers=ds0->
   wpAnyIn (Fr r) n P .any ops Q Z L a w:=by
 have hN: ∀ {p i m:Nat},l[p]? =some (i,m)->i<ops.size:=λ{p i m} hp=>by
  obtain⟨o,ho⟩:=(C.fact p i m hp).op;have:=(List.getElem?_eq_some_iff.1 ho).1;rw [C.len]at this;exact this
 have T: ∀ {L:Array Bool},L.size=ops.size-> ∀i,i<ops.size->L.getD i true=L.getD i false:=λ{L} vh i hi=>by
  rw [Array.getD_eq_getD_getElem?,Array.getD_eq_getD_getElem?,Array.getElem?_eq_getElem aa];rfl
 have ww: ∀(L:Array Bool) (a:Act) (w:World) (fS:AF) (HS:AH) (ρ:pZ) (q:Nat),(∀i,i<ops.size->L.getD i false=true)->afX aCL l vn f0 (InL l L) fS->Td tab aCL l z (InL l L) q HS ρ w->
   yE ρ fS a.tmps->Gu ρ0 H0 w0 ρ HS w->a.defers=ds0->Q .normal a w:=by
  intro L a w fS HS ρ q vu hF N W va vw;have vq: ∀p,p<l.length->InL l L p:=λp hp=>by
   obtain⟨i,m,wx⟩:=C.at_ hp;exact⟨i,m,wx,vu i (hN wx)⟩
  have vx:=Td.adv C (l.length-q) N (by have:=N.qN;omega) (λp G F wl=>by
    have hp:p<l.length:=by have:=N.qN;omega
    have:=N.eIn p wl (vq p hp);omega)
   (λp i m o G F _ _ _=>vq p (by have:=N.qN;omega))
  rw [show q+(l.length-q)=l.length by have:=N.qN;omega]at vx;have hg: ∀id,(KK z l.length).get id=HS.get id:=λid=>by
   cases hk:(KK z l.length).get id with
   |some O=>exact((vx.spec id O).2 (.inl hk)).symm
   |none=>
    cases hh:HS.get id with
    |none=>rfl
    |some O=>
     rcases(vx.spec id O).1 hh with h |⟨p,G,⟨i,m,F,_⟩,_⟩
     ·rw [hk]at h;cases h
     ·have:=(List.getElem?_eq_some_iff.1 F).1;omega
  have we:=va.ayO hg vx.next.symm;refine hQ a w ⟨trivial,ρ,⟨⟨?_,λt=> ?_⟩,vx.VG.congr hg (by rw [vx.next];exact azv _),by rw [vw];exact xh.frm we,aAm xi va.size⟩,we⟩
  ·rw [(C.afB l.length (azv _)).n,<-hF.n];exact W.1
  ·have:(FF z l.length).get t=fS.get t:=(C.afB l.length (azv _)).agree C hF λp i m o G _ _=>by
    have hp:=(List.getElem?_eq_some_iff.1 G).1;exact⟨λ_=>vq p hp,λ_=>hp⟩
   rw [this];exact W.2 t
 intro Z;induction Z with
 |zero=>
  intro L U a w fS HS ρ q vh hU wb wc hF N W va vw;have wm:U=[]:=List.length_eq_zero_iff.1 aa;subst wm;have vu: ∀i,i<ops.size->L.getD i false=true:=λi hi=>by
   cases h:L.getD i false with
   |true=>rfl
   |false=>have:=wb i hi (by rw [T vh i hi];exact h);cases this
  refine⟨?_,ww L a w fS HS ρ q vu hF N W va vw⟩;apply List.eq_nil_iff_forall_not_mem.2;intro i hi;obtain⟨G,o,ho,_⟩:=mem_ready.1 hi;have vc:=(Array.getElem?_eq_some_iff.1 ho).1;rw [T vh i vc,vu i vc]at G;cases G
 |succ Z ih=>
  intro L U a w fS HS ρ q vh hU wb wc hF N W va vw;refine⟨λwy=> ?_,λi hi=> ?_⟩
  ·refine ww L a w fS HS ρ q ?_ hF N W va vw;intro i;induction i using Nat.strongRecOn with
   |_ i xj=>
    intro vc;cases h:L.getD i false with
    |true=>rfl
    |false=>
     exfalso;obtain⟨o,ho⟩: ∃o,ops[i]? =some o:=⟨ops[i],by simp [vc]⟩;have:i∈Region.ready .any ops L:=mem_ready.2 ⟨by rw [T vh i vc];exact h,o,ho,λe he hb=>by
      have:=C.az7 i o ho e he hb;exact xj e.on this aa⟩
     rw [wy]at this;cases this
  ·obtain⟨v1,oc,v2,wd⟩:=mem_ready.1 hi;have vc:=(Array.getElem?_eq_some_iff.1 v2).1;obtain⟨p,m,hp⟩:=C.pos i vc;have vd:=(List.getElem?_eq_some_iff.1 hp).1;obtain⟨o,ho,vj⟩:=C.step p i m hp;obtain⟨x4,wf,wz,xk,vo⟩:=wv i o ho;rw [v2]at wf;cases wf;have wn:=akw aBl hx hxm hc wz;have ve: ¬InL l L p:=λ⟨i',S,G,F⟩=>by
    rw [hp]at G;cases G;rw [T vh i vc,F]at v1;cases v1
   have vk: ∀(k:Nat),azR m k=true-> ∀(p' S:Nat),l[p']? =some (k,S)->InL l L p':=by
    intro k hk p' S w1;obtain⟨m1,xl,xm⟩:=C.msk i oc v2;have w2:=(C.fact p i m hp).mask;rw [xl]at w2;cases w2;obtain⟨e,he,hb,xn⟩:=xm k hk;have w3:=wd e he hb;rcases xn with rfl |⟨me,xo,w4⟩
    ·exact⟨_,S,w1,w3⟩
    ·have xp:=C.az7 i oc v2 e he hb;obtain⟨u,xq,wo⟩:=C.pos e.on aa;have wg:=(C.fact u e.on xq wo).mask;rw [xo]at wg;cases wg;exact wc u e.on _ wo ⟨_,_,wo,w3⟩ k w4 p' S w1
   have v3:=C.aqU hF hp ho ve vk wc;have wp:cls o.op≠ .P->q<=p:=λxr=>by
    rcases aAd p q with h |h
    ·exact absurd (N.low p i m o hp ho xr h) ve
    ·exact h
   have wh: ∀p',q<=p'->WE aCL l z p'-> ¬InL l L p':=λp' G F h3=>by have:=N.eIn p' F h3;omega
   have Y:=avv (f:=fS) (g:=FF z p) o.op λt ht=>v3 t (by simp [aqC,ht])
   have v4:aT fS o.g=aT (FF z p) o.g:=af1 λt b hg=>v3 t (by simp [aqC,hg])
   let L':=L.setIfInBounds i true
   have wi:L'.size=ops.size:=by simp [L',vh]
   have D: ∀p',InL l L' p'↔InL l L p'\/p'=p:=by
    intro p';constructor
    ·rintro⟨i',S,G,F⟩;by_cases e:i=i'
     ·subst e;exact .inr (C.uniq G hp)
     ·exact .inl ⟨i',S,G,by rw [getD_set_ne false e]at F;exact F⟩
    ·rintro(⟨i',S,G,F⟩ |rfl)
     ·refine⟨i',S,G, ?_⟩;by_cases e:i=i'
      ·subst e;simp [L',Array.getD_eq_getD_getElem?,Array.getElem?_setIfInBounds,vh,vc]
      ·rw [getD_set_ne false e];exact F
     ·exact⟨i,m,hp,by simp [L',Array.getD_eq_getD_getElem?,Array.getElem?_setIfInBounds,vh,vc]⟩
   have w5: ∀(u i1 m1:Nat),l[u]? =some (i1,m1)->InL l L' u-> ∀(k:Nat),azR m1 k=true-> ∀(p' S:Nat),l[p']? =some (k,S)->InL l L' p':=by
    intro u i1 m1 G F k hk p' S h3;rcases(D u).1 F with F |rfl
    ·exact(D p').2 (.inl (wc u i1 m1 G F k hk p' S h3))
    ·rw [hp]at G;cases G;exact(D p').2 (.inl (vk k hk p' S h3))
   have xs:i∈U:=wb i vc v1;have xt:(U.erase i).length<=Z:=by rw [List.length_erase_of_mem xs];omega
   have w6: ∀k,k<ops.size->L'.getD k true=false->k∈U.erase i:=λk hk h=>by
    by_cases e:i=k
    ·subst e;rw [T wi i hk]at h;have:=(D p).2 (.inr rfl);obtain⟨i2,m2,g1,g2⟩:=this;rw [hp]at g1;cases g1;rw [g2]at h;cases h
    ·rw [getD_set_ne true e]at h;exact(List.mem_erase_of_ne (λh=>e h.symm)).2 (wb k hk h)
   have v5:=vj.put C;obtain⟨f1,w7⟩: ∃f1,fS.put o.dst (vn p)=some f1:=by
    have hn:fS.n=(z p).1.n:=by rw [hF.n];exact(C.afB p (aAs vd)).n.symm
    cases hd:o.dst with
    |none=>exact⟨fS,rfl⟩
    |some d=>
     rw [hd]at v5;have:=AF.aue v5;exact⟨_,by simp only [AF.put];rw [hn,show aAv d (z p).1.n=true by simpa [aAp]using this];rfl⟩
   have xu:=hF.put C (In':=InL l L') hp ho D w7;have go: ∀(y:Value) (w':World) (vf:pZ) (vl:AH) (q':Nat),bT vf (vn p) y->Ext ρ vf->Td tab aCL l z (InL l L') q' vl vf w'->Gu ρ0 H0 w0 vf vl w'->wpAnyIn (Fr r) n P .any ops Q Z L' (a.put oc.dst y) w':=
    λy w' vf vl q' G F h3 h4=>ih L' (U.erase i) _ w' f1 vl vf q' wi xt w6 w5 xu h3 (by rw [<-wn];exact(W.mono F).put w7 G) h4 (by rw [Act.Li];exact vw)
   have vr:(∀O,¬Mk aCL l z p O)->(WE aCL l z p->p<q)->Td tab aCL l z (InL l L') q HS ρ w:=λG F=>N.more C D G F
   have I: ∀ {i' S:Nat} {o':bU},l[p]? =some (i',S)->aCL[i']? =some o'->o'=o:=λG F=>by rw [hp]at G;cases G;rw [ho]at F;cases F;rfl
   unfold wpOpIn;simp only [v2];rw [X5 W xk,v4];have wq:=xX vo;have v6:H0.next<=(KK z p).next:=by
    have:=C.Fo (p:=0) (p':=p) aa (aAs vd);rwa [KK,C.t0]at this
   have w8:(KK z (p+1)).next<=(KK z l.length).next:=C.Fo vd (azv _);generalize vp:z p=s0 at vj;generalize w9:z (p+1)=s1 at vj;cases vj with
   |off hw hv vv=>
    rename_i f2 _ F vt;have M:FF z p=f2:=by rw [FF,vp]
    rw [M,hw];simp only [aAk,if_false];refine⟨λ_ _=>trivial,go undef w ρ HS q (by rw [hv];exact bT.undef) (.refl _) (vr (λO ⟨i',S,o',v',g1,g2,g3,g4,_⟩=> ?_) λ⟨i',S,o',g1,g2,g3,g4⟩=> ?_) va⟩
    ·have:=I g1 g2;subst this;rw [M,hw]at g4;cases g4
    ·have:=I g1 g2;subst this;rw [M,hw]at g4;cases g4
   |P hw H wj vv=>
    rename_i f2 _ F vt;have M:FF z p=f2:=by rw [FF,vp]
    rw [M,hw];simp only [if_true];rw [<-M,<-Y.1]at wj;obtain⟨y,hr,wr⟩:=ad5 aBl W w vo wj;refine⟨λ_ _=>trivial, ?_⟩;rw [Oper.semAt_eq _ _ _ wq,hr];refine go y w ρ HS q wr (.refl _) (vr (λO ⟨i',S,o',v',g1,g2,g3,g4,_⟩=> ?_) λ⟨i',S,o',g1,g2,g3,g4⟩=> ?_) va
    ·have:=I g1 g2;subst this;rw [H]at g3;cases g3
    ·have:=I g1 g2;subst this;rw [H]at g3;cases g3
   |R hw H x5 xv vv=>
    rename_i f2 _ F V g2 xe;have M:FF z p=f2:=by rw [FF,vp]
    rw [M,hw];simp only [if_true];have hq:=wp (by rw [H];intro e;cases e);have xa:=C.V2 (op:=o.op) (f:=FF z p) (v:=vn p) (m:=m) p (aAs vd) (by rw [vp,M];exact xv) q hq λp' i' S g1 g2 g3 g4=>by
     cases hb:azR m i' with
     |false=>rfl
     |true=>exact absurd (vk i' hb p' S g4) (wh p' g1 g3)
    rw [<-Y.2.1]at xa;have v7:=N.VG.sub (K:=SN aCL l z q) (λid O h=>(N.spec id O).2 (.inl (C.atG N.PU q (azv _) N.qN id O h))) (C.aup N.PU q (azv _) N.qN);obtain⟨y,hr,wr⟩:=adN aBl W v7 vo xa;refine⟨λ_ _=>trivial, ?_⟩;rw [Oper.semAt_eq _ _ _ wq,hr];refine go y w ρ HS q wr (.refl _) (vr (λO ⟨i',S,o',v',g1,g2,g3,g4,_⟩=> ?_) λ⟨i',S,o',g1,g2,g3,g4⟩=> ?_) va
    ·have:=I g1 g2;subst this;rw [H]at g3;cases g3
    ·have:=I g1 g2;subst this;rw [H]at g3;cases g3
   |A hw H xb vv=>
    rename_i f2 _ F vt b2;have M:FF z p=f2:=by rw [FF,vp]
    have v8:KK z p=F:=by rw [KK,vp]
    have v9:KK z (p+1)=F.new b2:=by rw [KK,w9]
    rw [M,hw];simp only [if_true];have hq:=wp (by rw [H];intro e;cases e);have vz:Mk aCL l z p b2:=⟨i,m,o,vn p,hp,ho,H,by rw [M];exact hw,by rw [M,v8];exact xb,by rw [v9,v8]⟩;have xw:=C.Fo hq (aAs vd);have x6:=vz.next C;have vm:ρ (KK z p).next=none:=by
     cases hr:ρ (KK z p).next with
     |none=>rfl
     |some mm=>
      obtain⟨u,vg,g1,g2,g3,g4⟩:=N.unk (KK z p).next xw aa (by rw [hr];intro e;cases e);have:=C.mk_inj vz g3 g4;subst this;exact absurd g2 ve
    have xx:vR tab ρ (⟨.leaf,(KK z p).next⟩:AH) w:=⟨⟨λid O h=>(by cases(show(none:Option AB)=some O from h)),λi j oi oj b s s' h=>(by cases(show(none:Option AB)=some oi from h)),λid O h=>(by cases(show(none:Option AB)=some O from h))⟩,N.VG.lay.sub λ⟨id,O,s,h,_⟩=>(by cases(show(none:Option AB)=some O from h))⟩;have xc:aW o.op fS (⟨.leaf,(KK z p).next⟩:AH).next=some (vn p,b2):=by rw [Y.2.2.1,M];show aW o.op f2 (KK z p).next=_;rw [v8];exact xb
    refine yX wq (aaZ aBl W xx vm vo xc) λy w' vf k1 k2 k3=> ?_
    obtain⟨vl,n1,g1,ws,wt⟩:=N.VG.frame (K:=⟨.leaf,(KK z p).next⟩) (λid O h=>by cases(show(none:Option AB)=some O from h)) k2 k3 (by rw [N.next];show(KK z p).next+1<=_;omega) va v6;have wu: ∀id,vl.get id=if(KK z p).next=id then some b2 else HS.get id:=λid=>by
     rw [g1 id,AH.rm];by_cases e:(KK z p).next=id
     ·simp [e]
     ·simp only [e,if_false];rfl
    refine go y w' vf vl q k1 k3.ext ⟨N.qN,λu G F=> ?_,λu i1 m1 o1 G F h3 h4=>(D u).2 (.inl (N.low u i1 m1 o1 G F h3 h4)),by rw [n1,N.next],λid O=> ?_,λid G F h3=> ?_,N.PU,ws⟩ wt
    ·rcases(D u).1 F with F |rfl
     ·exact N.eIn u G F
     ·obtain⟨i',S,o',e1,V,e3,e4⟩:=G;have:=I e1 V;subst this;rw [H]at e3;cases e3
    ·rw [wu];constructor
     ·intro h;by_cases e:(KK z p).next=id
      ·rw [if_pos e]at h;cases h;exact .inr ⟨p,hq,(D p).2 (.inr rfl),vz,e.symm⟩
      ·rw [if_neg e]at h;rcases(N.spec id O).1 h with h |⟨u,e1,V,e3,e4⟩
       ·exact .inl h
       ·exact .inr ⟨u,e1,(D u).2 (.inl V),e3,e4⟩
     ·rintro(h |⟨u,e1,V,e3,e4⟩)
      ·have:=N.PU q (azv _) id O h;rw [if_neg aa];exact(N.spec id O).2 (.inl h)
      ·rcases(D u).1 V with V |rfl
       ·by_cases e:(KK z p).next=id
        ·have:=C.mk_inj vz e3 (by rw [e,e4]);subst this;exact absurd V ve
        ·rw [if_neg e];exact(N.spec id O).2 (.inr ⟨u,e1,V,e3,e4⟩)
       ·rw [if_pos e4.symm,vz.uniq C e3]
    ·by_cases e:(KK z p).next=id
     ·exact⟨p,b2,hq,(D p).2 (.inr rfl),vz,e.symm⟩
     ·have xy:ρ id≠none:=by
       rcases aAd id (KK z p).next with hl |hg
       ·intro h;exact h3 (k3.low id hl h)
       ·have wa:=k3.out id (by show(KK z p).next+1<=id;omega);rw [<-wa];exact h3
      obtain⟨u,vg,e1,V,e3,e4⟩:=N.unk id G F xy;exact⟨u,vg,e1,(D u).2 (.inl V),e3,e4⟩
   |E hw H xz vv=>
    rename_i f2 _ F x0 vt;have M:FF z p=f2:=by rw [FF,vp]
    have v8:KK z p=F:=by rw [KK,vp]
    have v9:KK z (p+1)=x0:=by rw [KK,w9]
    rw [M,hw];simp only [if_true];have hq:=wp (by rw [H];intro e;cases e);have wk: ∀(u i1 m1:Nat) (o1:bU),u<p->l[u]? =some (i1,m1)->aCL[i1]? =some o1->cls o1.op≠ .P->InL l L u:=λu i1 m1 o1 G F h3 h4=>
     vk i1 ((C.fact p i m hp).chain o ho H i1 m1 o1 (Hf.2 ⟨u,G,F⟩) h3 h4) u m1 F
    have hA:=Td.adv C (p-q) N aa (λu G F wl=>by
      obtain⟨i',S,o',e1,V,e3,e4⟩:=wl;exact wh u G ⟨i',S,o',e1,V,e3,e4⟩ (wk u i' S o' aa e1 V (by rw [e3];intro e;cases e)))
     (λu i1 m1 o1 G F h3 h4 h5=>wk u i1 m1 o1 aa h3 h4 h5)
    rw [show q+(p-q)=p by omega]at hA;have v7:=hA.VG.sub (K:=KK z p) (λid O h=>(hA.spec id O).2 (.inl h)) (hA.PU p (azv _));have xf:=C.Y4 vd;have vm:uM ρ (KK z p) (KK z (p+1)):=λid G F=>by
     cases hr:ρ id with
     |none=>rfl
     |some mm=>
      obtain⟨u,vg,e1,V,e3,e4⟩:=hA.unk id G aa (by rw [hr];intro e;cases e);rcases aAd p u with hl |hg
      ·have:=C.Fo (p:=p+1) (p':=u) hl (aAs (e3.lt C));omega
      ·have:u=p:=aa
       subst this;exact absurd V ve
    have xd:aZ (gA x c) o.op fS (KK z p)=some (vn p,KK z (p+1)):=by rw [Y.2.2.2,M,v8,v9];exact xz
    refine alo aBl hx hxm hc W v7 vo xd vm λy w' vf k1 k2 k3=> ?_
    obtain⟨vl,n1,g1,ws,wt⟩:=hA.VG.frame (K:=KK z p) (λid O h=>(hA.spec id O).2 (.inl h)) k2 k3 (by rw [hA.next];exact w8) va v6;refine go y w' vf vl (p+1) k1 k3.ext ⟨vd,λu G F=> ?_,λu i1 m1 o1 G F h3 h4=> ?_,by rw [n1,hA.next],λid O=> ?_,λid G F h3=> ?_,λu G id O F=> ?_,ws⟩ wt
    ·rcases(D u).1 F with F |rfl
     ·have:=hA.eIn u G F;omega
     ·omega
    ·rcases aAd u p with hl |hg
     ·exact(D u).2 (.inl (hA.low u i1 m1 o1 G F h3 hl))
     ·exact(D u).2 (.inr aa)
    ·rw [g1 id];constructor
     ·intro h;cases v0:(KK z (p+1)).get id with
      |some vg=>rw [v0]at h;exact .inl h
      |none=>
       rw [v0]at h;simp only at h;cases hk:(KK z p).get id with
       |some _=>rw [hk]at h;cases h
       |none=>
        rw [hk]at h;simp only at h;rcases(hA.spec id O).1 h with h |⟨u,e1,V,e3,e4⟩
        ·rw [hk]at h;cases h
        ·refine .inr ⟨u, ?_,(D u).2 (.inl V),e3,e4⟩;rcases aAd p u with hl |hg
         ·exact hl
         ·have:u=p:=aa
          subst this;exact absurd V ve
     ·rintro(h |⟨u,e1,V,e3,e4⟩)
      ·rw [h]
      ·have x1:InL l L u:=by
        rcases(D u).1 V with V |V
        ·exact V
        ·omega
       have x7:=C.Fo (p:=p+1) (p':=u) e1 (aAs (e3.lt C));have x2:(KK z (p+1)).get id=none:=by
        cases v0:(KK z (p+1)).get id with
        |none=>rfl
        |some vg=>have:=k2.PU id vg v0;omega
       have x3:(KK z p).get id=none:=by
        cases v0:(KK z p).get id with
        |none=>rfl
        |some vg=>have:=hA.PU p (azv _) id vg v0;omega
       rw [x2,x3];exact(hA.spec id O).2 (.inr ⟨u,aa,x1,e3,e4⟩)
    ·have wa:=k3.out id G;rw [wa]at h3;obtain⟨u,vg,e1,V,e3,e4⟩:=hA.unk id aa F h3;refine⟨u,vg, ?_,(D u).2 (.inl V),e3,e4⟩;rcases aAd p u with hl |hg
     ·exact hl
     ·have:u=p:=aa
      subst this;exact absurd V ve
    ·rcases aAd p u with hl |hg
     ·have:u=p+1:=aa
      subst this;exact k2.PU id O F
     ·exact hA.PU u hg id O F
theorem afL (O:XR tab ops aCL ops.toList=true) (A:aiq ops.toList aCL l=true)
  (he:cW (gA x c) aCL l f H [(aCL.length,H)]=some (f',H')) {id} (st:St tab base ρ f H w a) (Z:uM ρ H H'):
  (Code.region id ops true).wpIn (Fr r) n P (aa9 tab base .normal f' H' ρ H w) a w:=by
 obtain⟨Q,R⟩:=aay aBl hx hxm hc O;have L:aCL.length=ops.size:=by rw [Q];simp
 simp only [aiq,azl]at A;obtain⟨⟨⟨⟨⟨y,va⟩,I⟩,vc⟩,vd⟩,ve⟩:=A;have M:l.length=ops.size:=by have:=azy va;simpa using this
 obtain⟨vn,_,vf⟩:=Ro ops.toList [];obtain⟨tr,vg,S,ts,tf,th⟩:=aed (cv:=gA x c) (ops:=aCL) l (f,H,[(aCL.length,H)]) he;have vh: ∀g T h v h',gA x c g T h=some (v,h')->h.next<=h'.next:=λ_ _ _ _ _ e=>Us hxm aBt e
 have C:Ctx (gA x c) ops aCL l (sd [] ops.toList) tr vg f H:=by
  refine⟨L,M,λi o u=> ?_,λi o u e vj hb=> ?_,λi u=> ?_,λp i m W=> ?_,λi o m u hm k ok d hk hd hu=> ?_,λj k o o' d F D z h4=>afl ve j k o o' d F D z h4,S,ts,vh⟩
  ·obtain⟨vo,g1,g2⟩:=vf i o (by simpa using u);simp only [List.length_nil,aAZ]at g1 g2;refine⟨_,g1,λk hk=> ?_⟩;obtain⟨e,F,D,z⟩:=US hk;refine⟨e,by simpa using F,D, ?_⟩;rcases z with z |z
   ·exact .inl z
   ·right;have vk:e.on<i:=by have:=Lp y i o (by simpa using u) e (by simpa using F) D;omega
    rw [List.getD_eq_getElem?_getD,g2 e.on vk]at z;cases U:(sd [] ops.toList)[e.on]? with
    |none=>rw [U]at z;simp at z
    |some me=>rw [U]at z;exact⟨me,rfl,by simpa using z⟩
  ·have:=Lp y i o (by simpa using u) e vj hb;omega
  ·rw [List.all_eq_true]at I;have:=I i (by simpa using u);rw [List.any_eq_true]at this;obtain⟨⟨j,m⟩,hj,hb⟩:=this;have:i=j:=azy hb;subst this;obtain⟨p,W⟩:=List.mem_iff_getElem?.1 hj;exact⟨p,m,W⟩
  ·have:=VN l [] 0 [] [] vc (λk=>ab) (λk m ok h=>by simp at h) p i m W;simpa using this
  ·have F:=abi vd i o u;rw [aAZ,List.getD_eq_getElem?_getD,hm]at F;have:=Xd F k ok d hk hd hu;simpa using this
 refine wpIn_region_any aBr ?_;have E:=Gu.drew ρ H w (w.drawn+1);have vl:=st.VG.drew (w.drawn+1);have Y:(KK tr l.length)=H':=th;have vm:(FF tr l.length)=f':=tf;obtain⟨t,ht⟩:=acr H.get H'.next;have V:H.next<=H'.next:=by
  have:=C.Fo (p:=0) (p':=l.length) aa (azv _);rw [Y]at this;rwa [KK,S]at this
 have q: ∀i,(⟨t,H'.next⟩:AH).get i=H.get i:=λi=>by
  show t.get i=_;rw [ht];by_cases h:i<H'.next
  ·rw [if_pos h]
  ·rw [if_neg h];cases hh:H.get i with
   |none=>rfl
   |some K=>have:=st.VG.PU i K hh;omega
 have G: ∀p,¬InL l (Array.replicate ops.size false) p:=λp ⟨i,m,_,D⟩=>by
  rw [Array.getD_eq_getD_getElem?,Array.getElem?_replicate]at D;split at D<;>simp at D
 rw [<-Y,<-vm];have N:=aro aBl aBr hx hxm hc aBt C (λi ao h=>by simpa using R i ao h) (λa' w' h=>Oh E h) (r:=r) (n:=n) (base:=base) (ρ0:=ρ) (w0:= {w with drawn:=w.drawn+1}) (ds0:=a.defers) (st.marks.frm E) st.base
  ops.size (Array.replicate ops.size false) (List.range ops.size) a {w with drawn:=w.drawn+1} f ⟨t,H'.next⟩ ρ 0 ab ab (λi u _=>by simpa using u)
  (λp i m _ h=>absurd h (G p)) ⟨rfl,λp i m o d _ _ _ h=>absurd h (G p),λd _=>rfl⟩
  ⟨by
    omega,λp _ h=>absurd h (G p),λp i m o _ _ _ h=>aa,by rw [Y],λid K=>by
    rw [q,KK,S];exact⟨λh=> .inl h,λh=>h.elim (λh=>h) λ⟨p,_,h,_⟩=>absurd h (G p)⟩,
   λid F D z=>by
    rw [KK,S]at F;rw [Y]at D;exact absurd (Z id F D) z,
   λp W id K h=>by
    have:p=0:=aa
    subst this;rw [KK,S]at h⊢;exact st.VG.PU id K h,
   vl.congr q V⟩
  st.f ⟨azv _,.refl _,V,λ_ _=>rfl,λ_ _ _=>rfl,λb _ ⟨i,K,s,u,hr⟩=>⟨i,K,s,by rw [q]at u;exact u,hr⟩,λ_ _ _ h=>h,λi K h=> .inl ⟨K,by rw [q]at h;exact h⟩,λ_ _ h=>h,rfl,rfl,rfl,λi c b s u hr=>⟨rfl,by rw [q];exact u,hr⟩⟩ rfl
 exact N
end
section
variable {P:Program} {tab:Fu} (aBl:yA P tab) (aBr:P.follows .mixedOrders=true) {x:XF} {c:CF} (hx:Nw P tab x) (hxm:Wv x) (hc:ac1 P tab c) (aBt:adJ c)
theorem GB (h:QU .normal e):e= .normal:=by cases e<;>simp [QU]at h;rfl
theorem RM (h:QU .ret e):e= .ret:=by cases e<;>simp [QU]at h;rfl
theorem Nl (h:QU (.exit i) e):e= .exit i:=by cases e<;>simp [QU]at h;subst h;rfl
theorem St.push {base} {f} (st:St tab base ρ f H w a) o:vR tab ρ H (n9 w o)/\Gu ρ H w ρ H (n9 w o):=by
 refine⟨⟨⟨λi k d=> ?_,st.VG.inj,st.VG.PU⟩,⟨by rw [tg _ _ st.VG.lay.1.lt];exact st.VG.lay.1,st.VG.lay.2⟩⟩,⟨by show w.heap.size<=(w.heap.push o).size;simp,.refl _,azv _,λ_ _=>rfl,λb r _=>tg _ _ r,λ_ _ h=>h,λ_ _ _ h=>h,λ_ k h=> .inl ⟨k,h⟩,λ_ _ h=>h,rfl,rfl,rfl,λi c b s d l=> ?_⟩⟩;obtain⟨b,s,p,h1,j,q⟩:=st.VG.obj i k d;exact⟨b,s,p,h1,by rw [tg _ _ (gl j)];exact j,q⟩;obtain⟨t,u,p,h1,j,q⟩:=st.VG.obj i _ d;rw [l]at h1;cases h1;exact⟨tg _ _ (gl j),d,l⟩
include aBl aBr hx hxm hc aBt
theorem asi (k:nt x c G f H=some (e,f',H')) (wf: ∀b,G≠ .loop b) (l:cOK tab G c'=true) r (K:r.isSome=true->mQ G=true)
  base ρ w a n (st:St tab base ρ f H w a) (y:uM ρ H H'):c'.wpIn (Fr r) n P (aa9 tab base e f' H' ρ H w) a w:=by
 by_cases vr:G= .fail
 ·subst vr;simp [nt]at k
 cases G<;>cases c'<;>(try exact absurd rfl vr)<;>(try simp only [cOK,aAk]at l)<;>simp only [nt]at k
 case skip.skip=>
  simp only [azn,azB]at k;obtain⟨rfl,rfl,rfl⟩:=k;exact wpIn_skip ⟨trivial,ρ,st,.refl _ _ _⟩
 case region.region aCL id wg M=>
  cases M with
  |true=>simp [cOK]at l
  |false=>
   simp only [cOK]at l;cases Z:bt (gA x c) aCL f H with
   |none=>rw [Z]at k;cases k
   |some fh=>
    obtain⟨f1,I⟩:=fh;rw [Z]at k;simp only [azn,azB]at k;obtain⟨rfl,rfl,rfl⟩:=k;have:=ahw aBl hx hxm hc aBt l (r:=r) (n:=n) (base:=base) (ρ0:=ρ) (H0:=H) (w0:=w) (f':=f1) (H':=I) 0 aCL rfl f H ρ w a Z st y (.refl _ _ _);rw [Nat.sub_zero,<-List.range_eq_range']at this;exact wpIn_region this
 case lN.region aCL vt id wg M=>
  cases M with
  |false=>simp [cOK]at l
  |true=>
   simp only [cOK,azl]at l;cases Z:cW (gA x c) aCL vt f H [(aCL.length,H)]with
   |none=>rw [Z]at k;cases k
   |some fh=>
    obtain⟨f1,I⟩:=fh;rw [Z]at k;simp only [azn,azB]at k;obtain⟨rfl,rfl,rfl⟩:=k;exact afL aBl aBr hx hxm hc aBt l.1 l.2 Z st y
 case seq.seq p q p' q'=>
  simp only [azl]at l;have N:r.isSome=true->mQ p=true:=λh=>by have:=K h;simp only [mQ,azl]at this;exact this.1
  have vu:r.isSome=true->mQ q=true:=λh=>by have:=K h;simp only [mQ,azl]at this;exact this.2
  cases hp:x p f H with
  |none=>rw [hp]at k;cases k
  |some t=>
   obtain⟨e1,f1,I⟩:=t;rw [hp]at k;cases e1 with
   |normal=>
    simp only at k;have m2:=hxm _ _ _ _ _ _ k;have h1:=hx.wp _ _ _ _ _ _ hp p' l.1 r N base ρ w a n st (y.left m2);refine wpIn_seq (wpIn_mono h1 ?_);rintro ex a1 w1 ⟨A,wh,wi,vv⟩;rw [GB A];exact wpIn_mono (hx.wp _ _ _ _ _ _ k q' l.2 r vu base wh w1 a1 n wi (y.right vv)) λwj a2 w2 h2=>Oh vv h2
   |exit id=>
    simp only [azn,azB]at k;obtain⟨rfl,rfl,rfl⟩:=k;refine wpIn_seq (wpIn_mono (hx.wp _ _ _ _ _ _ hp p' l.1 r N base ρ w a n st y) ?_);rintro ex a1 w1 ⟨A,h⟩;rw [Nl A];exact⟨rfl,h⟩
   |ret=>
    simp only [azn,azB]at k;obtain⟨rfl,rfl,rfl⟩:=k;refine wpIn_seq (wpIn_mono (hx.wp _ _ _ _ _ _ hp p' l.1 r N base ρ w a n st y) ?_);rintro ex a1 w1 ⟨A,h⟩;rw [RM A];exact⟨trivial,h⟩
 case cond.cond v p q v' p' q'=>
  simp only [azl]at l;obtain⟨⟨hv,hp⟩,hq⟩:=l;have vw:=(cI hv).ev st.f;cases vx:f.ev v with
  |bool b=>
   rw [vx]at k vw;have hb:=bT.Xw vw;cases b with
   |true=>exact wpIn_cond_true hb (hx.wp _ _ _ _ _ _ k p' hp r (λh=>by have:=K h;simp only [mQ,azl]at this;exact this.1) base ρ w a n st y)
   |false=>exact wpIn_cond_false hb (hx.wp _ _ _ _ _ _ k q' hq r (λh=>by have:=K h;simp only [mQ,azl]at this;exact this.2) base ρ w a n st y)
  |_=>rw [vx]at k;cases k
 case block.block id b wk b'=>
  simp only [azl]at l;have wl:id=wk:=azy l.1;subst wl;have vz:r.isSome=true->mQ b=true:=K;cases hb:x b f H with
  |none=>rw [hb]at k;cases k
  |some t=>
   obtain⟨e1,f1,I⟩:=t;rw [hb]at k;have wm:e1=e/\(∀i,e1= .exit i-> ¬i=id)\/(e1= .exit id/\e= .normal):=by
    cases e1 with
    |normal=>simp only [azn,azB]at k;exact .inl ⟨k.1,λ_ h=>by cases h⟩
    |ret=>simp only [azn,azB]at k;exact .inl ⟨k.1,λ_ h=>by cases h⟩
    |exit i=>
     simp only at k;by_cases hi:i=id
     ·subst hi;rw [show azm i i=true from Nat.beq_refl i,cond_true]at k;simp only [azn,azB]at k;exact .inr ⟨rfl,k.1.symm⟩
     ·rw [beq_false hi,cond_false]at k;simp only [azn,azB]at k;exact .inl ⟨k.1,λ_ h=>by cases h;exact hi⟩
   have wn:f1=f'/\I=H':=by
    cases e1 with
    |normal=>simp only [azn,azB]at k;exact k.2
    |ret=>simp only [azn,azB]at k;exact k.2
    |exit i=>
     simp only at k;cases hi:azm i id<;>rw [hi]at k<;>simp only [cond_true,cond_false,azn,azB]at k<;>exact k.2
   obtain⟨rfl,rfl⟩:=wn;refine wpIn_block (wpIn_mono (hx.wp _ _ _ _ _ _ hb b' l.2 r vz base ρ w a n st y) ?_);rintro ex a1 w1 ⟨A,h⟩;rcases wm with⟨rfl,wo⟩ |⟨rfl,rfl⟩
   ·cases e1 with
    |normal=>rw [GB A];exact⟨trivial,h⟩
    |ret=>rw [RM A];exact⟨trivial,h⟩
    |exit i=>
     rw [Nl A];simp only [Exit.inBlock];rw [if_neg (wo i rfl)];exact⟨rfl,h⟩
   ·rw [Nl A];simp only [Exit.inBlock,if_true];exact⟨trivial,h⟩
 case loop.loop b b'=>exact absurd rfl (wf b)
 case exit.exit i j=>
  have wq:i=j:=azy l;subst wq;simp only [azn,azB]at k;obtain⟨rfl,rfl,rfl⟩:=k;exact wpIn_exit ⟨rfl,ρ,st,.refl _ _ _⟩
 case ret.ret=>
  simp only [azn,azB]at k;obtain⟨rfl,rfl,rfl⟩:=k;exact wpIn_ret ⟨trivial,ρ,st,.refl _ _ _⟩
 case ou.rangeFunc g ps aCL body g' v0 v2 O=>
  simp only [azl]at l;obtain⟨⟨⟨⟨⟨hg,wr⟩,ws⟩,vf⟩,wt⟩,wu⟩:=l;have Z:r=none:=by
   cases r with
   |none=>rfl
   |some _=>have:=K rfl;simp [mQ]at this
  subst Z;have v3:=(cI hg).ev st.f;cases v4:f.ev g with
  |func gf ga gb=>
   rw [v4]at k v3;simp only at k;obtain⟨x',y',vg,h1,h2⟩:=v3;cases E:c gf (ga++ [.yield H.next]++gb) (H.new (.loop {st:= .ready,Be:=none,f:=f,ps:=ps,assign:=aCL,body:=body}))with
   |none=>rw [E]at k;cases k
   |some vh=>
    obtain⟨v1,I⟩:=vh;rw [E]at k;simp only at k;cases hl:I.get H.next with
    |none=>rw [hl]at k;cases k
    |some ob=>
     rw [hl]at k;cases ob with
     |cells=>cases k
     |map=>cases k
     |loop R=>
      simp only at k;rcases hc _ _ _ _ _ E with⟨v5,va⟩ |⟨v6,_⟩
      rotate_left
      ·rw [Pg]at v6;cases v6
      have mc:=aBt _ _ _ _ _ E;have mH:I.next<=H'.next:=by
       cases vj:R.st<;>rw [vj]at k<;>simp only at k<;>try (cases k;done)
       all_goals
        cases S:R.Be with
        |none=>rw [S]at k;simp only [azn,azB]at k;rw [<-k.2.2];exact azv _
        |some j=>rw [S]at k;exact hxm _ _ (I.set H.next none) _ _ _ k
      simp only [AH.akr]at mc;refine wpIn_rangeFunc λfn hfn=> ?_
      obtain⟨s1,k1⟩:=st.push (.deferred (some []));let L:Loop:= {state:= .ready,pending:=none,fn:=fn,tmps:=a.tmps,params:=v0,assign:=v2,body:=O,defers:=w.heap.size}
      have vc:ρ H.next=none:=y _ (azv _) aa;have v7:AB.Rel tab ρ (.loop {st:= .ready,Be:=none,f:=f,ps:=ps,assign:=aCL,body:=body}) (.loop L) ⟨0,0⟩:=
       ⟨L,rfl,⟨rfl,trivial,st.f,(abd wr).symm,ws,vf,wt,wu⟩⟩
      obtain⟨s2,k2⟩:=s1.new vc v7;have T:(n9 w (.deferred (some []))).heap.size=w.heap.size+1:=by show(w.heap.push _).size=_;simp
      have v8:=k1.trans k2;have vk:ca (ρ.put H.next (some ((n9 w (.deferred (some []))).heap.size,⟨0,0⟩))) (ga++ [.yield H.next]++gb) ((x'++ #[Value.func (.yield (w.heap.size+1)) #[] #[]])++y').toList:=by
       have:=((h1.mono k2.ext).append (show ca (ρ.put H.next (some ((n9 w (.deferred (some []))).heap.size,⟨0,0⟩))) [.yield H.next] [Value.func (.yield (w.heap.size+1)) #[] #[]]from⟨⟨_,pZ.kL _ _ _,_,rfl,λb s hb=>by cases hb;rw [T]⟩,trivial⟩)).append (h2.mono k2.ext);simpa using this
      have v9:uM (ρ.put H.next (some ((n9 w (.deferred (some []))).heap.size,⟨0,0⟩))) (H.new (.loop {st:= .ready,Be:=none,f:=f,ps:=ps,assign:=aCL,body:=body})) I:=(y.left mH).right v8;have wv:=va _ _ _ vk s2 v9 (n-1) none;refine⟨w.heap.size+1,[{target:= .collected w.heap.size,args:= #[]}],n9 (n9 w (.deferred (some []))) (.loop L),{target:= .fn (.func gf) y',args:=x'++ #[Value.func (.yield (w.heap.size+1)) #[] #[]]},n9 (n9 w (.deferred (some []))) (.loop L),gf,_,n9 (n9 w (.deferred (some []))) (.loop L), ?_, ?_,λ_ _=>trivial, ?_,λh=>by simp [Fence.wide]at h,CallsIn.mono wv ?_⟩
      ·show(Instr.enterLoop fn a.tmps v0 v2 O none).run P w= .ok _ (n9 (n9 w (.deferred (some []))) (.loop L));simp only [Instr.enterLoop,azY,run_newObj,azQ,aAe,T];rfl
      ·simp only [resolve,rangeCall,vg,Deferred.ofValue,List.map_toArray,List.map_cons,List.map_nil];rfl
      ·simp only [invoke];rw [v5]
      ·rintro e1 w3 ⟨y3,vd,rfl,q1,q2,q3⟩;obtain⟨b3,sh3,vl⟩:=q2.live hl;have wa:b3=w.heap.size+1:=by
        obtain⟨m',g1,g2⟩:=q3.ext.some_ (pZ.kL ρ H.next (some ((n9 w (.deferred (some []))).heap.size,(⟨0,0⟩:Sh))));rw [vl]at g1;cases g1;rcases g2 with g2 |g2
        ·cases g2;exact T
        ·cases g2
       subst wa;obtain⟨L3,wb,U⟩:=q2.apA hl vl;have wc:L3.state≠ .busy:=by
        rw [U.st];intro vm;rw [vm]at k;cases k
       obtain⟨d1,d2⟩:=q2.drop (λ_ e=>by cases e) hl vl (o':= .loop {L3 with state:= .exhausted});have z:=(v8.trans q3).trans d2;have wd:(Instr.endLoop (w.heap.size+1)).run P w3= .ok L3.pending (qZ w3 (w.heap.size+1) (.loop {L3 with state:= .exhausted})):=by
        simp only [Instr.endLoop,azY,run_getLoop wb,azQ];rw [if_neg (by simpa using wc)];simp only [azY,QX wb,azQ,aAe]
       refine⟨_,_,wd, ?_⟩;have we:(n9 w (.deferred (some []))).heap[w.heap.size]? =some (.deferred (some [])):=Ot _ _;have V: ∀vn Hx,vR tab vn Hx w-> ¬Own vn Hx w.heap.size:=λvn Hx ww ⟨i,ob,s,hi,wx⟩=>by
        obtain⟨o,ho,_⟩:=ww.at_ hi wx;have:=gl ho;omega
       have Y:=(k2.trans q3).trans d2;have vo:Marks base vd (I.set H.next none) (qZ w3 (w.heap.size+1) (.loop {L3 with state:= .exhausted})) ({target:= .collected w.heap.size,args:= #[]} ::a.defers):=by
        refine⟨⟨w.heap.size,rfl,st.base, ?_, ?_,λd' wy wz=> ?_⟩,st.marks.frm z⟩
        ·rw [Y.gQ w.heap.size (by rw [T];omega) (V _ _ st.VG)];exact we
        ·exact λho=>V _ _ st.VG (Y.own w.heap.size (by rw [T];omega) ho)
        ·
         have: ∀(ds:List Deferred),Marks base ρ H w ds->d'∈ds->d'.target≠ .collected w.heap.size:=by
          intro ds;induction ds with
          |nil=>intro _ h;cases h
          |cons d ds ih=>
           rintro⟨⟨rr,t1,t2,t3,t4,t5⟩,vp⟩ h;rcases List.mem_cons.1 h with rfl |h
           ·rw [t1];intro e;cases e;have:=gl t3;omega
           ·exact ih vp h
         exact this _ st.marks wy wz
       have vq:St tab base vd f (I.set H.next none) (qZ w3 (w.heap.size+1) (.loop {L3 with state:= .exhausted})) {a with defers:=[{target:= .collected w.heap.size,args:= #[]}]++a.defers} :=
        ⟨st.f.mono z.ext,d1,vo,aAm st.base z.size⟩
       have u:=U.Be;have D:(match R.Be with |none=>some (AE.normal,f,I.set H.next none) |some j=>x j f (I.set H.next none))=some (e,f',H'):=by
        cases vj:R.st<;>rw [vj]at k<;>first |exact k |cases k
       generalize qZ w3 (w.heap.size+1) (.loop {L3 with state:= .exhausted})=W at vq z⊢;cases S:R.Be with
       |none=>
        rw [S]at D u;simp only [azn,azB]at D;obtain⟨rfl,rfl,rfl⟩:=D;cases ve:L3.pending with
        |some _=>rw [ve]at u;exact u.elim
        |none=>exact⟨trivial,vd,vq,z⟩
       |some j=>
        rw [S]at D u;simp only at D;cases ve:L3.pending with
        |none=>rw [ve]at u;exact u.elim
        |some j3=>
         rw [ve]at u;exact wpIn_mono (hx.wp _ _ _ _ _ _ D j3 u none (λh=>by cases h) base vd _ _ n vq (y.right z)) λwj a2 w2 h2=>Oh z h2
  |_=>rw [v4]at k;cases k
omit aBl aBr hx hxm hc aBt in
theorem TR {F:Fence} {n:Nat} {Q Q':Exit->Act->World->Prop} {b:Code} (h: ∀e a w,Q e a w->Q' e a w): ∀(m:Nat) {a:Act} {w:World},aA1 F n P b Q m a w->aA1 F n P b Q' m a w
 |0,_,_,hh=>hh
 |m+1,a,w,hh=>by
  rw [roundsIn_succ]at hh⊢;refine wpIn_mono hh λe a1 w1 h1=> ?_
  cases e<;>first |exact TR h m h1 |exact h _ _ _ h1
theorem alR:Nw P tab (nt x c):=by
 intro v f H e V W s;by_cases E:v= .fail
 ·subst E;simp [nt]at s
 by_cases K: ∃b,v= .loop b
 ·obtain⟨b,rfl⟩:=K;simp only [nt]at s;cases G:x b f H with
  |none=>rw [G]at s;cases s
  |some t=>
   obtain⟨O,Y,Z⟩:=t;rw [G]at s;have q: ∀(u:Code),cOK tab (.loop b) u=true-> ∃z,u= .loop z/\cOK tab b z=true:=by
    intro u j;cases u<;>simp only [cOK,aAk]at j;exact⟨_,rfl,j⟩
   cases O with
   |normal=>
    simp only at s;have R:=hxm _ _ _ _ _ _ s;obtain⟨m,S⟩:=hx _ _ _ _ _ _ s;refine⟨m+1,λu j r k d A w a n D l=> ?_⟩;obtain⟨z,rfl,p⟩:=q u j;show aA1 _ _ _ _ _ (m+1) a w;rw [roundsIn_succ];refine wpIn_mono (hx.wp _ _ _ _ _ _ G z p r k d A w a n D (l.left R)) ?_;rintro N a1 w1 ⟨y,L,M,I⟩;rw [GB y];exact TR (λT a2 w2 U=>Oh I U) m (S (.loop z) j r k d L w1 a1 n M (l.right I))
   |exit id=>
    simp only [azn,azB]at s;obtain⟨rfl,rfl,rfl⟩:=s;refine⟨1,λu j r k d A w a n D l=> ?_⟩;obtain⟨z,rfl,p⟩:=q u j;show aA1 _ _ _ _ _ (0+1) a w;rw [roundsIn_succ];refine wpIn_mono (hx.wp _ _ _ _ _ _ G z p r k d A w a n D l) ?_;rintro N a1 w1 ⟨y,h⟩;rw [Nl y];exact⟨rfl,h⟩
   |ret=>
    simp only [azn,azB]at s;obtain⟨rfl,rfl,rfl⟩:=s;refine⟨1,λu j r k d A w a n D l=> ?_⟩;obtain⟨z,rfl,p⟩:=q u j;show aA1 _ _ _ _ _ (0+1) a w;rw [roundsIn_succ];refine wpIn_mono (hx.wp _ _ _ _ _ _ G z p r k d A w a n D l) ?_;rintro N a1 w1 ⟨y,h⟩;rw [RM y];exact⟨trivial,h⟩
 ·refine⟨0,λu j r k d A w a n D l=> ?_⟩;have:=asi aBl aBr hx hxm hc aBt s (λb e=>K ⟨b,e⟩) j r k d A w a n D l;cases u<;>first |exact this |(cases v<;>first |exact absurd rfl E |(simp only [cOK,aAk]at j;done) |exact absurd ⟨_,rfl⟩ K)
end
structure EW (P:Program) (tab:Fu) (E:Env):Prop where
 fn: ∀g F,E.fn g=some F-> ∃fn,P.funcs[g]? =some fn/\asP tab F fn=true
 ext: ∀g p,E.ext g=some p-> ∀args H v H',p args H=some (v,H')->atJ P tab g args H v H'
 vP: ∀g args v,E.vP g args=some v->Enters P g/\ ∀ρ H w (aBo:Array Value),ca ρ args aBo.toList->vR tab ρ H w-> ∀n r,CallsIn (Fr r) n P g aBo w (aa1 tab v H ρ H w)
theorem AF.ac6: ∀vs m i j,(AF.Zx m i vs).get j=if i<=j/\j<i+vs.length then vs[j-i]? else m.get j
 | [],m,i,j=>by simp [AF.Zx];intro a b;omega
 |v::vs,m,i,j=>by
  rw [AF.Zx,AF.ac6 vs,PT.mK];by_cases a:j=i
  ·subst a;rw [if_neg aa,if_pos rfl,if_pos ab];simp
  ·by_cases b:i+1<=j/\j<i+1+vs.length
   ·rw [if_pos b,if_pos ae];rw [show j-i=(j-(i+1))+1 by omega,List.getElem?_cons_succ]
   ·rw [if_neg b,if_neg a,if_neg ae]
theorem AF.Mg a n i:(AF.init a n).get i=(a[i]?).getD .undef:=by
 simp only [AF.get,AF.init];rw [AF.ac6];by_cases h:i<a.length
 ·rw [if_pos aa];simp [h]
 ·rw [if_neg aa,PT.aet,List.getElem?_eq_none aa];rfl
theorem yE.init (h:ca ρ b a.toList) n:yE ρ (AF.init b n) (a++Array.replicate (n-a.size) undef):=by
 have f:a.size=b.length:=by rw [<-Array.length_toList,h.length]
 refine⟨by simp [AF.init,f];omega,λi=> ?_⟩;rw [AF.Mg];rw [Array.getD_eq_getD_getElem?];by_cases c:i<b.length
 ·obtain⟨y,d,j⟩:=h.get i b[i] (by simp [c]);rw [Array.getElem?_append_left aa];rw [Array.getElem?_toList]at d;rw [d];simpa [c]using j
 ·rw [List.getElem?_eq_none aa];rw [Array.getElem?_append_right aa,Array.getElem?_replicate];simp only [Option.getD_none];split<;>exact bT.undef
section
variable {P:Program} {tab:Fu} (aBl:yA P tab)
include aBl
theorem XA {a:Act} (T:yE ρ f a.tmps) (Q:vR tab ρ H w): ∀rs R l,Kl tab rs R=true->fp f H rs=some l->
  ∃vs,(R.mapM λq=>(match q with | .tmp t=>pure (a.tmps.getD t undef) | .cell c t=>do loadVar t (<-asAddr (a.tmps.getD c undef)):Sem Value)).run P w= .ok vs w/\ca ρ l vs
 | [],[],l,_,h=>by simp [fp]at h;subst h;exact⟨[],ab,trivial⟩
 |r::rs,q::R,l,u,h=>by
  have F:Kl tab rs R=true/\ ∀v,mE f H r=some v-> ∃y,(match q with | .tmp t=>pure (a.tmps.getD t undef) | .cell c t=>do loadVar t (<-asAddr (a.tmps.getD c undef)):Sem Value).run P w= .ok y w/\bT ρ v y:=by
   cases r with
   |t i=>
    cases q with
    |tmp j=>
     simp only [Kl,azl]at u;have A:i=j:=azy u.1;subst A;exact⟨u.2,λv z=>by simp only [mE,azn]at z;subst z;exact⟨_,rfl,T.2 i⟩⟩
    |cell _ _=>simp [Kl]at u
   |c1 i=>
    cases q with
    |tmp j=>simp [Kl]at u
    |cell j t=>
     simp only [Kl,azl]at u;obtain⟨⟨A,d⟩,D⟩:=u;have A:i=j:=azy A;subst A;refine⟨D,λv z=> ?_⟩;cases K:tab.get t with
     |none=>rw [K]at d;cases d
     |some k=>
      rw [K]at d;simp only [aAx]at d;have hx:=T.2 i;simp only [mE]at z;cases G:f.get i with
      |ptr p=>
       rw [G]at z hx;rcases p with _ |⟨W,po⟩
       ·cases z
       ·simp only at z;cases U:H.get W with
        |none=>rw [U]at z;cases z
        |some ob=>
         rw [U]at z;cases ob with
         |map=>cases z
         |loop=>cases z
         |cells c ro=>
          obtain⟨b,s,I⟩:=Q.live U;obtain⟨m,S,ad,L,Y⟩:=hx;rw [I]at S;cases S;obtain⟨y,M,N⟩:=Q.asq U I z;have:=Y b s rfl;subst this;refine⟨y, ?_,N⟩;simp only [azY,L,asAddr,aAe,azQ,loadVar,(aBl _ _ K).Hm w,d,aAk,if_false,run_load M]
      |_=>rw [G]at z;cases z
   |cN i n=>
    cases q with
    |tmp j=>simp [Kl]at u
    |cell j t=>
     simp only [Kl,azl]at u;obtain⟨⟨A,d⟩,D⟩:=u;have A:i=j:=azy A;subst A;refine⟨D,λv z=> ?_⟩;cases K:tab.get t with
     |none=>rw [K]at d;cases d
     |some k=>
      rw [K]at d;simp only [azl]at d;have hn:k.size=n:=azy d.2;have hx:=T.2 i;simp only [mE]at z;cases G:f.get i with
      |ptr p=>
       rw [G]at z hx;rcases p with _ |⟨W,po⟩
       ·cases z
       ·simp only at z;cases V:db H (W,po) n with
        |none=>rw [V]at z;cases z
        |some cs=>
         rw [V]at z;cases z;obtain⟨b,s,I⟩:=GQ Q V;obtain⟨m,S,ad,L,Y⟩:=hx;rw [I]at S;cases S;obtain⟨hl,Z⟩:=Q.ai3 V I;have:=Y b s rfl;subst this;obtain⟨vs,g1,g2⟩:=zX (P:=P) hl Z;refine⟨.agg vs, ?_,vs,rfl,g2⟩;simp only [azY,L,asAddr,aAe,azQ,loadVar,(aBl _ _ K).Hm w,d.1,if_true,(aBl _ _ K).run_sizeOf w,hn,g1]
      |_=>rw [G]at z;cases z
  simp only [fp]at h;cases I:mE f H r with
  |none=>rw [I]at h;cases h
  |some v=>
   rw [I]at h;simp only at h;cases O:fp f H rs with
   |none=>rw [O]at h;cases h
   |some l'=>
    rw [O]at h;cases h;obtain⟨y,M,N⟩:=F.2 v I;obtain⟨vs,g1,g2⟩:=XA T Q rs R l' F.1 O;refine⟨y::vs, ?_,N,g2⟩;simp only [List.mapM_cons,azY,aAe];rw [M];simp only [azQ];rw [g1];rfl
 | [],_::_,_,u,_=>by simp [Kl]at u
 |r::_,[],_,u,_=>by cases r<;>simp [Kl]at u
theorem X7 (y:w0.heap.size=base)
  (L: ∀w,vR tab ρ H w->Gu ρ0 H0 w0 ρ H w-> ∃v,(results V k).run P w= .ok v w/\R (.returned v) w):
  ∀p w,vR tab ρ H w->Gu ρ0 H0 w0 ρ H w->Marks base ρ H w p->LeavesInM (Fr none) n P V k R p .returning w
 | [],w,h,f,_=>L w h f
 |d::p,w,h,f,⟨⟨r,W,h2,t,M,Y⟩,j⟩=>by
  refine⟨ab,.inl ⟨r,qZ w r (.deferred none),W, ?_, ?_⟩⟩
  ·simp only [Instr.takeDeferred,azY,ae5 (P:=P) t (λ_ _ _ e=>by cases e),azQ,afF (P:=P) t (λ_ _ _ e=>by cases e),aAe]
  ·have z:=gl t;have a: ∀b,b≠r->(qZ w r (.deferred none)).heap[b]? =w.heap[b]? :=λb y=>by rw [rM _ _ _ _ z,if_neg (λe=>y e.symm)]
   refine X7 y L p _ ⟨⟨λi N u=> ?_,h.inj,h.PU⟩,by rw [a _ (λe=>by have O:=h.lay.1;rw [e,t]at O;exact O)];exact h.lay.1,h.lay.2⟩ ⟨by rw [Nd];exact f.size,f.ext,f.next,f.out,λb A D=> ?_,f.own,f.stay,f.live,f.low,f.os,f.output,f.tape,λi c b s u Z=>let⟨a1,Q,S⟩:=f.fix i c b s u Z;⟨by rw [a b (λe=>by subst e;exact M ⟨i,_,s,Q,S⟩)];exact a1,Q,S⟩⟩ ?_
   ·obtain⟨b,s,o,T,g2,g3⟩:=h.obj i N u;refine⟨b,s,o,T, ?_,g3⟩;rw [a b (λe=>by subst e;exact M ⟨i,N,s,u,T⟩)];exact g2
   ·rw [a b aa];exact f.gQ b A D
   ·have: ∀(l:List Deferred),(∀F∈l,F.target≠ .collected r)->Marks base ρ H w l->Marks base ρ H (qZ w r (.deferred none)) l:=by
     intro l;induction l with
     |nil=>intro _ _;trivial
     |cons d l ih=>
      rintro q ⟨⟨G,U,t2,t3,t4,t5⟩,hm⟩;have I:G≠r:=λe=>by subst e;exact q d ab U
      exact⟨⟨G,U,t2,by rw [a G I];exact t3,t4,t5⟩,ih (λF K=>q F (by simp [K])) hm⟩
    exact this p Y j
end
section
variable {P:Program} {tab:Fu} (aBl:yA P tab) {x:XF} (hx:Nw P tab x) {E:Env} (hE:EW P tab E)
include aBl hx hE
theorem akn:ac1 P tab (ID E x):=by
 intro g j H v H' a;simp only [ID]at a;cases Z:E.vP g j with
 |some v1=>
  rw [Z]at a;cases a;obtain⟨h1,h2⟩:=hE.vP g j _ Z;exact .inl ⟨h1,λM w b ha hs _ n r=>h2 M _ w b ha hs n r⟩
 |none=>
  rw [Z]at a;simp only at a;cases D:E.ext g with
  |some p=>
   rw [D]at a;simp only at a;cases G:p j H with
   |none=>rw [G]at a;cases a
   |some v1=>
    obtain⟨v1,I⟩:=v1;rw [G]at a;obtain⟨_,a⟩:=bF a;cases a;exact hE.ext g p D j _ _ _ G
  |none=>
  rw [D]at a;simp only at a;cases hf:E.fn g with
  |none=>rw [hf]at a;cases a
  |some F=>
   rw [hf]at a;simp only at a;obtain⟨A,N,O⟩:=hE.fn g F hf;simp only [asP,azl]at O;obtain⟨⟨⟨va,Q⟩,d⟩,K⟩:=O;have R:F.ntmps=A.ntmps:=azy va;cases Y:A.body with
   |none=>rw [Y]at d;cases d
   |some cb=>
    rw [Y]at d;simp only at d;refine .inl ⟨λj w=> ?_,λM w b ha hs vc n r=> ?_⟩
    ·have y : (A.name == "runtime.NumGoroutine") = false := by simpa using K
     have vd:(program:Sem Program).run P w= .ok P w:=rfl;simp only [callFunc,azY,vd,azQ,N,y,Y];rfl
    ·cases z:x F.body (AF.init j F.ntmps) H with
     |none=>rw [z]at a;cases a
     |some t=>
      obtain⟨e1,f1,I⟩:=t;rw [z]at a;have S: ∃l,(e1= .normal\/e1= .ret)/\fp f1 I F.res=some l/\I=H'/\(match l with | [v1]=>v=v1 |l=>v= .tuple l):=by
       cases e1 with
       |exit i=>cases a
       |normal=>
        simp only at a;cases T:fp f1 I F.res with
        |none=>rw [T]at a;cases a
        |some l=>
         rw [T]at a;refine⟨l,.inl rfl,rfl, ?_⟩
         match l,a with
         | [],a=>cases a;exact⟨rfl,rfl⟩
         | [v1],a=>cases a;exact⟨rfl,rfl⟩
         |v1::v2::l,a=>cases a;exact⟨rfl,rfl⟩
       |ret=>
        simp only at a;cases T:fp f1 I F.res with
        |none=>rw [T]at a;cases a
        |some l=>
         rw [T]at a;refine⟨l,.inr rfl,rfl, ?_⟩
         match l,a with
         | [],a=>cases a;exact⟨rfl,rfl⟩
         | [v1],a=>cases a;exact⟨rfl,rfl⟩
         |v1::v2::l,a=>cases a;exact⟨rfl,rfl⟩
      obtain⟨l,ve,vf,rfl,k⟩:=S;have vg:=yE.init ha A.ntmps;rw [R]at z;suffices vh:CallsIn (Fr none) n P g b w (aa1 tab v I M H w)from vh
      refine callsIn_of_wp_marks (F:=Fr none) N Y trivial ?_;have hw:=hx.wp _ _ _ _ _ _ z cb d none (λh=>by cases h) w.heap.size M w {tmps:=b++Array.replicate (A.ntmps-b.size) undef,defers:=[]} n ⟨vg,hs,trivial,azv _⟩ vc;refine wpIn_mono hw ?_;rintro ex U w1 ⟨V,vj,L,vk⟩;have s:LeavesInM (Fr none) n P A U.tmps (aa1 tab v I M H w) U.defers .returning w1:=by
       refine X7 aBl (base:=w.heap.size) (ρ0:=M) (H0:=H) (w0:=w) rfl (λw2 W vl=> ?_) U.defers w1 L.VG vk L.marks;obtain⟨vs,g1,u⟩:=XA (P:=P) aBl L.f W F.res A.results.toList l Q vf;have hm:(A.results.mapM λq:ResultVar=>(match q with | .tmp t=>pure (U.tmps.getD t undef) | .cell c t=>do loadVar t (<-asAddr (U.tmps.getD c undef)):Sem Value)).run P w2= .ok vs.toArray w2:=by
        rw [Array.mapM_eq_mapM_toList];simp only [Sem.run_map,g1,azQ]
       refine⟨if h:vs.toArray.size=1 then vs.toArray[0]else .tuple vs.toArray, ?_,⟨_,vj,rfl, ?_,W,vl⟩⟩
       ·unfold results;rw [azY];refine Eq.trans (congrArg (λr=>Result.andThen r _) hm) ?_;rfl
       ·match l,vs,u,k with
        | [],[],_,k=>subst k;exact⟨#[],rfl,trivial⟩
        | [v1],[y1],u,k=>subst k;simpa using u.1
        |v1::v2::l,y1::y2::ys,u,k=>
         subst k;simp;exact⟨_,rfl,by simpa using u⟩
        | [],_::_,u,_=>exact u.elim
        |_::_,[],u,_=>exact u.elim
        | [_],_::_::_,u,_=>exact u.2.elim
        |_::_::_,[_],u,_=>exact u.2.elim
      rcases ve with rfl |rfl
      ·rw [GB V];exact s
      ·rw [RM V];exact s
end
theorem ZC (aBl:yA P tab) (a:P.follows .mixedOrders=true) (hE:EW P tab E): ∀n,Nw P tab (exec E n)/\ac1 P tab (Dg E n)
 |0=>⟨λ_ _ _ _ _ _ h=>(by rw [ahi]at h;cases h),λ_ _ _ _ _ h=>(by rw [aex]at h;cases h)⟩
 |n+1=>by
  obtain⟨b,c⟩:=ZC aBl a hE n;obtain⟨d,f⟩:=Wm E n;exact⟨by rw [Sa];exact alR aBl a b d c f,by rw [Ns];exact akn aBl b hE⟩
def u9 {α c:Type} (f:α->Option c):List α->Option (List c)
 | []=>some []
 |a::aCL=>match f a with |some b=>(match u9 f aCL with |some d=>some (b::d) |none=>none) |none=>none
def Ja:Nat->Value->Option AV
 |_,.int k n=>some (.int k n)
 |_,.bool b=>some (.bool b)
 |_,.string s=>some (.str s.data.toList)
 |_,.pointer none=>some (.ptr none)
 |_,.slice none _ _=>some (.slice none 0 0 0)
 |_,.map none=>some (.map none)
 |_,.nilFunc=>some .nilFunc
 |_,.nilIface=>some .nilIface
 |n+1,.agg a=>match u9 (Ja n) a.toList with |some l=>some (.agg l) |none=>none
 |n+1,.tuple a=>match u9 (Ja n) a.toList with |some l=>some (.tuple l) |none=>none
 |_,_=>none
def RD:Operand->Option AX
 | .tmp i=>some (.t i)
 | .const v=>match Ja 3 v with |some x=>some (.c x) |none=>none
 | .func f=>some (.c (.func f [] []))
 | .global _=>none
def isC:Operand->Bool
 | .const _=>true
 |_=>false
def atO:Option Operand->Option (Option AX)
 |none=>some none
 |some x=>match RD x with |some y=>some (some y) |none=>none
section
variable (tab:Fu)
def afJ (a:Nat->Option (Nat×Nat)):List (Nat×Operand)->Option (List (Nat×Nat×AX))
 | []=>some []
 |(k,x)::r=>match a k,RD x,afJ a r with
  |some (o,s),some y,some l=>some ((o,s,y)::l)
  |_,_,_=>none
def aj5:TypeDesc->Option LKd
 | .int _=>some .int
 | .bool=>some .bool
 | .string=>some .str
 |_=>none
def au0 (i:TI):Option EK:=
 match i.u with
 | .bool=>some .bool
 | .slice _=>some .sn
 | .func _ _ _=>some .EH
 | .interface _=>some .Fs
 | .pointer _=>some .ptr
 | .struct a=>match u9 (λf:Field=>match tab.get f.type with |some j=>aj5 j.u |none=>none) a.toList with |some l=>some (.leaves l) |none=>none
 | .array n e=>match tab.get e with |some j=>(match aj5 j.u with |some k=>some (.leaves (List.replicate n k)) |none=>none) |none=>none
 |_=>none
def HO (f:AX->PH) (x:Operand):Option PH:=match RD x with |some a=>some (f a) |none=>none
def IY (f:AX->AX->PH) (x y:Operand):Option PH:=match RD x,RD y with |some a,some b=>some (f a b) |_,_=>none
def azD (f:AX->AX->AX->PH) (x y z:Operand):Option PH:=match RD x,RD y,RD z with |some a,some b,some c=>some (f a b c) |_,_,_=>none
def amO (kt:TypeId):Option Bool:=match tab.get kt with |some i=>(match i.u with | .int _=>some false | .string=>some true |_=>none) |none=>none
def awg (o:Oper) (c:Call):Option PH:=
 match c.callee with
 | .value f=>match RD f,u9 RD c.args.toList with |some g,some a=>some (.call g a) |_,_=>none
 | .builtin .len=>match c.args.toList,c.argTypes.toList with
  | [x],[t]=>match tab.get t with
   |some i=>(match i.u with | .string=>HO (.len .str) x | .slice _=>HO (.len .slice) x | .map _ _=>HO (.len .map) x | .array n _=>HO (.len (.arr n)) x |_=>none)
   |none=>none
  |_,_=>none
 | .builtin .cap=>match c.args.toList,c.argTypes.toList with
  | [x],[t]=>match tab.get t with
   |some i=>(match i.u with | .slice _=>HO (.len .cap) x |_=>none)
   |none=>none
  |_,_=>none
 | .builtin .unsafeSliceData=>match c.args.toList with
  | [x]=>HO .LG x
  |_=>none
 | .builtin .unsafeString=>match c.args.toList,c.argTypes.toList with
  | [x,y],t::_=>match tab.get t with
   |some i=>(match i.u with | .pointer e=>IY (.Qo e) x y |_=>none)
   |none=>none
  |_,_=>none
 | .builtin .append=>match c.args.toList,c.argTypes.toList with
  | [x,y],t::u::_=>match tab.get t with
   |some i=>(match i.u with | .slice e=>(match tab.get e with |some j=>IY ((match(match tab.get u with |some k=>k.u |none=> .bool)with | .int _=> .sL e j.zero j.bytes |_=> .append e j.zero j.bytes)) x y |none=>none) |_=>none)
   |none=>none
  |_,_=>none
 | .builtin .copy=>match c.args.toList,c.argTypes.toList with
  | [x,y],t::_=>match tab.get t with
   |some i=>(match i.u with | .slice e=>(match tab.get e with |some j=>IY (.copy j.size) x y |none=>none) |_=>none)
   |none=>none
  |_,_=>none
 | .builtin .clear=>match c.args.toList,c.argTypes.toList with
  | [x],t::_=>match tab.get t with
   |some i=>(match i.u with | .slice e=>(match tab.get e with |some j=>HO (.clear j.zero) x |none=>none) |_=>none)
   |none=>none
  |_,_=>none
 | .builtin .delete=>match c.args.toList,c.argTypes.toList with
  | [x,y],t::_=>match tab.get t with
   |some i=>(match i.u with | .map kt _=>(match amO tab kt with |some b=>IY (.del b) x y |none=>none) |_=>none)
   |none=>none
  |_,_=>none
 | .builtin .max=>match u9 RD c.args.toList with |some a=>some (.CR true a) |none=>none
 | .builtin .min=>match u9 RD c.args.toList with |some a=>some (.CR false a) |none=>none
 |_=>none
def azq (o:Oper):Option PH:=
 match o.op with
 | .move x | .assign x=>HO .mv x
 | .pick c a b=>azD .pick c a b
 | .alloc t=>match tab.get t with |some i=>some (.alloc t i.zero) |none=>none
 | .box _ x=>HO .box x
 | .build t r=>match tab.get t with
  |some i=>(match afJ (placeOf tab i.u) r.toList with |some l=>some (.build i.zero l) |none=>none)
  |none=>none
 | .buildSlice t v r=>match tab.get t with
  |some i=>(match i.u with
   | .slice e=>(match tab.get e with
    |some j=>(match afJ (λk=>some (k*j.size,j.size)) r.toList with |some l=>some (.BG j.zero v l) |none=>none)
    |none=>none)
   |_=>none)
  |none=>none
 | .load t a=>match tab.get t with |some i=>cond (VA i.u) (HO (.yS i.size) a) (HO .ng a) |none=>none
 | .store t a x=>match tab.get t with |some i=>IY (.store i.size) a x |none=>none
 | .nilCheck x=>HO .GN x
 | .binOp h t x y _=>match tab.get t with
  |some i=>(match h,i.u with
   | .eql,.int _ | .eql,.string | .neq,.int _ | .neq,.string=>IY (.bin h) x y
   | .eql,.pointer _=>(match isC x ||isC y with |true=>IY (.eqv false .ptr) x y |false=>IY (.peq false) x y)
   | .neq,.pointer _=>(match isC x ||isC y with |true=>IY (.eqv true .ptr) x y |false=>IY (.peq true) x y)
   | .eql,.interface _=>(match isC x ||isC y with |true=>IY (.eqv false .Ld) x y |false=>IY (.eqv false .Fs) x y)
   | .neq,.interface _=>(match isC x ||isC y with |true=>IY (.eqv true .Ld) x y |false=>IY (.eqv true .Fs) x y)
   | .eql,_=>(match au0 tab i with |some e=>IY (.eqv false e) x y |none=>none)
   | .neq,_=>(match au0 tab i with |some e=>IY (.eqv true e) x y |none=>none)
   |_,_=>IY (.bin h) x y)
  |none=>none
 | .unOp h _ x=>HO (.un h) x
 | .convert s d x=>match tab.get s,tab.get d with
  |some i,some j=>(match i.u,j.u with
   | .int _,.int k=>HO (.conv (.int k)) x
   | .string,.string=>HO (.conv .str) x
   | .slice _,.string=>HO (.conv .bytes) x
   | .string,.slice _=>HO (.conv .CL) x
   | .pointer _,.unsafePointer=>HO (.conv .toU) x
   | .unsafePointer,.pointer e=>(match tab.get e with |some l=>HO (.conv (.ofU e l.size)) x |none=>none)
   |_,_=>none)
  |_,_=>none
 | .makeInterface t x=>HO (.iface t) x
 | .makeFunc (.func g) a b=>match u9 RD a.toList,u9 RD b.toList with |some E,some F=>some (.Kc g E F) |_,_=>none
 | .makeMap _ none=>some .P2
 | .makeSlice t l c=>match tab.get t with
  |some i=>(match i.u with | .slice e=>(match tab.get e with |some j=>IY (.zy j.zero j.bytes) l c |none=>none) |_=>none)
  |none=>none
 | .slice t x G H I=>match tab.get t,RD x,atO G,atO H,atO I with
  |some i,some D,some p,some q,some w=>(match i.u with
   | .string=>some (.Aw D p q)
   | .slice e=>(match tab.get e with |some j=>some (.slice j.size D p q w) |none=>none)
   |_=>none)
  |_,_,_,_,_=>none
 | .field t x k=>match tab.get t with
  |some i=>(match i.u with
   | .struct z=>(match z.toList[k]? with |some f=>(match tab.get f.type with |some j=>HO (.fld f.offset j.size (VA j.u)) x |none=>none) |none=>none)
   |_=>none)
  |none=>none
 | .fieldAddr t x k=>match tab.get t with
  |some i=>(match i.u with | .struct z=>(match z.toList[k]? with |some f=>HO (.qF f.offset) x |none=>none) |_=>none)
  |none=>none
 | .indexAddr t x y=>match tab.get t with
  |some i=>(match i.u with
   | .slice e=>(match tab.get e with |some j=>IY (.AL j.size) x y |none=>none)
   | .array n e=>(match tab.get e with |some j=>IY (.FK n j.size) x y |none=>none)
   |_=>none)
  |none=>none
 | .index t x y=>match tab.get t with
  |some i=>(match i.u with
   | .string=>IY .Nq x y
   | .array n e=>(match tab.get e with |some j=>IY (.Zc n j.size (VA j.u)) x y |none=>none)
   |_=>none)
  |none=>none
 | .lookup t m k K=>match tab.get t with
  |some i=>(match i.u with
   | .map kt e=>(match amO tab kt,tab.get e with |some A,some j=>IY (.look j.zv K A) m k |_,_=>none)
   |_=>none)
  |none=>none
 | .mapUpdate t m k x | .insert t m k x=>match tab.get t with
  |some i=>(match i.u with | .map kt _=>(match amO tab kt with |some A=>azD (.Q4 A) m k x |none=>none) |_=>none)
  |none=>none
 | .extract x i=>HO (λy=> .ext y i) x
 | .call c=>awg tab o c
 |_=>none
def ayU (o:Oper):Option PH:=
 match(match azq tab o with |some a=>cond (ef tab o a) (some a) none |none=>none)with
 |some a=>some a
 |none=>match o.op with | .defer _=>none |_=>some .fail
def apr (a:Array Oper) (o:Oper):Option bU:=
 match ayU tab o with
 |none=>none
 |some op=>match o.guard with
  |none=>some {dst:=o.dst,op:=op,g:=none}
  |some (j,b)=>match a[j]? with
   |some c=>(match c.dst with |some d=>some {dst:=o.dst,op:=op,g:=some (d,b)} |none=>none)
   |none=>none
def anZ (m a:Nat):Nat->List Nat
 |0=> []
 |n+1=>anZ m a n++(cond (azR m n&& !azR a n) [n] [])
def anw (b:List Nat) (N:Nat):List Nat->Nat->List Nat
 | [],a=>anZ (2^N-1) a N
 |e::c,a=>let m:=b.getD e 0
  cond (azR a e) (anw b N c a) (anZ m a N++e::anw b N c (a |||m |||2^e))
def ayW:List bU->Nat->List Nat
 | [],_=> []
 |o::a,i=>match cls o.op with | .E=>i::ayW a (i+1) |_=>ayW a (i+1)
def avg (ops:List Oper) (aCL:List bU):List (Nat×Nat):=
 let a:=sd [] ops
 (anw a ops.length (ayW aCL 0) 0).map λi=>(i,a.getD i 0)
def ahz:Code->Option dy
 | .skip=>some .skip
 | .region _ c false=>match u9 (apr tab c) c.toList with |some aCL=>some (.region aCL) |none=>none
 | .region _ c true=>match u9 (apr tab c) c.toList with |some aCL=>cond (aiq c.toList aCL (avg c.toList aCL)) (some (.lN aCL (avg c.toList aCL))) (some .fail) |none=>none
 | .seq a b=>match ahz a,ahz b with |some x,some y=>some (.seq x y) |_,_=>none
 | .cond v a b=>match RD v,ahz a,ahz b with |some u,some x,some y=>some (.cond u x y) |_,_,_=>none
 | .block i b=>match ahz b with |some x=>some (.block i x) |none=>none
 | .loop b=>match ahz b with |some x=>some (.loop x) |none=>none
 | .rangeFunc f d a b=>match RD f,ahz a,ahz b with |some g,some x,some y=>some (.ou g d.toList x y) |_,_,_=>none
 | .exit i=>some (.exit i)
 | .ret=>some .ret
 |_=>some .fail
def ayF:ResultVar->Option afj
 | .tmp i=>some (.t i)
 | .cell i t=>match tab.get t with |some k=>some (cond (VA k.u) (.cN i k.size) (.c1 i)) |none=>none
def auU (a:Func):Option AFn:=
 match a.body with
 |none=>none
 |some c=>match ahz tab c,u9 (ayF tab) a.results.toList with
  |some b,some d=>cond (asP tab {ntmps:=a.ntmps,res:=d,body:=b} a) (some {ntmps:=a.ntmps,res:=d,body:=b}) none
  |_,_=>none
end
def ayQ (P:Program) (t:TypeId):Option TI:=
 match P.underlying t,P.info? t with
 |some u,some a=>match a.zero with
  |some z=>match u9 (Ja 3) z.cells.toList,Ja 3 z with
   |some l,some v=>
    cond (akc l z.cells.toList&&vOK v z&&azm z.cells.size a.size)
     (some {u:=u,size:=a.size,bytes:=a.bytes,zero:=l,zv:=v,plain:= !P.eqGuardType P.depth t&& !P.stoodInHeld t}) none
   |_,_=>none
  |none=>none
 |_,_=>none
theorem awY (h:ayQ P t=some i):Ys P t i:=by
 simp only [ayQ]at h;cases b:P.underlying t with
 |none=>rw [b]at h;cases h
 |some u=>
  cases d:P.info? t with
  |none=>rw [b,d]at h;cases h
  |some a=>
   rw [b,d]at h;simp only at h;cases f:a.zero with
   |none=>rw [f]at h;cases h
   |some z=>
    rw [f]at h;simp only at h;cases j:u9 (Ja 3) z.cells.toList with
    |none=>rw [j]at h;cases h
    |some l=>
     cases n:Ja 3 z with
     |none=>rw [j,n]at h;cases h
     |some v=>
      rw [j,n]at h;obtain⟨c,k⟩:=bF h;cases k;simp only [azl]at c;obtain⟨⟨c,k⟩,q⟩:=c;refine⟨b,λp=> ?_,a,z,d,rfl,rfl,f,azy q,λr=>Sj _ _ c,λr=>ado _ _ k⟩;simp only [azl,aAx]at p;exact p
def akS (P:Program):List TypeId->Fu
 | []=> .leaf
 |t::a=>PT.set (akS P a) t (ayQ P t)
theorem akY P: ∀a,yA P (akS P a)
 | [],t,i,h=>by simp [akS,PT.aet]at h
 |t0::a,t,i,h=>by
  rw [akS,PT.mK]at h;by_cases e:t=t0
  ·rw [if_pos e]at h;subst e;exact awY h
  ·rw [if_neg e]at h;exact akY P a t i h
def att (P:Program) (tab:Fu) (vP:Nat->List AV->Option AV) (ext:Nat->Option (List AV->AH->Option (AV×AH))):Env:=
 {fn:=λg=>match P.funcs[g]? with |some fn=>auU tab fn |none=>none,vP:=vP,ext:=ext}
theorem atv (h:auU tab a=some F):asP tab F a=true:=by
 simp only [auU]at h;split at h
 ·cases h
 ·split at h
  ·obtain⟨b,c⟩:=bF h;cases c;exact b
  ·cases h
theorem atH
  (f: ∀g p,ext g=some p-> ∀a H v H',p a H=some (v,H')->Rj a=true/\ ∀ρ w b,ca ρ a b.toList->vR tab ρ H w->uM ρ H H'->aiS P tab g b v H' ρ H w)
  (j: ∀g a v,c g a=some v->Enters P g/\ ∀ρ H w b,ca ρ a b.toList->vR tab ρ H w-> ∀n r,CallsIn (Fr r) n P g b w (aa1 tab v H ρ H w)):EW P tab (att P tab c ext):=
 ⟨λg F h=>by
  simp only [att]at h;cases d:P.funcs[g]? with
  |none=>rw [d]at h;cases h
  |some k=>rw [d]at h;exact⟨k,rfl,atv h⟩,λg p h a H v H' e=> .inr (f g p h a H v H' e),j⟩
def ap8 (P:Program) (tab:Fu) (g:Nat) (p:List AV->AH->Option (AV×AH)):Prop:= ∀a H v d,p a H=some (v,d)->Rj a=true/\
 ∀c w (b:Array Value),ca c a b.toList->vR tab c H w->uM c H d->aiS P tab g b v d c H w
def aaP (c:Int):List UInt8->Nat->Int
 | [],_=> -1
 |b::a,i=>cond (Int.same (aAg b.toNat) c) (aAg i) (aaP c a (i+1))
def pb:List AV->AH->Option (AV×AH)
 | [.str s,.int .u8 (.ofNat n)],h=>cond (aAv n 256) (some (.int .i64 (aaP (.ofNat n) s 0),h)) none
 |_,_=>none
def Y5:List AV->AH->Option (AV×AH)
 | [.ptr a],h=>some (.ptr a,h)
 |_,_=>none
def Yw (e:Nat):List AV->AH->Option (AV×AH)
 | [.int .i64 (.ofNat n)],h=>cond (aAh n 1099511627776) (some (.slice (some (h.next,0)) n 0 1,h.new (.cells [] false (some (e,true))))) none
 |_,_=>none
def run_callFunc_extern {g : Nat} (h : P.funcs[g]? = some c) (a : (c.name == "runtime.NumGoroutine") = false) (j : c.body.isNone = true)
  (k:Extern.findNext c=none) (l:Extern.find c=some e) (n:(e b).run P w= .ok y w'):(callFunc g b).run P w= .ok (.value y) w':=by
 have d:(program:Sem Program).run P w= .ok P w:=rfl;have f:(mark (.extern g)).run P w= .ok () w:=rfl;simp only [callFunc,azY,d,azQ,h,a,j,k,l,f,n,aAk,if_false,if_true,aAe]
def aaV c: ∀s pre,(match(List.range' pre.length s.length).find? (λi=>(ByteArray.mk (pre++s).toArray)[i]! ==c)with |some i=>i |none=> -1)=aaP (.ofNat c.toNat) s pre.length
 | [],pre=>rfl
 |b::s,pre=>by
  have a:(ByteArray.mk (pre++b::s).toArray)[pre.length]! =b:=by
   rw [getElem!_pos _ _ (by simp [ByteArray.size])];simp [ByteArray.getElem_eq_getElem_data]
  simp only [List.length_cons,List.range'_succ,List.find?_cons,a,aaP];by_cases h:b=c
  ·subst h;have:Int.same (aAg b.toNat) (.ofNat b.toNat)=true:=by simp [Int.same]
   rw [this];simp
  ·have d:(b==c)=false:=by simpa using h
   have f:Int.same (aAg b.toNat) (.ofNat c.toNat)=false:=by
    cases j:Int.same (aAg b.toNat) (.ofNat c.toNat)with
    |false=>rfl
    |true=>exact absurd (UInt8.toNat_inj.1 (by simpa [Int.same]using j)) h
   rw [d,f];have:=aaV c s (pre++ [b]);simpa using this
def agp (p : P.funcs[g]? = some c) (b : (c.name == "runtime.NumGoroutine") = false) (q : c.body.isNone = true)
  (r:Extern.findNext c=none) (t:Extern.find c=some aA4):ap8 P tab g pb:=by
 intro l H v K h;unfold pb at h;split at h
 ·rename_i s n;obtain⟨u,z⟩:=bF h;cases z;have A:n<256:=by simpa [aAp]using u
  refine⟨rfl,λD w a d E _=> ?_⟩;obtain⟨x,y,f⟩: ∃x y,a= #[x,y]:=by
   have:=d.length
   match F:a.toList,this with
   | [x,y],_=>exact⟨x,y,by rw [<-Array.toList_inj];exact F⟩
  subst f;have G:=bT.OA d.1;have I:=bT.PS d.2.1;subst G I;refine⟨.int .i64 (aaP (.ofNat n) s 0),w,D,run_callFunc_extern p b q r t ?_,rfl,E,.refl _ _ _⟩;have j:=aaV (UInt8.ofNat n) s [];have k:(UInt8.ofNat n).toNat=n:=by simp;omega
  rw [k]at j;simp only [List.length_nil,List.nil_append]at j;rw [<-j];have e:aA4 #[.string ⟨s.toArray⟩,.int .u8 (aAg n)]=(match(List.range (ByteArray.mk s.toArray).size).find? λi=>(ByteArray.mk s.toArray)[i]! ==UInt8.ofNat n with
   |some i=>pure (goInt i)
   |none=>pure (goInt (-1)):Sem Value):=rfl
  rw [e,jI,List.range_eq_range'];cases(List.range' 0 s.length).find? (λi=>(ByteArray.mk s.toArray)[i]! ==UInt8.ofNat n)<;>rfl
 ·cases h
def are (j : P.funcs[g]? = some c) (b : (c.name == "runtime.NumGoroutine") = false) (k : c.body.isNone = true)
  (l:Extern.findNext c=none) (n:Extern.find c=some Extern.AbiNoEscape.same):ap8 P tab g Y5:=by
 intro d H v u h;unfold Y5 at h;split at h
 ·rename_i p;cases h;refine⟨rfl,λq w a f r _=> ?_⟩;obtain⟨x,s⟩: ∃x,a= #[x]:=by
   have:=f.length
   match t:a.toList,this with
   | [x],_=>exact⟨x,by rw [<-Array.toList_inj];exact t⟩
  subst s;exact⟨x,w,q,run_callFunc_extern j b k l n rfl,f.1,r,.refl _ _ _⟩
 ·cases h
def aaO: ∀n t a,(aAl n t a).size=a.size+n
 |0,_,_=>rfl
 |n+1,t,a=>by rw [aAl,aaO n];simp;omega
def ah4 {t e : Nat} (S : P.funcs[g]? = some c) (j : (c.name == "runtime.NumGoroutine") = false) (y : c.body.isNone = true)
  (T:Extern.findNext c=none) (U:Extern.find c=some (Extern.BytealgMakeNoZero.makeNoZero c.params c.resultTypes)) (A:c.resultTypes[0]? =some t) (V:P.underlying t=some (.slice e)):ap8 P tab g (Yw e):=by
 intro Q H v H' h;unfold Yw at h;split at h
 ·rename_i n;obtain⟨W,Y⟩:=bF h;cases Y;have Z:n<=1099511627776:=by simpa [Nat.ble_eq]using W
  refine⟨rfl,λD w a R hs E=> ?_⟩;obtain⟨x,F⟩: ∃x,a= #[x]:=by
   have:=R.length
   match hl:a.toList,this with
   | [x],_=>exact⟨x,by rw [<-Array.toList_inj];exact hl⟩
  subst F;have F:=bT.PS R.1;subst F;have d:D H.next=none:=E _ (azv _) ab;obtain⟨f,G,I⟩: ∃f,n<=f/\(choose (.appendCap n 0 e)).run P w= .ok f {w with drawn:=w.drawn+1} :=
   ⟨_,Nat.le_add_right _ _,by simp [choose,Sem.run,Question.forced,Question.cut];rfl⟩
  obtain ⟨u, K, L, k⟩ : ∃ u K, K = { w with drawn := w.drawn + 1 + 1 } ∧ (choose (.extern "internal/bytealg.MakeNoZero.bytes" 0)).run P { w with drawn := w.drawn + 1 } = .ok u K :=
   ⟨_,_,rfl,rfl⟩
  subst L;have M:=hs.drew (w.drawn+1+1);have p:AB.Rel tab D (.cells [] false (some (e,true))) (.cells (aAl f u #[]) e) ⟨0,f⟩:=
   ⟨_,_,_,rfl,⟨by rw [aaO];simp,ab,λi x hi=>by simp at hi,λ_ va _ hh=>by simp at hh⟩,λt z h=>by cases h;exact⟨rfl,λ_=>rfl⟩⟩
  obtain⟨g1,g2⟩:=M.new d p;refine⟨.slice (some ⟨w.heap.size,0,none⟩) n f,_,_,run_callFunc_extern (w':=n9 {w with drawn:=w.drawn+1+1} (.cells (aAl f u #[]) e)) S j y T U ?_, ?_,g1,(Gu.drew D H w _).trans g2⟩
  ·have q: ¬((decide ((aAg n)<0) ||decide (aAg n>2^48))=true):=by
    simp only [Bool.or_eq_true,decide_eq_true_eq,Int.ofNat_eq_natCast];omega
   have N:(underlying t).run P w= .ok (.slice e) w:=by simp [underlying,program,azY,Sem.run,Result.andThen,V,bind,Sem.bind,pure]
   obtain⟨r,hr⟩: ∃r,c.resultTypes=⟨t::r⟩:=by
    rcases O:c.resultTypes with⟨l⟩
    rw [O]at A;cases l with
    |nil=>cases A
    |cons x r=>cases A;exact⟨r,rfl⟩
   rw [hr];show(Bind.bind (underlying t) _:Sem Value).run P w=_;rw [azY,N,azQ];show Sem.run P (if(decide ((aAg n)<0) ||decide (aAg n>2^48))=true then _ else _) w=_;rw [if_neg q];simp only [azY,aAY,Int.ofNat_eq_natCast,I,azQ,run_askRoom,k,newRow,run_newObj,aAe]
  ·exact⟨_,pZ.kL _ _ _,_,f,rfl,G,Nat.zero_le _,λh=>(by cases h),λb s y _=>(by cases y;exact⟨rfl,λ_=>ab⟩)⟩
 ·cases h
mutual
def AV.flat:AV->Bool
 | .int _ _ | .bool _ | .str _ | .nilFunc | .nilIface=>true
 | .ptr none | .map none=>true
 | .slice none l c _=>azm l 0&&azm c 0
 | .iface _ v=>AV.flat v
 | .agg l | .tuple l=>AV.aes l
 |_=>false
def AV.aes:List AV->Bool
 | []=>true
 |a::aCL=>AV.flat a&&AV.aes aCL
end
mutual
def bT.flat {ρ ρ':pZ} : ∀(a:AV) (v:Value),AV.flat a=true->bT ρ a v->bT ρ' a v
 | .int k n,v,_,h=>h
 | .bool b,v,_,h=>h
 | .str s,v,_,h=>h
 | .nilFunc,v,_,h=>h
 | .nilIface,v,_,h=>h
 | .ptr none,v,_,h=>h
 | .map none,v,_,h=>h
 | .slice none l c e,v,_,h=>h
 | .iface t x,v,hf,h=>by
  obtain⟨y,hv,h1⟩:=h;exact⟨y,hv,bT.flat x y (by simpa [AV.flat]using hf) h1⟩
 | .agg l,v,hf,h=>by
  obtain⟨y,hv,h1⟩:=h;exact⟨y,hv,ca.flat l _ (by simpa [AV.flat]using hf) h1⟩
 | .tuple l,v,hf,h=>by
  obtain⟨y,hv,h1⟩:=h;exact⟨y,hv,ca.flat l _ (by simpa [AV.flat]using hf) h1⟩
 | .ptr (some _),_,hf,_=>by simp [AV.flat]at hf
 | .slice (some _) _ _ _,_,hf,_=>by simp [AV.flat]at hf
 | .map (some _),_,hf,_=>by simp [AV.flat]at hf
 | .func _ _ _,_,hf,_=>by simp [AV.flat]at hf
 | .yield _,_,hf,_=>by simp [AV.flat]at hf
def ca.flat {ρ ρ':pZ} : ∀(a:List AV) (v:List Value),AV.aes a=true->ca ρ a v->ca ρ' a v
 | [],[],_,h=>trivial
 |a::aCL,b::bs,hf,h=>by
  simp only [AV.aes,azl]at hf;exact⟨bT.flat a b hf.1 h.1,ca.flat aCL bs hf.2 h.2⟩
 | [],_::_,_,h=>h
 |_::_,[],_,h=>h
end
def H0:AH:= {m:= .leaf,next:=0}
def enters_of (hE:EW P tab E) (hf:(E.fn g).isSome=true):Enters P g:=by
 obtain ⟨F, hF⟩ := Option.isSome_iff_exists.1 hf;obtain ⟨fn, hfn, hok⟩ := hE.fn g F hF;simp only [asP, azl] at hok;obtain ⟨⟨⟨_, _⟩, aBC⟩, aBQ⟩ := hok;intro args w;have aBI : (fn.name == "runtime.NumGoroutine") = false := by simpa using aBQ
 have hpr:(program:Sem Program).run P w= .ok P w:=rfl;cases hb:fn.body with
 |none=>rw [hb]at aBC;cases aBC
 |some cb=>
  simp only [callFunc,azY,hpr,azQ,hfn,aBI,hb];rfl
def Yq (P:Program) (tab:Fu) (g:Nat) (args:List AV) (v:AV):Prop:=
 Enters P g/\ ∀ρ H w (aBo:Array Value),ca ρ args aBo.toList->vR tab ρ H w-> ∀n r,CallsIn (Fr r) n P g aBo w (aa1 tab v H ρ H w)
def K2 (aBl:yA P tab) (aBr:P.follows .mixedOrders=true) (hE:EW P tab E)
  (h:Dg E n g args H0=some (v,H')) (hf:(E.fn g).isSome=true) (ha:AV.aes args=true) (hv:AV.flat v=true):Yq P tab g args v:=by
 have aBB:=enters_of hE hf;refine⟨aBB,λρ H w aBo aBp hs m r=> ?_⟩;have hs0:vR tab (λ_=>none) H0 w:=⟨⟨λi ob hi=>(by cases hi),λi j ob ob' b s s' hi=>(by cases hi),λi ob hi=>(by cases hi)⟩,hs.lay.1,λ⟨i,ob,s,hi,_⟩=>(by cases hi)⟩;rcases(ZC aBl aBr hE n).2 g args H0 v H' h with⟨_,hc⟩ |⟨_,hc⟩
 ·refine CallsIn.mono (hc (λ_=>none) w aBo (ca.flat _ _ ha aBp) hs0 (λ_ _ _=>rfl) m r) ?_;rintro e w' ⟨y,ρ',rfl,h1,h2,h3⟩;have hold: ∀b,b<w.heap.size->w'.heap[b]? =w.heap[b]? :=λb hb=>h3.gQ b hb λ⟨i,ob,s,hi,_⟩=>(by cases hi)
  refine⟨y,ρ,rfl,bT.flat _ _ hv h1,⟨⟨λi ob hi=> ?_,hs.inj,hs.PU⟩,h2.lay.1,hs.lay.2⟩,⟨h3.size,.refl _,azv _,λ_ _=>rfl,λb hb _=>hold b hb,λ_ _ h=>h,λ_ _ _ h=>h,λ_ ob h=> .inl ⟨ob,h⟩,λ_ _ h=>h,h3.os,h3.output,h3.tape,λi c b s hi hr=>⟨hold b (by obtain⟨b',s',o,k1,k2,_⟩:=hs.obj i _ hi;rw [hr]at k1;cases k1;exact gl k2),hi,hr⟩⟩⟩;obtain⟨b,s,o,k1,k2,k3⟩:=hs.obj i ob hi;exact⟨b,s,o,k1,by rw [hold b (gl k2)];exact k2,k3⟩
 ·obtain⟨y,w',ρ',hr,_⟩:=hc (λ_=>none) w aBo (ca.flat _ _ ha aBp) hs0 (λ_ _ _=>rfl);rw [aBB]at hr;cases hr
section
variable {R:Type}
noncomputable def Dv (n:Nat) (k:Nat->R):R:=Nat.rec (motive:=λ_=>R) (k 0) (λm _=>k (Nat.succ m)) n
theorem A3 n (k:Nat->R):Dv n k=k n:=by cases n<;>rfl
noncomputable def ajx (n:Int) (k:Int->R):R:=Int.rec (motive:=λ_=>R) (λm=>Dv m λm=>k (.ofNat m)) (λm=>Dv m λm=>k (.negSucc m)) n
theorem ahs n (k:Int->R):ajx n k=k n:=by cases n<;>simp [ajx,A3]
noncomputable def ae9 (b:Bool) (k:Bool->R):R:=aAc (motive:=λ_=>R) (k false) (k true) b
theorem RS b (k:Bool->R):ae9 b k=k b:=by cases b<;>rfl
noncomputable def nM {α:Type} (fe:α->(α->R)->R) (l:List α):(List α->R)->R:=
 aAD (motive:=λ_=>(List α->R)->R) (λk=>k []) (λa _ b k=>fe a λa=>b λl=>k (a::l)) l
theorem xF {fe:α->(α->R)->R} (h: ∀a k,fe a k=k a): ∀l k,nM fe l k=k l
 | [],k=>rfl
 |a::l,k=>by
  show fe a (λa=>nM fe l λl=>k (a::l))=_;rw [h,xF h l]
def idE {α:Type} (a:α) (k:α->R):R:=k a
theorem GM l (k:List α->R):nM idE l k=k l:=xF (λ_ _=>rfl) l k
noncomputable def aoJ (p:Nat×Nat) (k:Nat×Nat->R):R:=Prod.rec (motive:=λ_=>R) (λa b=>Dv a λa=>Dv b λb=>k (a,b)) p
theorem ar9 p (k:Nat×Nat->R):aoJ p k=k p:=by cases p;simp [aoJ,A3]
noncomputable def ajz (o:Option (Nat×Nat)) (k:Option (Nat×Nat)->R):R:=aAS (motive:=λ_=>R) (k none) (λp=>aoJ p λp=>k (some p)) o
theorem aq0 o (k:Option (Nat×Nat)->R):ajz o k=k o:=by cases o<;>simp [ajz,ar9]
noncomputable def Du (v:AV) (k:AV->R):R:=
 match v with
 | .int t n=>ajx n λn=>k (.int t n)
 | .bool b=>ae9 b λb=>k (.bool b)
 | .str s=>nM idE s λs=>k (.str s)
 | .ptr a=>ajz a λa=>k (.ptr a)
 | .slice a l c e=>ajz a λa=>Dv l λl=>Dv c λc=>Dv e λe=>k (.slice a l c e)
 |v=>k v
theorem R6 v (k:AV->R):Du v k=k v:=by
 cases v<;>simp [Du,ahs,RS,aq0,A3,xF (fe:=idE) (λa k=>rfl)]
noncomputable def force (v:AV) (k:AV->R):R:=
 match v with
 | .int t n=>ajx n λn=>k (.int t n)
 | .bool b=>ae9 b λb=>k (.bool b)
 | .agg l=>nM Du l λl=>k (.agg l)
 | .tuple l=>nM Du l λl=>k (.tuple l)
 | .func f a b=>nM Du a λa=>nM Du b λb=>k (.func f a b)
 | .iface t v=>Du v λv=>k (.iface t v)
 |v=>Du v k
theorem force_eq v (k:AV->R):force v k=k v:=by
 cases v<;>simp [force,R6,ahs,RS,xF (fe:=Du) (λa k=>R6 a k)]
noncomputable def YI {α:Type} (t:PT α):Nat->R->(α->R)->R:=
 PT.rec (motive:=λ_=>Nat->R->(α->R)->R) (λ_ d _=>d) (λ_ v _ a b i d k=>
  aAc (motive:=λ_=>R) (aAc (motive:=λ_=>R) (b (Nat.pred (Nat.div i 2)) d k) (a (Nat.div i 2) d k) (azm (Nat.mod i 2) 1)) (aAS (motive:=λ_=>R) d k v) (azm i 0)) t
theorem ES: ∀(t:PT α) i (d:R) k,YI t i d k=match t.get i with |some x=>k x |none=>d
 | .leaf,i,d,k=>rfl
 | .node l v r,i,d,k=>by
  show aAc (motive:=λ_=>R) (aAc (motive:=λ_=>R) (YI r (i/2-1) d k) (YI l (i/2) d k) (azm (i%2) 1)) (aAS (motive:=λ_=>R) d k v) (azm i 0)=_;rw [ES l,ES r];simp only [PT.get];cases azm i 0
  ·cases azm (i%2) 1<;>rfl
  ·cases v<;>rfl
noncomputable def ac3 {α:Type} (n:Nat):PT α->Nat->Option α->(PT α->R)->R:=
 Nat.rec (motive:=λ_=>PT α->Nat->Option α->(PT α->R)->R) (λt _ _ k=>k t) (λ_ a t i x k=>
  PT.rec (motive:=λ_=>R)
   (aAc (motive:=λ_=>R) (aAc (motive:=λ_=>R) (a .leaf (Nat.pred (Nat.div i 2)) x λr=>k (.node .leaf none r)) (a .leaf (Nat.div i 2) x λl=>k (.node l none .leaf)) (azm (Nat.mod i 2) 1)) (k (.node .leaf x .leaf)) (azm i 0))
   (λl v r _ _=>aAc (motive:=λ_=>R) (aAc (motive:=λ_=>R) (a r (Nat.pred (Nat.div i 2)) x λr=>k (.node l v r)) (a l (Nat.div i 2) x λl=>k (.node l v r)) (azm (Nat.mod i 2) 1)) (k (.node l x r)) (azm i 0)) t) n
theorem Kg: ∀n t i x (k:PT α->R),ac3 n t i x k=k (PT.aaB n t i x)
 |0,t,i,x,k=>rfl
 |n+1,.leaf,i,x,k=>by
  show aAc (motive:=λ_=>R) (aAc (motive:=λ_=>R) (ac3 n .leaf (i/2-1) x λr=>k (.node .leaf none r)) (ac3 n .leaf (i/2) x λl=>k (.node l none .leaf)) (azm (i%2) 1)) (k (.node .leaf x .leaf)) (azm i 0)=_;rw [Kg n,Kg n];simp only [PT.aaB];cases azm i 0<;>cases azm (i%2) 1<;>rfl
 |n+1,.node l v r,i,x,k=>by
  show aAc (motive:=λ_=>R) (aAc (motive:=λ_=>R) (ac3 n r (i/2-1) x λr=>k (.node l v r)) (ac3 n l (i/2) x λl=>k (.node l v r)) (azm (i%2) 1)) (k (.node l x r)) (azm i 0)=_;rw [Kg n,Kg n];simp only [PT.aaB];cases azm i 0<;>cases azm (i%2) 1<;>rfl
noncomputable def akB {α:Type} (fe:α->(α->R)->R) (t:PT α):Nat->(PT α->R)->R:=
 PT.rec (motive:=λ_=>Nat->(PT α->R)->R) (λ_ k=>k .leaf) (λl v r a b i k=>
  cond (azm i 0) (aAS (motive:=λ_=>R) (k (.node l none r)) (λx=>fe x λx=>k (.node l (some x) r)) v)
   (cond (azm (Nat.mod i 2) 1) (a (Nat.div i 2) λl=>k (.node l v r)) (b (Nat.sub (Nat.div i 2) 1) λr=>k (.node l v r)))) t
theorem Wo {fe:α->(α->R)->R} (h: ∀a k,fe a k=k a): ∀t i k,akB fe t i k=k t
 | .leaf,i,k=>rfl
 | .node l v r,i,k=>by
  show cond (azm i 0) (aAS (motive:=λ_=>R) (k (.node l none r)) (λx=>fe x λx=>k (.node l (some x) r)) v)
   (cond (azm (i%2) 1) (akB fe l (i/2) λl=>k (.node l v r)) (akB fe r (i/2-1) λr=>k (.node l v r)))=_
  rw [Wo h l,Wo h r];cases azm i 0
  ·simp_all
  ·cases v
   ·rfl
   ·simp_all
noncomputable def JF (b:AB) (k:AB->R):R:=
 match b with
 | .cells c d h=>nM Du c λc=>ae9 d λd=>k (.cells c d h)
 | .map f=>nM (λ(p:AV×AV) k=>Du p.1 λa=>Du p.2 λb=>k (a,b)) f λf=>k (.map f)
 |b=>k b
theorem Ug b (k:AB->R):JF b k=k b:=by
 cases b with
 |cells c d f=>simp [JF,xF (fe:=Du) (λa k=>R6 a k),RS]
 |map h=>simp only [JF];rw [xF (λp k=>by simp [R6])]
 |loop l=>rfl
noncomputable def ER (h:AH) (i:Nat) (k:AH->R):R:=AH.rec (motive:=λ_=>R) (λm n=>akB JF m i λm=>Dv n λn=>k ⟨m,n⟩) h
theorem Vk h i (k:AH->R):ER h i k=k h:=by
 simp [ER,Wo (fe:=JF) (λa k=>Ug a k),A3]
noncomputable def acF (b:AB) (k:AB->R):R:=
 match b with
 | .cells c a d=>nM idE c λc=>k (.cells c a d)
 |b=>k b
theorem amj b (k:AB->R):acF b k=k b:=by
 cases b<;>simp [acF,GM]
noncomputable def WC (h:AH) (i:Nat) (k:AH->R):R:=AH.rec (motive:=λ_=>R) (λm n=>akB acF m i λm=>Dv n λn=>k ⟨m,n⟩) h
theorem ams h i (k:AH->R):WC h i k=k h:=by
 simp [WC,Wo (fe:=acF) (λa k=>amj a k),A3]
noncomputable def ace (h:AH) (b:AB) (k:AH->R):R:=AH.rec (motive:=λ_=>R) (λm n=>ac3 (Nat.succ n) m n (some b) λm=>Dv n λn=>k ⟨m,Nat.succ n⟩) h
theorem aik h b (k:AH->R):ace h b k=k (h.new b):=by
 simp only [ace,Kg,A3,AH.new,PT.set]
noncomputable def TJ (h:AH) (i:Nat) (b:Option AB) (k:AH->R):R:=AH.rec (motive:=λ_=>R) (λm n=>ac3 (Nat.succ i) m i b λm=>k ⟨m,n⟩) h
theorem W1 h i b (k:AH->R):TJ h i b k=k (h.set i b):=by
 simp only [TJ,Kg,AH.set,PT.set]
noncomputable def AF.YI (f:AF) (i:Nat) (k:AV->R):R:=dC.YI f.m i (k .undef) k
theorem AF.ES (f:AF) i (k:AV->R):f.YI i k=k (f.get i):=by
 simp only [AF.YI,dC.ES,AF.get];grind
noncomputable def AF.QL (f:AF) (d:Option Nat) (v:AV) (e:R) (k:AF->R):R:=
 aAS (motive:=λ_=>R) (k f) (λd=>AF.rec (motive:=λ_=>R) (λn m=>aAc (motive:=λ_=>R) e (ac3 (Nat.succ d) m d (some v) λm=>k ⟨n,m⟩) (aAh (Nat.succ d) n)) f) d
theorem AF.ai7 (f:AF) d v (e:R) k:f.QL d v e k=match f.put d v with |some f'=>k f' |none=>e:=by
 cases d with
 |none=>rfl
 |some d=>
  cases f with
  |mk n m=>
   show aAc (motive:=λ_=>R) e (ac3 (d+1) m d (some v) λm=>k ⟨n,m⟩) (aAv d n)=_;rw [Kg];simp only [AF.put];cases aAv d n<;>rfl
noncomputable def OY (f:AF) (x:AX) (k:AV->R):R:=
 match x with
 | .t i=>f.YI i k
 | .c v=>k v
theorem qR f x (k:AV->R):OY f x k=k (f.ev x):=by cases x<;>simp [OY,AF.ES,AF.ev]
noncomputable def awE (f:AF) (xs:List AX):(List AV->R)->R:=
 aAD (motive:=λ_=>(List AV->R)->R) (λk=>k []) (λx _ a k=>OY f x λv=>a λl=>k (v::l)) xs
theorem ahJ f: ∀xs (k:List AV->R),awE f xs k=k (nk f xs)
 | [],k=>rfl
 |x::xs,k=>by
  show OY f x (λv=>awE f xs λl=>k (v::l))=_;rw [qR,ahJ f xs];rfl
noncomputable def ais (l:List AV):PT AV->Nat->(PT AV->R)->R:=
 aAD (motive:=λ_=>PT AV->Nat->(PT AV->R)->R) (λm _ k=>k m) (λv _ a m i k=>ac3 (Nat.succ i) m i (some v) λm=>a m (Nat.succ i) k) l
theorem acY: ∀l m i (k:PT AV->R),ais l m i k=k (AF.Zx m i l)
 | [],m,i,k=>rfl
 |v::l,m,i,k=>by
  show ac3 (i+1) m i (some v) (λm=>ais l m (i+1) k)=_;rw [Kg,acY l];rfl
noncomputable def initK (a:List AV) (n:Nat) (k:AF->R):R:=Dv (max a.length n) λn=>ais a .leaf 0 λm=>k ⟨n,m⟩
theorem asx a n (k:AF->R):initK a n k=k (AF.init a n):=by simp [initK,A3,acY,AF.init]
noncomputable def target (op:PH) (f:AF) (k:Nat->R):R:=
 let b (v:AV):R:=match v with | .ptr (some a)=>k a.1 | .slice (some a) _ _ _=>k a.1 | .map (some r)=>k r |_=>k 0
 match op with
 | .store _ a _=>OY f a b
 | .Q4 _ m _ _=>OY f m b
 | .del _ m _=>OY f m b
 | .append _ _ _ s _=>OY f s b
 | .copy _ d _=>OY f d b
 | .clear _ x=>OY f x b
 | .Qo _ p _=>OY f p b
 |_=>k 0
theorem aqS {x:R} op f k (h: ∀i,k i=x):target op f k=x:=by
 have b: ∀v:AV,(match v with | .ptr (some a)=>k a.1 | .slice (some a) _ _ _=>k a.1 | .map (some r)=>k r |_=>k 0)=x:=by
  grind
 cases op<;>simp only [target,qR]<;>first |exact b _ |exact h _
def anQ:CV:=λ_ _ _=>none
abbrev KV (R:Type):=AV->List AV->AH->(AV->AH->R)->R
noncomputable def ahB {α:Type} (l:List α) (v:α) (d:R):Nat->(List α->R)->R:=
 aAD (motive:=λ_=>Nat->(List α->R)->R) (λ_ _=>d) (λa l b i k=>Nat.rec (motive:=λ_=>R) (k (v::l)) (λj _=>b j λc=>k (a::c)) i) l
theorem aeY (v:α) (d:R): ∀l i k,ahB l v d i k=cond (aAh (i+1) l.length) (k (l.set i v)) d
 | [],i,k=>rfl
 |a::l,0,k=>rfl
 |a::l,i+1,k=>by
  show ahB l v d i (λb=>k (a::b))=_;rw [aeY v d l i];rfl
def avY:AV->Bool
 | .agg _ | .tuple _=>false
 |_=>true
noncomputable def apy (d:R) (h:AH) (a v:AV) (k:AV->AH->R):R:=
 match a with
 | .ptr (some (b,o))=>YI h.m b d λf=>match f with | .cells c false j=>ahB c v d o λc=>TJ h b (some (.cells c false j)) λh'=>k .undef h' |_=>d
 |_=>d
theorem kx: ∀vs c o,o+vs.length<=c.length->bu c o vs=c.take o++(vs++c.drop (o+vs.length))
 | [],c,o,h=>by simp [bu]
 |v::vs,c,o,h=>by
  have a:o<c.length:=by simp at h;omega
  rw [bu,kx vs (c.set o v) (o+1) aj];have b:(c.set o v).take (o+1)=c.take o++ [v]:=by
   rw [List.take_add_one];simp [List.take_set_of_le,a]
  have d:(c.set o v).drop (o+1+vs.length)=c.drop (o+(v::vs).length):=by
   rw [List.drop_set_of_lt aa];grind
  simp_all
noncomputable def apn (d:R) (n:Nat) (h:AH) (a v:AV) (k:AV->AH->R):R:=
 match a with
 | .ptr (some (b,o))=>YI h.m b d λf=>match f with
  | .cells c false j=>aAc (motive:=λ_=>R) d (nM idE (c.take o++(cellsOf v++c.drop (o+(cellsOf v).length))) λc=>TJ h b (some (.cells c false j)) λh'=>k .undef h')
    (azm (cellsOf v).length n&&(aAh (o+(cellsOf v).length) c.length&&aB (cellsOf v)))
  |_=>d
 |_=>d
noncomputable def ayv (d:R) (h:AH) (s x:AV) (r:Option (AV×AH)) (k:AV->AH->R):R:=
 match r with
 |some (v,b)=>force v λv=>
  match x with
  | .str _=>(match s with | .slice (some a) _ _ _=>ER b a.1 λb=>ER b h.next λb=>k v b |_=>ER b h.next λb=>k v b)
  |_=>(match s with | .slice (some a) _ _ _=>WC b a.1 λb=>WC b h.next λb=>k v b |_=>WC b h.next λb=>k v b)
 |none=>d
theorem awy (d:R) h s x r k:ayv d h s x r k=match r with |some (v,a)=>k v a |none=>d:=by
 cases r with
 |none=>rfl
 |some r=>
  simp only [ayv,force_eq];split<;>split<;>simp [Vk,ams]
noncomputable def anc (cv:KV R) (d:R) (op:PH) (f:AF) (h:AH) (k:AV->AH->R):R:=
 match op with
 | .call g b=>OY f g λg=>awE f b λl=>cv g l h k
 |op=>match aZ anQ op f h with
  |some (v,a)=>force v λv=>target op f λi=>ER a i λa=>ER a h.next λa=>k v a
  |none=>d
noncomputable def TT (d:R) (op:PH) (f:AF) (k:AV->R):R:=
 match op with
 | .mv x=>OY f x k
 | .pick c a b=>OY f c λc=>match c with | .bool true=>OY f a k | .bool false=>OY f b k |_=>d
 | .GN x=>match aw (.GN x) f with |some _=>OY f x k |none=>d
 | .bin op x y=>OY f x λx=>OY f y λy=>match aw (.bin op (.c x) (.c y)) f with |some v=>force v k |none=>d
 |op=>match aw op f with |some v=>force v k |none=>d
noncomputable def za (cv:KV R) (d:R) (op:PH) (f:AF) (h:AH) (k:AV->AH->R):R:=
 match cls op with
 | .P=>TT d op f λv=>k v h
 | .R=>match aR op f h with |some v=>force v λv=>k v h |none=>d
 | .A=>match aW op f h.next with |some (v,b)=>force v λv=>JF b λb=>ace h b λa=>k v a |none=>d
 | .E=>anc cv d op f h k
noncomputable def aoj (d:R) (o:Option AV) (k:AV->R):R:=aAS (motive:=λ_=>R) d (λv=>force v k) o
noncomputable def Ta {α:Type} (l:List α):Nat->R->(α->R)->R:=
 aAD (motive:=λ_=>Nat->R->(α->R)->R) (λ_ d _=>d) (λa _ b i d k=>Nat.rec (motive:=λ_=>R) (k a) (λj _=>b j d k) i) l
theorem ai9: ∀(l:List α) i (d:R) k,Ta l i d k=match l[i]? with |some x=>k x |none=>d
 | [],i,d,k=>rfl
 |a::l,0,d,k=>rfl
 |a::l,i+1,d,k=>by
  show Ta l i d k=_;rw [ai9 l i];rfl
def aAR (op:BinOp) (x y:AV):Option AV:=
 match x,y with
 | .int k a,.int c b=>cond (bz op) (XW op k a b) (cond (IntKind.same k c) (bR op k a b) none)
 | .str a,.str b=>bS op a b
 |_,_=>none
def azJ (k:LK) (x:AV):Option AV:=
 match k,x with
 | .str,.str s=>some (.int .i64 (aAg s.length))
 | .slice,.slice _ n _ _=>some (.int .i64 (aAg n))
 |_,_=>none
def ay2 (b:Nat) (x i:AV):Option AV:=
 match x,uK i with
 | .slice (some a) c _ _,some i=>cond (aAv i c) (some (.ptr (some (ba a (i*b))))) none
 |_,_=>none
def ayM (b:Nat) (x:AV):Option AV:=match x with | .ptr (some a)=>some (.ptr (some (ba a b))) |_=>none
noncomputable def atX (d:R) (h:AH) (a:AV) (k:AV->R):R:=
 match a with
 | .ptr (some (b,o))=>YI h.m b d λf=>match f with | .cells c _ _=>Ta c o d k |_=>d
 |_=>d
theorem atP (d:R) h f x k:atX d h (f.ev x) k=match aR (.ng x) f h with |some v=>k v |none=>d:=by
 simp only [atX,aR];cases f.ev x with
 |ptr a=>
  rcases a with _ |⟨b,o⟩
  ·rfl
  ·simp only [ES,AH.get];cases h.m.get b with
   |none=>rfl
   |some j=>
    cases j with
    |cells c l n=>simp only;rw [ai9];cases c[o]? <;>rfl
    |map=>rfl
    |loop=>rfl
 |_=>rfl
noncomputable def doK (cv:KV R) (d:R) (op:PH) (f:AF) (h:AH) (k:AV->AH->R):R:=
 match op with
 | .mv x=>OY f x λv=>k v h
 | .pick c a b=>za cv d (.pick c a b) f h k
 | .alloc t z=>za cv d (.alloc t z) f h k
 | .box x=>za cv d (.box x) f h k
 | .build z j=>za cv d (.build z j) f h k
 | .BG z n j=>za cv d (.BG z n j) f h k
 | .ng a=>OY f a λa=>atX d h a λv=>k v h
 | .yS n a=>za cv d (.yS n a) f h k
 | .store n a x=>OY f x λv=>aAc (motive:=λ_=>R) (OY f a λa=>apn d n h a v k) (OY f a λa=>apy d h a v k) (azm n 1&&avY v)
 | .bin op x y=>OY f x λx=>OY f y λy=>aoj d (aAR op x y) λv=>k v h
 | .eqv n e x y=>za cv d (.eqv n e x y) f h k
 | .un op x=>za cv d (.un op x) f h k
 | .conv c x=>za cv d (.conv c x) f h k
 | .iface t x=>za cv d (.iface t x) f h k
 | .Kc g a b=>za cv d (.Kc g a b) f h k
 | .zy z b l c=>za cv d (.zy z b l c) f h k
 | .Aw x q r=>za cv d (.Aw x q r) f h k
 | .slice n x q r w=>za cv d (.slice n x q r w) f h k
 | .fld o n g x=>za cv d (.fld o n g x) f h k
 | .qF o x=>OY f x λx=>aoj d (ayM o x) λv=>k v h
 | .AL n x i=>OY f x λx=>OY f i λi=>aoj d (ay2 n x i) λv=>k v h
 | .FK l n x i=>za cv d (.FK l n x i) f h k
 | .Nq x i=>za cv d (.Nq x i) f h k
 | .Zc l n g x i=>za cv d (.Zc l n g x i) f h k
 | .look z o s m x=>za cv d (.look z o s m x) f h k
 | .P2=>za cv d .P2 f h k
 | .Q4 s m x v=>za cv d (.Q4 s m x v) f h k
 | .ext x i=>OY f x λx=>match x with | .tuple vs=>Ta vs i d λv=>k v h |_=>d
 | .GN x=>OY f x λx=>match x with | .ptr none=>d | .nilIface=>d | .nilFunc=>d | .ptr (some a)=>k (.ptr (some a)) h | .func g a b=>k (.func g a b) h | .yield l=>k (.yield l) h |_=>d
 | .call g u=>OY f g λg=>awE f u λl=>cv g l h k
 | .len .str x=>OY f x λx=>aoj d (azJ .str x) λv=>k v h
 | .len .slice x=>OY f x λx=>aoj d (azJ .slice x) λv=>k v h
 | .len c x=>za cv d (.len c x) f h k
 | .append e z b s x=>OY f s λs=>OY f x λx=>ayv d h s x (ew h e z b s x) k
 | .sL e z b s n=>za cv d (.sL e z b s n) f h k
 | .peq n x y=>za cv d (.peq n x y) f h k
 | .LG x=>za cv d (.LG x) f h k
 | .Qo t p n=>za cv d (.Qo t p n) f h k
 | .copy n a b=>za cv d (.copy n a b) f h k
 | .clear z x=>za cv d (.clear z x) f h k
 | .CR m u=>za cv d (.CR m u) f h k
 | .del s m x=>za cv d (.del s m x) f h k
 | .fail=>d
noncomputable def akA (f:AF) (g:Option (Nat×Bool)) (k:Bool->R):R:=ae9 (aT f g) k
noncomputable def acu (cv:KV R) (d:R) (ops:List bU):AF->AH->(AF->AH->R)->R:=
 aAD (motive:=λ_=>AF->AH->(AF->AH->R)->R) (λf h k=>k f h) (λo _ a f h k=>
  akA f o.g λb=>cond b (doK cv d o.op f h λv h=>f.QL o.dst v d λf=>a f h k) (f.QL o.dst .undef d λf=>a f h k)) ops
noncomputable def afn (cv:KV R) (d:R) (ops:List bU) (j:List (Nat×Nat)):AF->AH->List (Nat×AH)->(AF->AH->R)->R:=
 aAD (motive:=λ_=>AF->AH->List (Nat×AH)->(AF->AH->R)->R) (λf h _ k=>k f h) (λp _ l f h a k=>
  aAS (motive:=λ_=>R) d (λ(o:bU)=>
   akA f o.g λb=>cond b
    (match cls o.op with
    | .P=>TT d o.op f λv=>f.QL o.dst v d λf=>l f h a k
    | .R=>match a with
     | []=>d
     |(e,g)::c=>match aR o.op f g with
      |some v=>force v λv=>cond (bJ o.op f v p.2 ((e,g)::c)) (f.QL o.dst v d λf=>l f h a k) d
      |none=>d
    | .A=>match aW o.op f h.next with
     |some (v,b)=>force v λv=>JF b λb=>ace h b λn=>f.QL o.dst v d λf=>l f n a k
     |none=>d
    | .E=>anc cv d o.op f h λv n=>f.QL o.dst v d λf=>l f n ((p.1,n)::a) k)
    (f.QL o.dst .undef d λf=>l f h a k)) (ops[p.1]?)) j
def arD (a:KV R) (cv:CV) (d:R):Prop:= ∀g l h k,a g l h k=match cv g l h with |some (v,b)=>k v b |none=>d
theorem ahV (a: ∀g xs,op≠ .call g xs) f h:aZ anQ op f h=aZ cv op f h:=by
 cases op<;>try rfl
 case conv k x=>cases k<;>rfl
 simp_all
theorem ao8 {a:KV R} (j:arD a cv d) op f h k:anc a d op f h k=match aZ cv op f h with |some (v,b)=>k v b |none=>d:=by
 have n:(∀g c,op≠ .call g c)->anc a d op f h k=match aZ cv op f h with |some (v,b)=>k v b |none=>d:=by
  intro l;have:anc a d op f h k=match aZ anQ op f h with
   |some (v,b)=>force v λv=>target op f λi=>ER b i λb=>ER b h.next λb=>k v b
   |none=>d:=by cases op<;>first |rfl |exact absurd rfl (l _ _)
  rw [this,ahV (cv:=cv) l];cases aZ cv op f h with
  |none=>rfl
  |some r=>
   simp only [force_eq,Vk];exact aqS op f _ λ_=>rfl
 by_cases p: ∃g c,op= .call g c
 ·obtain⟨g,c,rfl⟩:=p;simp only [anc,qR,ahJ];exact j _ _ _ _
 ·simp_all
theorem aky {d:R} op f k:TT d op f k=match aw op f with |some v=>k v |none=>d:=by
 have h: ∀o:Option AV,(match o with |some v=>force v k |none=>d)=match o with |some v=>k v |none=>d:=λo=>by cases o<;>simp [force_eq]
 cases op<;>try first |rfl |exact force_eq _ _ |exact h (aw _ f)
 case mv x=>simp [TT,qR,aw]
 case iface t x=>simp [TT,force_eq]
 case Kc g x y=>simp [TT,force_eq]
 case pick c a b=>
  simp only [TT,qR,aw];grind
 case GN x=>
  simp only [TT,qR];cases j:aw (.GN x) f with
  |none=>rfl
  |some v=>
   have:v=f.ev x:=by
    simp only [aw]at j;grind
   simp_all
 case bin op x y=>
  simp only [TT,qR];exact h (aw (.bin op (.c (f.ev x)) (.c (f.ev y))) f)
theorem aoO {a:KV R} (b:arD a cv d) op f h k:za a d op f h k=match dQ cv op f h with |some (v,c)=>k v c |none=>d:=by
 simp only [za,dQ];cases cls op with
 |P=>simp only [aky];cases aw op f<;>rfl
 |R=>simp only [force_eq];cases aR op f h<;>rfl
 |A=>simp only [force_eq,Ug,aik];cases aW op f h.next<;>rfl
 |E=>exact ao8 b op f h k
theorem W8 (d:R) o k:aoj d o k=match o with |some v=>k v |none=>d:=by cases o<;>simp [aoj,force_eq]
theorem ayc {p:KV R} (r:arD p cv d) op f h k:doK p d op f h k=match dQ cv op f h with |some (v,w)=>k v w |none=>d:=by
 have A: ∀g l h k,p g l h k=match cv g l h with |some (v,w)=>k v w |none=>d:=r
 have j: ∀(o:Option AV),(match o with |some v=>k v h |none=>d)=match(match o with |some v=>some (v,h) |none=>none:Option (AV×AH))with |some (v,w)=>k v w |none=>d:=λo=>by cases o<;>rfl
 cases op<;>try (simp only [doK];exact aoO r _ f h k)
 case mv x=>simp only [doK,qR];rfl
 case ng a=>simp only [doK,qR,atP];exact j _
 case bin op x y=>simp only [doK,qR,W8];exact j _
 case qF o x=>simp only [doK,qR,W8];exact j _
 case AL n x i=>simp only [doK,qR,W8];exact j _
 case ext x i=>
  simp only [doK,qR];refine Eq.trans ?_ (j _);simp only [aw];cases f.ev x<;>try rfl
  simp only;rw [ai9];rename_i vs;cases vs[i]? <;>rfl
 case GN x=>
  simp only [doK,qR];refine Eq.trans ?_ (j _);simp only [aw];cases f.ev x with
  |ptr a=>cases a<;>rfl
  |_=>rfl
 case call g M=>simp only [doK,qR,ahJ,A];rfl
 case len c x=>
  cases c<;>try (simp only [doK];exact aoO r _ f h k)
  ·simp only [doK,qR,W8];refine Eq.trans ?_ (j _);simp only [aw];cases f.ev x<;>rfl
  ·simp only [doK,qR,W8];refine Eq.trans ?_ (j _);simp only [aw];cases f.ev x<;>rfl
 case append e z b s x=>simp only [doK,qR,awy];rfl
 case store n a x=>
  simp only [doK,qR];cases u:(azm n 1&&avY (f.ev x))with
  |false=>
   have:dQ cv (.store n a x) f h=aZ cv (.store n a x) f h:=rfl;rw [this];simp only [aZ,apn];cases f.ev a with
   |ptr q=>
    rcases q with _ |⟨b,o⟩
    ·rfl
    ·simp only [ES,bd,AH.get];cases h.m.get b with
     |none=>simp only;cases azm (cellsOf (f.ev x)).length n<;>rfl
     |some E=>
      cases E with
      |map=>simp only;cases azm (cellsOf (f.ev x)).length n<;>rfl
      |loop=>simp only;cases azm (cellsOf (f.ev x)).length n<;>rfl
      |cells c F L=>
       cases F with
       |true=>simp only;cases azm (cellsOf (f.ev x)).length n<;>rfl
       |false=>
        simp only [GM,W1];cases azm (cellsOf (f.ev x)).length n with
        |false=>rfl
        |true=>
         simp only [Bool.true_and,cond_true];cases K:(aAh (o+(cellsOf (f.ev x)).length) c.length&&aB (cellsOf (f.ev x)))with
         |false=>rfl
         |true=>
          simp only [azl,Nat.ble_eq]at K;simp only [cond_true];rw [kx _ _ _ K.1]
   |_=>rfl
  |true=>
   simp only [azl]at u;have G:n=1:=azy u.1;subst G;have t:cellsOf (f.ev x)=[f.ev x]:=by
    cases H:f.ev x<;>rw [H]at u<;>first |rfl |(simp [avY]at u)
   have D:aB [f.ev x]=true:=by
    cases H:f.ev x<;>rw [H]at u<;>first |rfl |(simp [avY]at u)
   have:dQ cv (.store 1 a x) f h=aZ cv (.store 1 a x) f h:=rfl;rw [this];simp only [aZ,t,apy];cases f.ev a with
   |ptr q=>
    rcases q with _ |⟨b,o⟩
    ·rfl
    ·simp only [List.length_cons,List.length_nil,aAZ,bd,ES,AH.get];have I:azm 1 1=true:=rfl;rw [I,cond_true];cases h.m.get b with
     |none=>rfl
     |some E=>
      cases E with
      |map=>rfl
      |loop=>rfl
      |cells c F L=>
       cases F with
       |true=>rfl
       |false=>
        simp only [aeY,W1,D,Bool.and_true];cases aAh (o+1) c.length<;>rfl
   |_=>rfl
 case fail=>rfl
theorem ake f g (k:Bool->R):akA f g k=k (aT f g):=RS _ _
theorem afE {a:KV R} (c:arD a cv d): ∀ops f h k,acu a d ops f h k=match bt cv ops f h with |some (f',l)=>k f' l |none=>d
 | [],f,h,k=>rfl
 |o::j,f,h,k=>by
  show akA f o.g (λb=>cond b (doK a d o.op f h λv h=>f.QL o.dst v d λf=>acu a d j f h k) (f.QL o.dst .undef d λf=>acu a d j f h k))=_;rw [ake];simp only [ayc c,AF.ai7,afE c j,bt];cases aT f o.g with
  |false=>simp only [cond_false];cases f.put o.dst .undef<;>rfl
  |true=>
   simp only [cond_true];cases dQ cv o.op f h with
   |none=>rfl
   |some r=>obtain⟨v,l⟩:=r;simp only;cases f.put o.dst v<;>rfl
theorem al0 {j:KV R} (q:arD j cv d) ops: ∀n f h a k,
  afn j d ops n f h a k=match cW cv ops n f h a with |some (f',p)=>k f' p |none=>d
 | [],f,h,a,k=>rfl
 |(i,m)::c,f,h,a,k=>by
  show aAS (motive:=λ_=>R) d (λ(o:bU)=>
   akA f o.g λb=>cond b
    (match cls o.op with
    | .P=>TT d o.op f λv=>f.QL o.dst v d λf=>afn j d ops c f h a k
    | .R=>match a with
     | []=>d
     |(e,g)::l=>match aR o.op f g with
      |some v=>force v λv=>cond (bJ o.op f v m ((e,g)::l)) (f.QL o.dst v d λf=>afn j d ops c f h a k) d
      |none=>d
    | .A=>match aW o.op f h.next with
     |some (v,b)=>force v λv=>JF b λb=>ace h b λp=>f.QL o.dst v d λf=>afn j d ops c f p a k
     |none=>d
    | .E=>anc j d o.op f h λv p=>f.QL o.dst v d λf=>afn j d ops c f p ((i,p)::a) k)
    (f.QL o.dst .undef d λf=>afn j d ops c f h a k)) (ops[i]?)=_
  simp only [al0 q ops c,ake,aky,force_eq,Ug,aik,ao8 q,AF.ai7,cW];cases ops[i]? with
  |none=>rfl
  |some o=>
   simp only;cases aT f o.g with
   |false=>simp only [cond_false];cases f.put o.dst .undef<;>rfl
   |true=>
    simp only [cond_true];cases cls o.op with
    |P=>simp only;cases aw o.op f with
     |none=>rfl
     |some v=>simp only;cases f.put o.dst v<;>rfl
    |R=>simp only;cases a with
     |nil=>rfl
     |cons s l=>
      obtain⟨e,g⟩:=s;simp only;cases aR o.op f g with
      |none=>rfl
      |some v=>
       simp only;cases bJ o.op f v m ((e,g)::l)with
       |false=>rfl
       |true=>simp only [cond_true];cases f.put o.dst v<;>rfl
    |A=>simp only;cases aW o.op f h.next with
     |none=>rfl
     |some r=>obtain⟨v,b⟩:=r;simp only;cases f.put o.dst v<;>rfl
    |E=>simp only;cases aZ cv o.op f h with
     |none=>rfl
     |some r=>obtain⟨v,p⟩:=r;simp only;cases f.put o.dst v<;>rfl
abbrev KX (R:Type):=dy->AF->AH->(AE->AF->AH->R)->R
abbrev KC (R:Type):=Nat->List AV->AH->(AV->AH->R)->R
noncomputable def UZ (d:R) (ps:List Nat):AF->List AV->(AF->R)->R:=
 aAD (motive:=λ_=>AF->List AV->(AF->R)->R) (λf l k=>match l with | []=>k f |_=>d) (λp _ a f l k=>match l with |v::vs=>f.QL (some p) v d λf=>a f vs k | []=>d) ps
theorem Ts {d:R} : ∀ps f l k,UZ d ps f l k=match mh f ps l with |some f'=>k f' |none=>d
 | [],f,[],k=>rfl
 | [],f,_::_,k=>rfl
 |p::ps,f,[],k=>rfl
 |p::ps,f,v::vs,k=>by
  show f.QL (some p) v d (λf=>UZ d ps f vs k)=_;rw [AF.ai7];simp only [mh,Ts ps];cases f.put (some p) v<;>rfl
noncomputable def ac5 (x:KX R) (c:KC R) (d:R):KV R:=λg n h k=>
 match g with
 | .func f a b=>nM idE (a++n++b) λl=>c f l h k
 | .yield l=>
  match h.get l with
  |some (.loop ⟨L,E,G,H,aCL,u⟩)=>
   UZ d H G n λf=>x aCL f h λe I F=>
    match e with
    | .normal=>
     match F.get l with
     |some (.loop ⟨y,p,z,A,D,q⟩)=>
      match y with
      | .ready=>TJ F l (some (.loop ⟨.busy,p,z,A,D,q⟩)) λK=>x u I K λe _ w=>
       match w.get l with
       |some (.loop ⟨_,_,r,s,t,j⟩)=>
        match e with
        | .normal=>TJ w l (some (.loop ⟨.ready,none,r,s,t,j⟩)) λv=>k (.bool true) v
        | .exit i=>TJ w l (some (.loop ⟨.done,some (.exit i),r,s,t,j⟩)) λv=>k (.bool false) v
        | .ret=>TJ w l (some (.loop ⟨.done,some .ret,r,s,t,j⟩)) λv=>k (.bool false) v
       |_=>d
      |_=>d
     |_=>d
    |_=>d
  |_=>d
 |_=>d
noncomputable def NU (x:KX R) (c:KC R) (d:R):KX R:=λp f h k=>
 match p with
 | .skip=>k .normal f h
 | .fail=>d
 | .region n=>acu (ac5 x c d) d n f h λf h=>k .normal f h
 | .lN n q=>afn (ac5 x c d) d n q f h [(n.length,h)] λf h=>k .normal f h
 | .seq a b=>x a f h λe f h=>match e with | .normal=>x b f h k |e=>k e f h
 | .cond v a b=>OY f v λv=>match v with | .bool true=>x a f h k | .bool false=>x b f h k |_=>d
 | .block id b=>x b f h λe f h=>match e with | .exit i=>cond (azm i id) (k .normal f h) (k (.exit i) f h) |e=>k e f h
 | .loop b=>x b f h λe f h=>match e with | .normal=>x (.loop b) f h k |e=>k e f h
 | .ou g y aCL r=>
  AH.rec (motive:=λ_=>R) (λm l=>OY f g λg=>
   match g with
   | .func z A D=>nM idE (A++ [.yield l]++D) λs=>ace ⟨m,l⟩ (.loop ⟨.ready,none,f,y,aCL,r⟩) λE=>c z s E λ_ u=>
    match u.get l with
    |some (.loop ⟨F,t,_,_,_,_⟩)=>
     match F with
     | .busy=>d
     |_=>match t with
      |none=>TJ u l none λw=>k .normal f w
      |some j=>TJ u l none λw=>x j f w k
    |_=>d
   |_=>d) h
 | .exit id=>k (.exit id) f h
 | .ret=>k .ret f h
def atK (b:KX R) (x:XF) (d:R):Prop:= ∀a f h k,b a f h k=match x a f h with |some (e,c,j)=>k e c j |none=>d
def avP (a:KC R) (c:CF) (d:R):Prop:= ∀g l h k,a g l h k=match c g l h with |some (v,b)=>k v b |none=>d
theorem aqV {t:KX R} (L:atK t x d) (M:avP N c d):arD (ac5 t N d) (gA x c) d:=by
 intro g q h k;have u: ∀j f h k,t j f h k=match x j f h with |some (e,O,P)=>k e O P |none=>d:=L
 cases g<;>try rfl
 case func f a b=>
  simp only [ac5,gA];rw [GM];exact M _ _ _ _
 case yield l=>
  simp only [ac5,gA];cases h.get l with
  |none=>rfl
  |some Q=>
   cases Q with
   |cells=>rfl
   |map=>rfl
   |loop r=>
    obtain⟨st,I,S,T,aCL,s⟩:=r;simp only [Ts,u,W1];cases mh S T q with
    |none=>rfl
    |some f=>
     simp only;cases x aCL f h with
     |none=>rfl
     |some v=>
      obtain⟨e,U,K⟩:=v;cases e with
      |exit i=>rfl
      |ret=>rfl
      |normal=>
       simp only;cases K.get l with
       |none=>rfl
       |some w=>
        cases w with
        |cells=>rfl
        |map=>rfl
        |loop v=>
         obtain⟨y,n,z,A,D,p⟩:=v;simp only;cases y<;>try rfl
         simp only;cases x s U (K.set l (some (.loop ⟨.busy,n,z,A,D,p⟩)))with
         |none=>rfl
         |some E=>
          obtain⟨V,f2,W⟩:=E;simp only;cases W.get l with
          |none=>rfl
          |some F=>
           cases F with
           |cells=>rfl
           |map=>rfl
           |loop E=>
            obtain⟨Y,G,Z,va,vc,H⟩:=E;cases V<;>rfl
theorem aru {z:KX R} (E:atK z x d) (F:avP G c d):atK (NU z G d) (nt x c) d:=by
 intro j f h k;have n: ∀j f h k,z j f h k=match x j f h with |some (e,y,q)=>k e y q |none=>d:=E
 have A: ∀g l h k,G g l h k=match c g l h with |some (v,q)=>k v q |none=>d:=F
 have s:=aqV E F;cases j with
 |skip=>rfl
 |fail=>rfl
 |region p=>
  simp only [NU,nt];rw [afE s];cases bt (gA x c) p f h<;>rfl
 |lN p t=>
  simp only [NU,nt];rw [al0 s];cases cW (gA x c) p t f h [(p.length,h)]<;>rfl
 |seq a b=>
  simp only [NU,nt,n];cases x a f h with
  |none=>rfl
  |some r=>obtain⟨e,y,q⟩:=r;cases e<;>rfl
 |cond v a b=>
  simp only [NU,nt,qR,n];cases f.ev v with
  |bool b=>cases b<;>rfl
  |_=>rfl
 |block id b=>
  simp only [NU,nt,n];cases x b f h with
  |none=>rfl
  |some r=>
   obtain⟨e,y,q⟩:=r;cases e with
   |exit i=>simp only;cases azm i id<;>rfl
   |normal=>rfl
   |ret=>rfl
 |loop b=>
  simp only [NU,nt,n];cases x b f h with
  |none=>rfl
  |some r=>obtain⟨e,y,q⟩:=r;cases e<;>rfl
 |ou g H aCL u=>
  obtain⟨m,l⟩:=h;simp only [NU,nt,qR,aik,W1,n];cases f.ev g<;>try rfl
  simp only;rename_i I K L;rw [GM,A];cases M:c I (K++ [.yield l]++L) ((⟨m,l⟩:AH).new (.loop ⟨.ready,none,f,H,aCL,u⟩))with
  |none=>rfl
  |some r=>
   obtain⟨V,N⟩:=r;simp only;cases N.get l with
   |none=>rfl
   |some O=>
    cases O with
    |cells=>rfl
    |map=>rfl
    |loop P=>
     obtain⟨Q,w,S,T,U,D⟩:=P;cases Q<;>cases w<;>rfl
 |exit id=>rfl
 |ret=>rfl
noncomputable def YQ (d:R) (f:AF) (h:AH) (r:afj) (k:AV->R):R:=
 match r with
 | .t i=>f.YI i k
 |r=>match mE f h r with |some v=>force v k |none=>d
theorem aqO {d:R} f h r k:YQ d f h r k=match mE f h r with |some v=>k v |none=>d:=by
 cases r with
 |t i=>simp [YQ,AF.ES,mE]
 |c1 i=>simp only [YQ,force_eq]
 |cN i n=>simp only [YQ,force_eq]
noncomputable def aiH (d:R) (f:AF) (h:AH) (rs:List afj):(List AV->R)->R:=
 aAD (motive:=λ_=>(List AV->R)->R) (λk=>k []) (λr _ a k=>YQ d f h r λv=>a λl=>k (v::l)) rs
theorem adA {d:R} f h: ∀rs k,aiH d f h rs k=match fp f h rs with |some l=>k l |none=>d
 | [],k=>rfl
 |r::rs,k=>by
  show YQ d f h r (λv=>aiH d f h rs λl=>k (v::l))=_;simp only [aqO,adA f h rs,fp];cases mE f h r with
  |none=>rfl
  |some v=>simp only;cases fp f h rs<;>rfl
noncomputable def azp (d:R) (a:List afj) (k:AV->AH->R) (f:AF) (h:AH):R:=
 aiH d f h a λl=>match l with | [v]=>k v h |l=>k (.tuple l) h
noncomputable def aoI (E:Env) (x:KX R) (d:R):KC R:=λg a h k=>
 match E.vP g a with
 |some v=>k v h
 |none=>
 match E.ext g with
 |some p=>match p a h with |some (v,c)=>cond (aAh h.next c.next) (force v λv=>ER c h.next λc=>k v c) d |none=>d
 |none=>
  match E.fn g with
  |none=>d
  |some ⟨n,j,b⟩=>initK a n λf=>x b f h λe f h=>match e with | .exit _=>d |_=>azp d j k f h
theorem aqL {t:KX R} (y:atK t x d):avP (aoI E t d) (ID E x) d:=by
 intro g a h k;have u: ∀b f h k,t b f h k=match x b f h with |some (e,s,c)=>k e s c |none=>d:=y
 simp only [aoI,ID];cases E.vP g a with
 |some v=>rfl
 |none=>
  simp only;cases E.ext g with
  |some p=>
   simp only [force_eq,Vk];cases p a h with
   |none=>rfl
   |some r=>obtain⟨v,c⟩:=r;simp only;cases aAh h.next c.next<;>rfl
  |none=>
   simp only;cases E.fn g with
   |none=>rfl
   |some F=>
    obtain⟨n,j,q⟩:=F;simp only [asx,u,azp,adA];cases x q (AF.init a n) h with
    |none=>rfl
    |some r=>
     obtain⟨e,s,c⟩:=r;cases e with
     |exit i=>rfl
     |normal=>
      simp only;cases fp s c j with
      |none=>rfl
      |some l=>match l with
       | []=>rfl
       | [v]=>rfl
       |v::w::l=>rfl
     |ret=>
      simp only;cases fp s c j with
      |none=>rfl
      |some l=>match l with
       | []=>rfl
       | [v]=>rfl
       |v::w::l=>rfl
structure aAr (R:Type) where
 x:KX R
 c:KC R
noncomputable def ayR (E:Env) (d:R) (n:Nat):aAr R:=Nat.rec ⟨λ_ _ _ _=>d,λ_ _ _ _=>d⟩ (λ_ r=>⟨NU r.x r.c d,aoI E r.x d⟩) n
noncomputable def au1 (E:Env) (d:R) (n:Nat):KC R:=(ayR E d n).c
theorem apC E (d:R): ∀n,atK (ayR E d n).x (exec E n) d/\avP (ayR E d n).c (Dg E n) d
 |0=>⟨λ_ _ _ _=>rfl,λ_ _ _ _=>rfl⟩
 |n+1=>by
  obtain⟨a,b⟩:=apC E d n;exact⟨aru a b,aqL a⟩
theorem arq E (d:R) n g l h k:au1 E d n g l h k=match Dg E n g l h with |some (v,a)=>k v a |none=>d:=(apC E d n).2 g l h k
end
noncomputable def Ll (E:Env) (n g:Nat) (a:List AV) (v:AV):Bool:=au1 E false n g a H0 λb _=>AV.same b v
theorem YL (h:Ll E n g a v=true): ∃H',Dg E n g a H0=some (v,H'):=by
 simp only [Ll,arq]at h;cases b:Dg E n g a H0 with
 |none=>rw [b]at h;cases h
 |some r=>
  obtain⟨c,H'⟩:=r;rw [b]at h;rw [AV.dG _ _ h];exact⟨H',rfl⟩
structure Hp where
 g:Nat
 h:Nat
 args:List AV
 v:AV
abbrev Tbl:=PT (List Hp)
noncomputable def azK (s:List UInt8):Nat->Nat:=aAD (motive:=λ_=>Nat->Nat) (λn=>n) (λb _ ih n=>ih (Nat.add (Nat.mul n 3) b.toNat)) s
noncomputable def azM (v:AV):Nat:=match v with | .str s=>azK s 1 | .int _ n=>n.natAbs |_=>0
noncomputable def azX (l:List AV):Nat->Nat:=aAD (motive:=λ_=>Nat->Nat) (λn=>n) (λv _ ih n=>ih (Nat.add (Nat.mul n 5) (azM v))) l
noncomputable def XQ (g h:Nat) (args:List AV) (l:List Hp):Option AV:=
 aAD (motive:=λ_=>Option AV) none (λe _ ih=>aAc (motive:=λ_=>Option AV) ih (aAc (motive:=λ_=>Option AV) ih (some e.v) (azm e.g g&&AV.mZ e.args args)) (azm e.h h)) l
noncomputable def ajR (t:Tbl) (g:Nat) (args:List AV):Option AV:=YI t g none λl=>Dv (azX args 0) λh=>XQ g h args l
def abe: ∀ {l},XQ g h args l=some v-> ∃e∈l,e.g=g/\e.args=args/\e.v=v
 | [],hf=>by cases hf
 |e::l,hf=>by
  have hf':aAc (motive:=λ_=>Option AV) (XQ g h args l) (aAc (motive:=λ_=>Option AV) (XQ g h args l) (some e.v) (azm e.g g&&AV.mZ e.args args)) (azm e.h h)=some v:=hf;have next:XQ g h args l=some v-> ∃e'∈e::l,e'.g=g/\e'.args=args/\e'.v=v:=λhn=>by
   obtain⟨e',h1,h2⟩:=abe hn;exact⟨e',by simp [h1],h2⟩
  cases hb:azm e.h h with
  |false=>rw [hb]at hf';exact next hf'
  |true=>
   rw [hb]at hf';cases hc:(azm e.g g&&AV.mZ e.args args)with
   |false=>rw [hc]at hf';exact next hf'
   |true=>
    rw [hc]at hf';cases hf';simp only [azl]at hc;exact⟨e,ab,azy hc.1,AV.qn _ _ hc.2,rfl⟩
def Ou (p:Hp->Bool):Tbl->Bool
 | .leaf=>true
 | .node l v r=>Ou p l&&(match v with |none=>true |some es=>es.all p)&&Ou p r
def acQ: ∀ {t},Ou p t=true-> ∀ {i} {es},t.get i=some es-> ∀e∈es,p e=true
 | .leaf,_,i,es,hg=>by cases hg
 | .node l v r,ha,i,es,hg=>by
  simp only [Ou,azl]at ha;simp only [PT.get]at hg;cases hb:azm i 0 with
  |true=>
   rw [hb,cond_true]at hg;subst hg;intro e he;exact List.all_eq_true.1 ha.1.2 e he
  |false=>
   rw [hb,cond_false]at hg;cases hc:azm (i%2) 1 with
   |true=>rw [hc,cond_true]at hg;exact acQ ha.1.1 hg
   |false=>rw [hc,cond_false]at hg;exact acQ ha.2 hg
def arH (h:ajR t g args=some v) (ha:Ou p t=true): ∃e,p e=true/\e.g=g/\e.args=args/\e.v=v:=by
 simp only [ajR,ES,A3]at h;cases hg:t.get g with
 |none=>rw [hg]at h;cases h
 |some es=>
  rw [hg]at h;obtain⟨e,h1,h2⟩:=abe h;exact⟨e,acQ ha hg e h1,h2⟩
noncomputable def gg (E:Env) (n:Nat) (e:Hp):Bool:=AV.aes e.args&&AV.flat e.v&&(E.fn e.g).isSome&&Ll E n e.g e.args e.v
def awj (aBl:yA P tab) (aBr:P.follows .mixedOrders=true) (hE:EW P tab E) (ht:Ou (gg E n) t=true):
  ∀g args v,ajR t g args=some v->Yq P tab g args v:=by
 intro g args v h;obtain⟨e,h1,rfl,rfl,rfl⟩:=arH h ht;simp only [gg,azl]at h1;obtain⟨H',hr⟩:=YL h1.2;exact K2 aBl aBr hE hr h1.1.2 h1.1.1.1 h1.1.1.2
noncomputable def Env.more (E:Env) (t:Tbl):Env:= {E with vP:=λg args=>match ajR t g args with |some v=>some v |none=>E.vP g args}
def R5 {P:Program} {tab:Fu} (aBl:yA P tab) (aBr:P.follows .mixedOrders=true) {E:Env} (hE:EW P tab E) {n:Nat} {t:Tbl} (ht:Ou (gg E n) t=true):EW P tab (E.more t) where
 fn:=hE.fn
 ext:=hE.ext
 vP g args v h:=by
  simp only [Env.more]at h;cases hl:ajR t g args with
  |some v1=>rw [hl]at h;cases h;exact awj aBl aBr hE ht g args _ hl
  |none=>rw [hl]at h;exact hE.vP g args v h
section
variable {α β:Type}
def Le (a b:Option α):Prop:= ∀x,a=some x->b=some x
theorem Le.refl (a:Option α):Le a a:=λ_ h=>h
theorem Le.trans {a b c:Option α} (h:Le a b) (d:Le b c):Le a c:=λx e=>d x (h x e)
theorem Le.none (a:Option α):Le none a:=λ_ h=>by cases h
theorem Le.bind {k k':α->Option β} (h:Le a b) (c: ∀x,Le (k x) (k' x)):Le (a.bind k) (b.bind k'):=λy e=>by
 cases a with
 |none=>cases e
 |some x=>rw [h x rfl];exact c x y e
def Up (φ:Nat->Option α):Prop:= ∀n,Le (φ n) (φ (n+1))
theorem Up.le {φ:Nat->Option α} (h:Up φ) (a:n<=m):Le (φ n) (φ m):=by
 induction a with
 |refl=>exact .refl _
 |step _ b=>exact b.trans (h _)
theorem Up.const (a:Option α):Up λ_=>a:=λ_=> .refl _
theorem Up.bind {ψ:α->Nat->Option β} (h:Up φ) (a: ∀x,Up (ψ x)):Up λn=>(φ n).bind λx=>ψ x n:=λn=>(h n).bind λx=>a x n
open Classical in
noncomputable def lim (φ:Nat->Option α):Option α:=if h: ∃n x,φ n=some x then φ h.choose else none
theorem Xh {φ:Nat->Option α} (h:Up φ) (e:φ n=some x):lim φ=some x:=by
 have a: ∃n x,φ n=some x:=⟨n,x,e⟩;rw [lim,dif_pos a];obtain⟨y,b⟩:=a.choose_spec;have d:=h.le (Nat.le_max_left a.choose n) _ b;have c:=h.le (Nat.le_max_right a.choose n) _ e;rw [d]at c;rw [b];exact c
theorem RQ {φ:Nat->Option α} (h:Up φ):lim φ=some x↔ ∃n,φ n=some x:=by
 constructor
 ·intro e;by_cases a: ∃n x,φ n=some x
  ·rw [lim,dif_pos a]at e;exact⟨_,e⟩
  ·rw [lim,dif_neg a]at e;cases e
 ·rintro⟨n,e⟩;exact Xh h e
theorem arZ (a:Option α):(lim λ_=>a)=a:=by
 cases a with
 |some x=>exact Xh (.const _) (n:=0) rfl
 |none=>
  have: ¬ ∃(n:Nat) (x:α),(λ_:Nat=>(none:Option α)) n=some x:=λ⟨_,_,h⟩=>by cases h
  rw [lim,dif_neg this]
theorem aph {a b:Option α} (h: ∀x,a=some x↔b=some x):a=b:=by
 cases a with
 |none=>cases b with
  |none=>rfl
  |some y=>exact((h y).2 rfl)
 |some x=>exact((h x).1 rfl).symm
theorem asn {ψ:α->Nat->Option β} (h:Up φ) (c: ∀x,Up (ψ x)):(lim λn=>(φ n).bind λx=>ψ x n)=(lim φ).bind λx=>lim (ψ x):=by
 apply aph;intro y;rw [RQ (h.bind c),aAK];constructor
 ·rintro⟨n,e⟩;rw [aAK]at e;obtain⟨x,a,b⟩:=e;exact⟨x,Xh h a,Xh (c x) b⟩
 ·rintro⟨x,a,b⟩;obtain⟨n,a⟩:=(RQ h).1 a;obtain⟨m,b⟩:=(RQ (c x)).1 b;refine⟨max n m, ?_⟩;rw [h.le (Nat.le_max_left n m) _ a];exact(c x).le (Nat.le_max_right n m) _ b
theorem alf {φ:Nat->Option α} (h:Up φ):(lim λn=>φ (n+1))=lim φ:=by
 apply aph;intro x;rw [RQ h,RQ (λn=>h (n+1))];exact⟨λ⟨n,e⟩=>⟨n+1,e⟩,λ⟨n,e⟩=>⟨n,h n x e⟩⟩
end
def FP (h:AH) (l:Nat):Option atq:=match h.get l with |some (.loop r)=>some r |_=>none
def IS (l:Nat) (q:AE×AF×AH):Option (AV×AH):=
 (FP q.2.2 l).bind λa=>some (.bool (match q.1 with | .normal=>true |_=>false),q.2.2.set l (some (.loop {a with st:=(match q.1 with | .normal=> .ready |_=> .done),Be:=q.1.Be})))
def aiM (x:XF) (l:Nat) (a:dy) (p:AE×AF×AH):Option (AV×AH):=
 match p.1 with
 | .normal=>(FP p.2.2 l).bind λb=>match b.st with
  | .ready=>(x a p.2.1 (p.2.2.set l (some (.loop {b with st:= .busy})))).bind (IS l)
  |_=>none
 |_=>none
def XLe (x x':XF):Prop:= ∀c f h,Le (x c f h) (x' c f h)
def CLe (c b:CF):Prop:= ∀g a h,Le (c g a h) (b g a h)
noncomputable def azC (xs:Nat->XF):XF:=λc f h=>lim λn=>xs n c f h
noncomputable def azI (cs:Nat->CF):CF:=λg a h=>lim λn=>cs n g a h
structure tJ {α:Type} (F:XF->CF->Option α):Prop where
 le: ∀x x' c c',XLe x x'->CLe c c'->Le (F x c) (F x' c')
 lim: ∀xs cs,(∀n,XLe (xs n) (xs (n+1)))->(∀n,CLe (cs n) (cs (n+1)))->(dC.lim λn=>F (xs n) (cs n))=F (azC xs) (azI cs)
theorem tJ.const (a:Option α):tJ λ_ _=>a:=⟨λ_ _ _ _ _ _=> .refl _,λ_ _ _ _=>arZ a⟩
theorem tJ.x a f h:tJ λx _=>x a f h:=⟨λ_ _ _ _ b _=>b _ _ _,λ_ _ _ _=>rfl⟩
theorem tJ.c g a h:tJ λ_ c=>c g a h:=⟨λ_ _ _ _ _ b=>b _ _ _,λ_ _ _ _=>rfl⟩
theorem tJ.bind {α β:Type} {F:XF->CF->Option α} {G:α->XF->CF->Option β} (j:tJ F) (k: ∀a,tJ (G a)):tJ λx c=>(F x c).bind λa=>G a x c where
 le x x' c l b d:=(j.le x x' c l b d).bind λa=>(k a).le x x' c l b d
 lim f h b d:=by
  rw [asn (φ:=λn=>F (f n) (h n)) (ψ:=λa n=>G a (f n) (h n)) (λn=>j.le _ _ _ _ (b n) (d n)) (λa n=>(k a).le _ _ _ _ (b n) (d n)),j.lim f h b d];congr 1;funext a;exact(k a).lim f h b d
theorem tJ.congr {F G:XF->CF->Option α} (h: ∀x c,F x c=G x c) (a:tJ G):tJ F:=by
 have:F=G:=by funext x c;exact h x c
 rw [this];exact a
theorem abh x c l a h:gA x c (.yield l) a h=(FP h l).bind λr=>(mh r.f r.ps a).bind λf=>(x r.assign f h).bind λp=>aiM x l r.body p:=by
 simp only [gA,FP];cases h.get l with
 |none=>rfl
 |some n=>
  cases n with
  |cells=>rfl
  |map=>rfl
  |loop r=>
   simp only [azW];cases mh r.f r.ps a with
   |none=>rfl
   |some f=>
    simp only [azW];cases x r.assign f h with
    |none=>rfl
    |some p=>
     obtain⟨e,s,j⟩:=p;cases e with
     |exit i=>rfl
     |ret=>rfl
     |normal=>
      simp only [azW,aiM,FP];cases j.get l with
      |none=>rfl
      |some b=>
       cases b with
       |cells=>rfl
       |map=>rfl
       |loop k=>
        simp only [azW];cases k.st with
        |busy=>rfl
        |done=>rfl
        |exhausted=>rfl
        |ready=>
         simp only;cases x r.body s (j.set l (some (.loop {k with st:= .busy})))with
         |none=>rfl
         |some q=>
          obtain⟨u,v,t⟩:=q;simp only [azW,IS,FP];cases t.get l with
          |none=>rfl
          |some d=>cases d<;>rfl
theorem tJ.gA g d h:tJ λx c=>gA x c g d h:=by
 cases g with
 |func f a b=>exact .c _ _ _
 |yield l=>
  refine .congr (λx c=>abh x c l d h) (.bind (.const _) λr=> .bind (.const _) λf=> .bind (.x _ _ _) λp=> ?_);obtain⟨e,k,n⟩:=p;cases e with
  |exit i=>exact .const none
  |ret=>exact .const none
  |normal=>
   refine .bind (.const _) λj=> ?_
   cases j.st with
   |ready=>exact .bind (.x _ _ _) λq=> .const _
   |busy=>exact .const none
   |done=>exact .const none
   |exhausted=>exact .const none
 |_=>exact .const none
theorem tJ.aZ op f h:tJ λx c=>aZ (dC.gA x c) op f h:=by
 cases op with
 |call g a=>exact .gA _ _ _
 |conv k x=>cases k<;>exact .const _
 |_=>exact .const _
theorem tJ.dQ op f h:tJ λx c=>dQ (dC.gA x c) op f h:=by
 simp only [dC.dQ];cases cls op with
 |P=>exact .const _
 |R=>exact .const _
 |A=>exact .const _
 |E=>exact .aZ op f h
theorem akW cv o os f h:bt cv (o::os) f h=
  cond (aT f o.g) ((dQ cv o.op f h).bind λr=>(f.put o.dst r.1).bind λf'=>bt cv os f' r.2) ((f.put o.dst .undef).bind λf'=>bt cv os f' h):=by
 simp only [bt];cases aT f o.g with
 |false=>simp only [cond_false];cases f.put o.dst .undef<;>rfl
 |true=>
  simp only [cond_true];cases dQ cv o.op f h with
  |none=>rfl
  |some r=>obtain⟨v,a⟩:=r;simp only [azW];cases f.put o.dst v<;>rfl
theorem tJ.bt: ∀ops f h,tJ λx c=>bt (dC.gA x c) ops f h
 | [],f,h=> .const _
 |o::a,f,h=>by
  refine .congr (λx c=>akW _ o a f h) ?_;cases aT f o.g with
  |false=>exact .bind (.const _) λb=>tJ.bt a b h
  |true=>exact .bind (.dQ _ _ _) λr=> .bind (.const _) λb=>tJ.bt a b r.2
theorem ark cv ops i m c f h a:cW cv ops ((i,m)::c) f h a=
  (ops[i]?).bind λo=>cond (aT f o.g)
   (match cls o.op with
    | .P=>(aw o.op f).bind λv=>(f.put o.dst v).bind λf'=>cW cv ops c f' h a
    | .R=>match a with
     | []=>none
     |(e,g)::d=>(aR o.op f g).bind λv=>cond (bJ o.op f v m ((e,g)::d)) ((f.put o.dst v).bind λf'=>cW cv ops c f' h a) none
    | .A=>(aW o.op f h.next).bind λr=>(f.put o.dst r.1).bind λf'=>cW cv ops c f' (h.new r.2) a
    | .E=>(aZ cv o.op f h).bind λr=>(f.put o.dst r.1).bind λf'=>cW cv ops c f' r.2 ((i,r.2)::a))
   ((f.put o.dst .undef).bind λf'=>cW cv ops c f' h a):=by
 simp only [cW];cases ops[i]? with
 |none=>rfl
 |some o=>
  simp only [azW];cases aT f o.g with
  |false=>simp only [cond_false];cases f.put o.dst .undef<;>rfl
  |true=>
   simp only [cond_true];cases cls o.op with
   |P=>simp only;cases aw o.op f with
    |none=>rfl
    |some v=>simp only [azW];cases f.put o.dst v<;>rfl
   |R=>simp only;cases a with
    |nil=>rfl
    |cons j d=>
     obtain⟨e,g⟩:=j;simp only;cases aR o.op f g with
     |none=>rfl
     |some v=>
      simp only [azW];cases bJ o.op f v m ((e,g)::d)with
      |false=>rfl
      |true=>simp only [cond_true];cases f.put o.dst v<;>rfl
   |A=>simp only;cases aW o.op f h.next with
    |none=>rfl
    |some r=>obtain⟨v,b⟩:=r;simp only [azW];cases f.put o.dst v<;>rfl
   |E=>simp only;cases aZ cv o.op f h with
    |none=>rfl
    |some r=>obtain⟨v,k⟩:=r;simp only [azW];cases f.put o.dst v<;>rfl
theorem tJ.cW ops: ∀k f h a,tJ λx c=>cW (dC.gA x c) ops k f h a
 | [],f,h,a=> .const _
 |(i,m)::b,f,h,a=>by
  refine .congr (λx c=>ark _ ops i m b f h a) (.bind (.const _) λo=> ?_);cases aT f o.g with
  |false=>exact .bind (.const _) λd=>tJ.cW ops b d h a
  |true=>
   simp only [cond_true];cases cls o.op with
   |P=>exact .bind (.const _) λv=> .bind (.const _) λd=>tJ.cW ops b d h a
   |R=>cases a with
    |nil=>exact .const _
    |cons l j=>
     obtain⟨e,g⟩:=l;refine .bind (.const _) λv=> ?_
     cases bJ o.op f v m ((e,g)::j)with
     |false=>exact .const _
     |true=>exact .bind (.const _) λd=>tJ.cW ops b d h _
   |A=>exact .bind (.const _) λr=> .bind (.const _) λd=>tJ.cW ops b d _ a
   |E=>exact .bind (.aZ _ _ _) λr=> .bind (.const _) λd=>tJ.cW ops b d _ _
def as6 (p:AF×AH):Option (AE×AF×AH):=some (.normal,p.1,p.2)
theorem tJ.nt k f h:tJ λx c=>nt x c k f h:=by
 cases k with
 |skip=>exact .const _
 |fail=>exact .const _
 |exit i=>exact .const _
 |ret=>exact .const _
 |region d=>
  refine .congr (G:=λx c=>(dC.bt (dC.gA x c) d f h).bind as6) (λx c=> ?_) (.bind (.bt _ _ _) λp=> .const _);simp only [dC.nt];cases dC.bt (dC.gA x c) d f h<;>rfl
 |lN d l=>
  refine .congr (G:=λx c=>(dC.cW (dC.gA x c) d l f h [(d.length,h)]).bind as6) (λx c=> ?_) (.bind (.cW _ _ _ _ _) λp=> .const _);simp only [dC.nt];cases dC.cW (dC.gA x c) d l f h [(d.length,h)]<;>rfl
 |seq a b=>
  refine .congr (G:=λx c=>(x a f h).bind λr=>match r.1 with | .normal=>x b r.2.1 r.2.2 |_=>some r) (λx c=> ?_) (.bind (.x _ _ _) λr=> ?_)
  ·simp only [dC.nt];cases x a f h with
   |none=>rfl
   |some r=>obtain⟨e,n,s⟩:=r;cases e<;>rfl
  ·obtain⟨e,n,s⟩:=r;cases e with
   |normal=>exact .x _ _ _
   |_=>exact .const _
 |cond v a b=>
  cases t:f.ev v with
  |bool q=>
   cases q with
   |true=>exact .congr (G:=λx _=>x a f h) (λx c=>by simp only [dC.nt,t]) (.x _ _ _)
   |false=>exact .congr (G:=λx _=>x b f h) (λx c=>by simp only [dC.nt,t]) (.x _ _ _)
  |_=>exact .congr (G:=λ_ _=>none) (λx c=>by simp only [dC.nt,t]) (.const _)
 |block id b=>
  refine .congr (G:=λx c=>(x b f h).bind λr=>match r.1 with | .exit i=>aAc (some (.exit i,r.2.1,r.2.2)) (some (.normal,r.2.1,r.2.2)) (azm i id) |_=>some r) (λx c=> ?_) (.bind (.x _ _ _) λr=> .const _);simp only [dC.nt];cases x b f h with
  |none=>rfl
  |some r=>
   obtain⟨e,n,s⟩:=r;cases e with
   |exit i=>simp only [azW];cases azm i id<;>rfl
   |_=>rfl
 |loop b=>
  refine .congr (G:=λx c=>(x b f h).bind λr=>match r.1 with | .normal=>x (.loop b) r.2.1 r.2.2 |_=>some r) (λx c=> ?_) (.bind (.x _ _ _) λr=> ?_)
  ·simp only [dC.nt];cases x b f h with
   |none=>rfl
   |some r=>obtain⟨e,n,s⟩:=r;cases e<;>rfl
  ·obtain⟨e,n,s⟩:=r;cases e with
   |normal=>exact .x _ _ _
   |_=>exact .const _
 |ou g ps aCL body=>
  cases u:f.ev g with
  |func w y z=>
   refine .congr (G:=λx c=>(c w (y++ [.yield h.next]++z) (h.new (.loop {st:= .ready,Be:=none,f:=f,ps:=ps,assign:=aCL,body:=body}))).bind λr=>(FP r.2 h.next).bind λq=>
    match q.st with | .busy=>none |_=>match q.Be with |none=>some (.normal,f,r.2.set h.next none) |some j=>x j f (r.2.set h.next none)) (λx c=> ?_) (.bind (.c _ _ _) λr=> .bind (.const _) λq=> ?_)
   ·simp only [dC.nt,u];cases c w (y++ [.yield h.next]++z) (h.new (.loop {st:= .ready,Be:=none,f:=f,ps:=ps,assign:=aCL,body:=body}))with
    |none=>rfl
    |some r=>
     obtain⟨v,A⟩:=r;simp only [azW,FP];cases A.get h.next with
     |none=>rfl
     |some D=>
      cases D with
      |cells=>rfl
      |map=>rfl
      |loop q=>
       simp only [azW];rfl
   ·cases q.st with
    |busy=>exact .const _
    |_=>
     cases q.Be with
     |none=>exact .const _
     |some j=>exact .x _ _ _
  |_=>exact .congr (G:=λ_ _=>none) (λx c=>by simp only [dC.nt,u]) (.const _)
def gY (F:AFn) (r:AE×AF×AH):Option (AV×AH):=
 match r.1 with
 | .exit _=>none
 |_=>(fp r.2.1 r.2.2 F.res).bind λl=>match l with | [v]=>some (v,r.2.2) |l=>some (.tuple l,r.2.2)
theorem Ip (E:Env) (x:XF) (g:Nat) (a:List AV) (h:AH):ID E x g a h=match E.vP g a with
  |some v=>some (v,h)
  |none=>match E.ext g with
   |some p=>match p a h with |some (v,b)=>cond (aAh h.next b.next) (some (v,b)) none |none=>none
   |none=>(E.fn g).bind λF=>(x F.body (AF.init a F.ntmps) h).bind (gY F):=by
 simp only [ID];cases E.vP g a with
 |some v=>rfl
 |none=>
  simp only;cases E.ext g with
  |some p=>rfl
  |none=>
   simp only;cases E.fn g with
   |none=>rfl
   |some F=>
    simp only [azW];cases x F.body (AF.init a F.ntmps) h with
    |none=>rfl
    |some r=>
     obtain⟨e,c,b⟩:=r;simp only [azW,gY];cases e with
     |exit i=>rfl
     |normal=>
      simp only;cases fp c b F.res with
      |none=>rfl
      |some l=>match l with
       | []=>rfl
       | [v]=>rfl
       |v::w::l=>rfl
     |ret=>
      simp only;cases fp c b F.res with
      |none=>rfl
      |some l=>match l with
       | []=>rfl
       | [v]=>rfl
       |v::w::l=>rfl
theorem tJ.ID E g a h:tJ λx _=>ID E x g a h:=by
 refine .congr (λx c=>Ip E x g a h) ?_;cases E.vP g a with
 |some v=>exact .const _
 |none=>
  simp only;cases E.ext g with
  |some p=>exact .const _
  |none=>exact .bind (.const _) λF=> .bind (.x _ _ _) λr=> .const _
theorem Ki E: ∀n,XLe (exec E n) (exec E (n+1))/\CLe (Dg E n) (Dg E (n+1))
 |0=>⟨λ_ _ _=>Le.none _,λ_ _ _=>Le.none _⟩
 |n+1=>by
  obtain⟨b,d⟩:=Ki E n;refine⟨λc f h=> ?_,λg a h=> ?_⟩
  ·rw [Sa,Sa];exact(tJ.nt c f h).le _ _ _ _ b d
  ·rw [Ns,Ns];exact(tJ.ID E g a h).le _ _ _ _ b d
noncomputable def X (E:Env):XF:=azC (exec E)
noncomputable def C (E:Env):CF:=azI (Dg E)
theorem agj E a f h:X E a f h=nt (X E) (C E) a f h:=by
 have b:=(tJ.nt a f h).lim (exec E) (Dg E) (λn=>(Ki E n).1) (λn=>(Ki E n).2);show(lim λn=>exec E n a f h)=_;rw [<-alf (φ:=λn=>exec E n a f h) (λn=>(Ki E n).1 _ _ _)];exact b
theorem awO E g a h:C E g a h=ID E (X E) g a h:=by
 have b:=(tJ.ID E g a h).lim (exec E) (Dg E) (λn=>(Ki E n).1) (λn=>(Ki E n).2);show(lim λn=>Dg E n g a h)=_;rw [<-alf (φ:=λn=>Dg E n g a h) (λn=>(Ki E n).2 _ _ _)];exact b
theorem azO (e:C E g a h=some (v,b)): ∃n,Dg E n g a h=some (v,b):=
 (RQ (λn=>(Ki E n).2 _ _ _)).1 e
def Ok {α:Type} (o:Option α) (P:α->Prop):Prop:= ∃a,o=some a/\P a
@[simp] theorem az9 (a:α) P:Ok (some a) P↔P a:=⟨λ⟨b,h,c⟩=>(by cases h;exact c),λh=>⟨a,rfl,h⟩⟩
@[simp] theorem aAj (P:α->Prop):Ok none P↔False:=⟨λ⟨b,h,a⟩=>(by cases h),λh=>False.elim h⟩
theorem Ok.mono {o:Option α} (h:Ok o P) (b: ∀a,P a->Q a):Ok o Q:=let⟨a,c,d⟩:=h;⟨a,c,b a d⟩
def eD (E:Env) (g:Nat) (F:AFn):Prop:=E.fn g=some F/\(∀a,E.vP g a=none)/\E.ext g=none
def AF.p (f:AF) (d:Nat) (v:AV):AF:= {f with m:=f.m.set d (some v)}
@[simp] theorem AF.p_n (f:AF) d v:(f.p d v).n=f.n:=rfl
theorem AF.axt (f:AF) d v i:(f.p d v).get i=if i=d then v else f.get i:=by
 simp only [AF.p,AF.get,PT.mK];by_cases h:i=d<;>simp [h]
@[simp] theorem AF.aft (f:AF) d v:(f.p d v).get d=v:=by rw [AF.axt,if_pos rfl]
@[simp] theorem AF.adF (f:AF) d v i (h: ¬i=d):(f.p d v).get i=f.get i:=by rw [AF.axt,if_neg h]
theorem AF.cX (f:AF) d v (h:d<f.n):f.put (some d) v=some (f.p d v):=by
 simp only [AF.put,AF.p];rw [show aAv d f.n=true by simpa [aAp]using h];rfl
@[simp] theorem AF.azH (f:AF) v:f.put none v=some f:=rfl
@[simp] theorem AF.KS (f:AF) i:f.ev (.t i)=f.get i:=rfl
@[simp] theorem AF.aA9 (f:AF) v:f.ev (.c v)=v:=rfl
theorem AF.sW a n:(AF.init a n).n=max a.length n:=rfl
@[simp] theorem AH.get_set_same (H:AH) i b:(H.set i b).get i=b:=by rw [AH.mK,if_pos rfl]
@[simp] theorem AH.awr (H:AH) b:(H.new b).get H.next=some b:=by rw [AH.rm,if_pos rfl]
theorem AH.dS {H:AH} b (h:j≠i):(H.set i b).get j=H.get j:=by rw [AH.mK,if_neg (λe=>h e.symm)]
theorem AH.eg {H:AH} b (h:j≠H.next):(H.new b).get j=H.get j:=by rw [AH.rm,if_neg (λe=>h e.symm)]
@[simp] theorem px k (n:Nat):uK (.int k n)=some n:=rfl
@[simp] theorem azj k n:uK (.int k (OfNat.ofNat n))=some n:=rfl
theorem bm (a b:Nat):bZ a b=decide (a<b):=by simp [bZ]
theorem bk (a b:Nat):dD a b=decide (a<=b):=by simp [dD]
theorem agV {n:Nat} (h:n+1<=1099511627776):IntKind.i64.wrap (n+1)=((n+1:Nat):Int):=by
 rw [show(n:Int)+1=((n+1:Nat):Int) by simp];exact wsX h
theorem bD a b:aAv a b=decide (a<b):=by
 by_cases h:a<b
 ·simp [h,aAp]
 ·simp only [h,decide_false];cases c:aAv a b with
  |false=>rfl
  |true=>exact absurd (by simpa [aAp]using c) h
theorem bh (a b:Nat):aAh a b=decide (a<=b):=by
 by_cases h:a<=b
 ·simp [h,Nat.ble_eq]
 ·simp [h,Sc h]
theorem bn (a b:Nat):azm a b=decide (a=b):=by
 by_cases h:a=b
 ·simp [h,az0]
 ·simp [h,beq_false h]
theorem Int.aU a:Int.same a a=true:=by rw [jm];simp
theorem IntKind.aU a:IntKind.same a a=true:=by cases a<;>rfl
theorem Oz a:D7 a a=true:=by rcases a with _ |⟨a,b⟩<;>simp [D7,az0]
mutual
theorem AV.aV: ∀a:AV,AV.same a a=true
 | .int k n=>by simp [AV.same,Int.aU,IntKind.aU]
 | .bool b=>by simp [AV.same]
 | .str s=>by simp [AV.same,dZ]
 | .ptr a=>by simp [AV.same,Oz]
 | .slice a l c e=>by simp [AV.same,Oz,az0]
 | .map none=>by simp [AV.same]
 | .map (some r)=>by simp [AV.same,az0]
 | .func f x y=>by simp [AV.same,az0,AV.Jd x,AV.Jd y]
 | .yield l=>by simp [AV.same,az0]
 | .nilFunc=>by simp [AV.same]
 | .iface t v=>by simp [AV.same,az0,AV.aV v]
 | .nilIface=>by simp [AV.same]
 | .agg l=>by simp [AV.same,AV.Jd l]
 | .tuple l=>by simp [AV.same,AV.Jd l]
theorem AV.Jd: ∀a:List AV,AV.mZ a a=true
 | []=>by simp [AV.mZ]
 |a::aCL=>by simp [AV.mZ,AV.aV a,AV.Jd aCL]
end
theorem b5:Int.same 0 0=true:=rfl
theorem aH a:bZ a a=false:=by simp [bZ]
section
variable {E:Env} {f:AF} {h:AH}
theorem bN:X E .skip f h=some (.normal,f,h):=by rw [agj];rfl
theorem cV:X E .ret f h=some (.ret,f,h):=by rw [agj];rfl
theorem bQ:X E (.exit i) f h=some (.exit i,f,h):=by rw [agj];rfl
theorem bj:X E (.region ops) f h=match bt (gA (X E) (C E)) ops f h with |some (f',a)=>some (.normal,f',a) |none=>none:=by rw [agj];rfl
theorem aX:X E (.lN ops a) f h=match cW (gA (X E) (C E)) ops a f h [(ops.length,h)]with |some (f',b)=>some (.normal,f',b) |none=>none:=by rw [agj];rfl
theorem cR:X E (.seq a b) f h=match X E a f h with |some (.normal,f',c)=>X E b f' c |r=>r:=by rw [agj];rfl
theorem bC:X E (.cond v a b) f h=match f.ev v with | .bool true=>X E a f h | .bool false=>X E b f h |_=>none:=by rw [agj];rfl
theorem bx {id} :X E (.block id b) f h=match X E b f h with |some (.exit i,f',a)=>cond (azm i id) (some (.normal,f',a)) (some (.exit i,f',a)) |r=>r:=by rw [agj];rfl
theorem Vp:X E (.loop b) f h=match X E b f h with |some (.normal,f',a)=>X E (.loop b) f' a |r=>r:=by rw [agj];rfl
theorem cL (Q:AF->AH->Prop) (k:Ok (X E a f h) λr=>r.1= .normal/\Q r.2.1 r.2.2) (l: ∀f' c,Q f' c->Ok (X E b f' c) P):Ok (X E (.seq a b) f h) P:=by
 obtain⟨⟨e,f',c⟩,n,d,j⟩:=k;simp only at d j;subst d;rw [cR,n];exact l f' c j
theorem GR (Q:AF->AH->Prop) (l:Ok (X E a f h) λr=>(r.1= .normal/\Q r.2.1 r.2.2)\/(r.1≠ .normal/\P r)) (n: ∀f' d,Q f' d->Ok (X E b f' d) P):Ok (X E (.seq a b) f h) P:=by
 obtain⟨⟨e,f',d⟩,p,c⟩:=l;simp only at c;rw [cR,p];rcases c with⟨rfl,q⟩ |⟨j,k⟩
 ·exact n f' d q
 ·cases e with
  |normal=>exact absurd rfl j
  |exit i=>simpa using k
  |ret=>simpa using k
theorem rX (c:Ok (X E b f h) λr=>P (match r.1 with | .exit j=>cond (azm j i) (.normal,r.2.1,r.2.2) (.exit j,r.2.1,r.2.2) |_=>r)):Ok (X E (.block i b) f h) P:=by
 obtain⟨⟨e,l,n⟩,d,a⟩:=c;rw [bx,d];cases e with
 |exit j=>simp only at a⊢;cases k:azm j i<;>rw [k]at a<;>simpa using a
 |normal=>simpa using a
 |ret=>simpa using a
theorem vK {k:α->Option j} (h:Ok o λa=>Ok (k a) P):Ok (o.bind k) P:=by
 obtain⟨a,rfl,b,c,d⟩:=h;exact⟨b,c,d⟩
theorem abf {o:Option α} (h:Ok o λa=>a=x):o=some x:=by
 obtain⟨a,rfl,rfl⟩:=h;rfl
theorem aAy (b:E.vP g a=none) (c:E.ext g=none) (d:E.fn g=some F):C E g a h=(X E F.body (AF.init a F.ntmps) h).bind (gY F):=by
 rw [awO,Ip,b,c,d];rfl
theorem afh (b:E.vP g a=some v):C E g a h=some (v,h):=by
 rw [awO,Ip,b]
end
theorem eD.C (h:eD E g F) a H:C E g a H=(X E F.body (AF.init a F.ntmps) H).bind (gY F):=aAy (h.2.1 a) h.2.2 h.1
theorem AK a n i:(AF.init [a] n).get i=if i=0 then a else .undef:=by
 rw [AF.Mg];cases i<;>simp
theorem sE a b n i:(AF.init [a,b] n).get i=if i=0 then a else if i=1 then b else .undef:=by
 rw [AF.Mg];rcases i with _ |_ |i<;>simp
theorem aL x c g a b d h:gA x c (.func g a b) d h=c g (a++d++b) h:=rfl
theorem qz:aD [48] [48]=true:=rfl
def jh (H H':AH):Prop:=H.next<=H'.next/\ ∀i,i<H.next->H'.get i=H.get i
def jh.refl H:jh H H:=⟨azv _,λ_ _=>rfl⟩
def jh.trans (h:jh H H') (h':jh H' H''):jh H H'':=⟨aAm h.1 h'.1,λi hi=>(h'.2 i (aAa hi h.1)).trans (h.2 i hi)⟩
def jh.new H b:jh H (H.new b):=⟨ab,λi hi=>AH.eg b (Nat.ne_of_lt hi)⟩
def jh.set {H0} (h:jh H0 H) (hi:H0.next<=i) b:jh H0 (H.set i b):=⟨by simpa using h.1,λj hj=>by rw [AH.dS _ aa];exact h.2 j hj⟩
def jh.ace {H0} (h:jh H0 H) b:jh H0 (H.new b):=h.trans (.new H b)
def alw (h:H.get b=some (.cells cs ro el)) (h1:o+w<=cs.length) (h2:(cs.drop o).take w=f):db H (b,o) w=some f:=by
 simp only [db,h];rw [bh,decide_eq_true h1,cond_true,h2]
end dC
namespace Ls
open dC
open Go
def MZ {f:Type} (Z:Nat->Prop) (H:AH) (w:Nat) (R:f->List AV->Prop) (l:List f) (v:AV):Prop:=
 (l=[]/\v= .slice none 0 0 0)\/ ∃b o c d a,∃k:Bool×Option (Nat×Bool),v= .slice (some (b,o)) l.length c d/\l.length<=c/\(d=0\/d=w)/\Z b/\H.get b=some (.cells a k.1 k.2)/\
  o+l.length*w<=a.length/\ ∀j x,l[j]? =some x->R x ((a.drop (o+j*w)).take w)
def eC (Z:Nat->Prop) (H:AH):(t:Ty)->t.Den->List AV->Prop
 | .int k,n,d=>d=[.int k n]
 | .bool,b,d=>d=[.bool b]
 | .str,s,d=>d=[.str s]
 | .unit,_,d=>d=[]
 | .pair a b,x,d=> ∃j p,d=j++p/\eC Z H a x.1 j/\eC Z H b x.2 p
 | .CH,_,d=>d=[.nilIface]
 | .bld _,_,_=>False
 | .ref t,x,d=> ∃b o f,∃q:Bool×Option (Nat×Bool),d=[.ptr (some (b,o))]/\Z b/\H.get b=some (.cells f q.1 q.2)/\o+t.w<=f.length/\eC Z H t x ((f.drop o).take t.w)
 | .list t,l,d=> ∃v,d=[v]/\MZ Z H t.w (λx c=>eC Z H t x c) l v
def cG (Z:Nat->Prop) (H:AH) (t:Ty) (l:List t.Den) (cs:List AV):Prop:=
 cs.length=l.length*t.w/\ ∀j x,l[j]? =some x->eC Z H t x ((cs.drop (j*t.w)).take t.w)
theorem eC.mono (d: ∀b,Z b->Z' b/\H'.get b=H.get b): ∀t {x} {cs},eC Z H t x cs->eC Z' H' t x cs
 | .int k,_,_,h=>h
 | .bool,_,_,h=>h
 | .str,_,_,h=>h
 | .unit,_,_,h=>h
 | .CH,_,_,h=>h
 | .bld _,_,_,h=>h
 | .ref t,_,_,⟨b,o,c,p,l,f,q,n,r⟩=>⟨b,o,c,p,l,(d b f).1,by rw [(d b f).2];exact q,n,eC.mono d t r⟩
 | .pair a b,_,_,⟨u,w,e,l,f⟩=>⟨u,w,e,eC.mono d a l,eC.mono d b f⟩
 | .list t,_,_,⟨v,e,h⟩=>by
  refine⟨v,e, ?_⟩;rcases h with h |⟨b,o,s,y,c,p,l,f,q,n,r,z,A⟩
  ·exact .inl h
  ·exact .inr ⟨b,o,s,y,c,p,l,f,q,(d b n).1,by rw [(d b n).2];exact r,z,λj x D=>eC.mono d t (A j x D)⟩
theorem eC.len: ∀t {x} {cs},eC Z H t x cs->cs.length=t.w
 | .int k,_,_,h=>by rw [show _=_ from h];rfl
 | .bool,_,_,h=>by rw [show _=_ from h];rfl
 | .str,_,_,h=>by rw [show _=_ from h];rfl
 | .unit,_,_,h=>by rw [show _=_ from h];rfl
 | .CH,_,_,h=>by rw [show _=_ from h];rfl
 | .bld _,_,_,h=>h.elim
 | .ref t,_,_,⟨b,o,c,j,d,_⟩=>by rw [d];rfl
 | .pair a b,_,_,⟨l,n,e,d,f⟩=>by rw [e,aAf,eC.len a d,eC.len b f];rfl
 | .list t,_,_,⟨v,e,h⟩=>by rw [e];rfl
theorem eC.one: ∀t {x} {cs},eC Z H t x cs->aB cs=true
 | .int k,_,_,h=>by rw [show _=_ from h];rfl
 | .bool,_,_,h=>by rw [show _=_ from h];rfl
 | .str,_,_,h=>by rw [show _=_ from h];rfl
 | .unit,_,_,h=>by rw [show _=_ from h];rfl
 | .CH,_,_,h=>by rw [show _=_ from h];rfl
 | .bld _,_,_,h=>h.elim
 | .ref t,_,_,⟨b,o,c,j,d,_⟩=>by rw [d];rfl
 | .pair a b,_,_,⟨l,q,e,d,f⟩=>by
  rw [e];have r:=eC.one a d;have n:=eC.one b f;clear e d f;induction l with
  |nil=>exact n
  |cons v vs s=>cases v<;>simp_all [aB]
 | .list t,_,_,⟨v,e,h⟩=>by
  rw [e];rcases h with⟨_,h⟩ |⟨b,o,p,u,c,j,d,_⟩
  ·rw [h];rfl
  ·rw [d];rfl
theorem cG.mono (a: ∀b,Z b->Z' b/\H'.get b=H.get b) (h:cG Z H t l cs):cG Z' H' t l cs:=
 ⟨h.1,λj x c=>eC.mono a t (h.2 j x c)⟩
theorem cG.nil:cG Z H t [] []:=⟨ab,λj x a=>by simp at a⟩
theorem cG.append (h:cG Z H t l cs) (h':cG Z H t d cs'):cG Z H t (l++d) (cs++cs'):=by
 refine⟨by rw [aAf,aAf,h.1,h'.1,aA2],λj x a=> ?_⟩;by_cases c:j<l.length
 ·rw [List.getElem?_append_left c]at a;have b:=h.2 j x a;have f:j*t.w+t.w<=cs.length:=by rw [h.1];have:=aAb t.w (show j+1<=l.length from c);rw [Nat.succ_mul]at this;exact this
  rw [List.drop_append_of_le_length aa,aAT (by rw [aA0];omega)];exact b
 ·rw [List.getElem?_append_right aa]at a;have b:=h'.2 _ x a;have e:j*t.w=cs.length+(j-l.length)*t.w:=by rw [h.1,<-aA2];congr 1;omega
  rw [e,List.drop_append,List.drop_of_length_le aa,List.nil_append,show cs.length+(j-l.length)*t.w-cs.length=(j-l.length)*t.w by omega];exact b
theorem cG.cons (h:eC Z H t x c) (h':cG Z H t l cs):cG Z H t (x::l) (c++cs):=by
 refine cG.append (l:=[x]) ⟨by simp [h.len],λj y a=> ?_⟩ h';cases j with
 |zero=>simp at a;subst a;simp;rw [List.take_of_length_le (by rw [h.len];omega)];exact h
 |succ j=>simp at a
theorem cG.one {Z:Nat->Prop} {H:AH} {t:Ty} : ∀ {l:List t.Den} {cs:List AV},cG Z H t l cs->aB cs=true
 | [],cs,h=>by have:=h.1;simp at this;subst this;rfl
 |x::l,cs,h=>by
  have d:=h.1;rw [List.length_cons,Nat.succ_mul]at d;have c:=h.2 0 x rfl;rw [Nat.zero_mul,List.drop_zero]at c;have e:cs=cs.take t.w++cs.drop t.w:=(List.take_append_drop t.w cs).symm;rw [e];refine Tx c.one (cG.one (Z:=Z) (H:=H) (t:=t) (l:=l) ⟨by rw [aA0];omega,λj y f=> ?_⟩);have:=h.2 (j+1) y (by simpa using f);rw [List.drop_drop,show t.w+j*t.w=(j+1)*t.w by rw [Nat.succ_mul];omega];exact this
where
 Tx: ∀ {a b:List AV},aB a=true->aB b=true->aB (a++b)=true
  | [],b,_,h=>h
  |x::a,b,h,h'=>by
   cases x<;>first |(simp [aB]at h;done) |exact Tx (a:=a) h h'
def Se (Z:Nat->Prop) (H:AH) (t:Ty):List (Int×t.Den)->List (AV×AV)->Prop
 | [],[]=>True
 |(n,x)::l,(k,v)::a=>k= .int .i64 n/\eC Z H t x [v]/\Se Z H t l a
 |_,_=>False
theorem Se.mono (c: ∀b,Z b->Z' b/\H'.get b=H.get b): ∀ {l} {a},Se Z H t l a->Se Z' H' t l a
 | [],[],_=>trivial
 |(n,x)::l,(k,v)::a,⟨d,f,j⟩=>⟨d,eC.mono c t f,Se.mono c j⟩
 | [],_::_,h=>h.elim
 |_::_,[],h=>h.elim
def vU:Option LB->Option (Option Ty×Nat)
 |some (.seq t l)=>some (some t,l.length)
 |some (.buf e l)=>some (some (.bld e),l.length)
 |some (.cells a)=>some (none,a.length)
 |some (.loop _ _ _ _ _ _)=>some (none,0)
 |some (.qW _ _)=>some (none,0)
 |some (.KU _ _)=>some (none,0)
 |none=>none
mutual
def aC (ρ:Nat->Option Nat) (Z:Nat->Prop) (H:AH) (h:List (Option LB)):LV->AV->Prop
 | .p6,_=>True
 | .val t x,v=>eC Z H t x [v]
 | .tight t l,v=>(l=[]/\v= .slice none 0 0 0)\/ ∃b o cells,∃el:Bool×Option (Nat×Bool),v= .slice (some (b,o)) l.length l.length 0/\Z b/\H.get b=some (.cells cells el.1 el.2)/\o+l.length*t.w<=cells.length/\ ∀j x,l[j]? =some x->eC Z H t x ((cells.drop (o+j*t.w)).take t.w)
 | .nil,v=>v= .slice none 0 0 0
 | .own id,v=> ∃t n,vU (cd h id)=some (some t,n)/\((∃b ex,ρ id=some b/\v= .slice (some (b,0)) n n ex/\(ex=0\/ex=t.w))\/(n=0/\ρ id=none/\(v= .slice none 0 0 0\/ ∃b o cells el,v= .slice (some (b,o)) 0 0 0/\Z b/\H.get b=some (.cells cells false el)/\o<=cells.length)))
 | .part id lo n,v=> ∃t N,vU (cd h id)=some (some t,N)/\(0<=lo/\0<=n/\lo+n<=(N:Int))/\((∃b ex,ρ id=some b/\v= .slice (some (b,lo.toNat*t.w)) n.toNat (N-lo.toNat) ex/\(ex=0\/ex=t.w))\/(N=0/\ρ id=none/\(v= .slice none 0 0 0\/ ∃b o cells el,v= .slice (some (b,o)) 0 0 0/\Z b/\H.get b=some (.cells cells false el)/\o<=cells.length)))
 | .oG id,v=>v= .ptr none\/ ∃m b,vU (cd h id)=some (none,m)/\ρ id=some b/\v= .ptr (some (b,0))
 | .buf id,v=> ∃e n,vU (cd h id)=some (some (.bld e),n)/\((∃b ex,ρ id=some b/\v= .slice (some (b,0)) n n ex/\(ex=0\/ex=1))\/(n=0/\ρ id=none/\v= .slice none 0 0 0))
 | .ptr id off,v=> ∃m b,vU (cd h id)=some (none,m)/\ρ id=some b/\v= .ptr (some (b,off))
 | .xO id i off,v=> ∃t n b,vU (cd h id)=some (some t,n)/\ρ id=some b/\i<n/\v= .ptr (some (b,i*t.w+off))
 | .iX cs off,v=> ∃b o cells,∃el:Bool×Option (Nat×Bool),v= .ptr (some (b,o+off))/\Z b/\H.get b=some (.cells cells el.1 el.2)/\o+cs.length<=cells.length/\ay ρ Z H h cs ((cells.drop o).take cs.length)
 | .func g a b,v=> ∃a' b',v= .func g a' b'/\ay ρ Z H h a a'/\ay ρ Z H h b b'
 | .nilFunc,v=>v= .nilFunc
 | .yield id,v=> ∃m b,vU (cd h id)=some (none,m)/\ρ id=some b/\v= .yield b
 | .ET id,v=> ∃m b,vU (cd h id)=some (none,m)/\ρ id=some b/\v= .map (some b)
 | .agg l,v=> ∃l',v= .agg l'/\ay ρ Z H h l l'
 | .tuple l,v=> ∃l',v= .tuple l'/\ay ρ Z H h l l'
def ay (ρ:Nat->Option Nat) (Z:Nat->Prop) (H:AH) (h:List (Option LB)):List LV->List AV->Prop
 | [],[]=>True
 |a::aCL,b::bs=>aC ρ Z H h a b/\ay ρ Z H h aCL bs
 |_,_=>False
end
def CX (ρ:Nat->Option Nat) (Z:Nat->Prop) (H:AH) (h:List (Option LB)) (f:LF) (g:AF):Prop:=f.n=g.n/\ ∀i,aC ρ Z H h (dN f.r i) (g.get i)
def Mu:Option AE->Option dy
 |none=>none
 |some e=>e.Be
def ali (ρ:Nat->Option Nat) (Z:Nat->Prop) (H:AH) (h:List (Option LB)) (ob:Option Nat):LB->Prop
 | .seq t l=>(∃b d j,ob=some b/\H.get b=some (.cells d false j)/\cG Z H t l d)\/(l=[]/\ob=none)
 | .buf e l=>(∃b d q,ob=some b/\H.get b=some (.cells d false (some (e,q)))/\cG Z H (.int .u8) l d)\/(l=[]/\ob=none)
 | .cells k=> ∃b d j,ob=some b/\H.get b=some (.cells d false j)/\ay ρ Z H h k d/\(oE k=true->j=some (af2,true))
 | .qW n vs=> ∃b f,ob=some b/\H.get b=some (.map f)/\f.map (·.1)=n.map (.int .u8)/\ay ρ Z H h vs (f.map (·.2))
 | .KU t l=> ∃b f,ob=some b/\H.get b=some (.map f)/\Se Z H t l f
 | .loop p r s u a c=> ∃b g,ob=some b/\H.get b=some (.loop ⟨p,Mu r,g,u,a.erase,c.erase⟩)/\CX ρ Z H h s g
structure Rel (Hb:AH) (A:Nat->Prop) (ρ:Nat->Option Nat) (Z:Nat->Prop) (H:AH) (h:List (Option LB)):Prop where
 gQ:jh Hb H
 own: ∀id B,cd h id=some B->ali ρ Z H h (ρ id) B
 hi: ∀id b,cd h id≠none->ρ id=some b->Hb.next<=b/\b<H.next/\ ¬Z b
 inj: ∀i j b,cd h i≠none->cd h j≠none->ρ i=some b->ρ j=some b->i=j
 G9: ∀b,Z b->b<H.next
 VH: ∀b,Z b->A b\/Hb.next<=b
def iL (ρ:Nat->Option Nat) (Z:Nat->Prop) (H:AH) (h:List (Option LB)):List LF->List AF->Prop
 | [],[]=>True
 |f::a,g::b=>CX ρ Z H h f g/\iL ρ Z H h a b
 |_,_=>False
structure SR (Hb:AH) (A:Nat->Prop) (ρ:Nat->Option Nat) (Z:Nat->Prop) (H:AH) (s:St) (f:AF) (fs:List AF):Prop where
 rel:Rel Hb A ρ Z H s.h
 cur:CX ρ Z H s.h s.cur f
 mR:iL ρ Z H s.h s.mR fs
theorem NM i: ∀v,(nR i v).length=v.length
 | []=>rfl
 |v::vs=>by simp [nR,NM i vs]
structure Mv (bad:Nat->Prop) (ρ:Nat->Option Nat) (Z:Nat->Prop) (H:AH) (h:List (Option LB)) (ρ':Nat->Option Nat) (Z':Nat->Prop) (H':AH) (h':List (Option LB)):Prop where
 z: ∀b,Z b->Z' b/\H'.get b=H.get b
 sh: ∀id x,¬bad id->vU (cd h id)=some x->vU (cd h' id)=some x/\ρ' id=ρ id
section
variable {bad:Nat->Prop} {ρ ρ':Nat->Option Nat} {Z Z':Nat->Prop} {H H':AH} {h h':List (Option LB)}
mutual
theorem aC.mv (m:Mv bad ρ Z H h ρ' Z' H' h'): ∀(v:LV) {a:AV},(∀id∈jX v,¬bad id)->aC ρ Z H h v a->aC ρ' Z' H' h' v a
 | .p6,_,_,_=>by simp [aC]
 | .val t x,_,_,hr=>by simp only [aC]at hr⊢;exact hr.mono m.z
 | .tight t l,_,_,hr=>by
  simp only [aC]at hr⊢;rcases hr with hr |⟨b,o,cells,el,h1,h2,h3,h4,h5⟩
  ·exact .inl hr
  ·exact .inr ⟨b,o,cells,el,h1,(m.z b h2).1,by rw [(m.z b h2).2];exact h3,h4,λj x hx=>(h5 j x hx).mono m.z⟩
 | .nil,_,_,hr=>by simpa only [aC]using hr
 | .own id,_,hb,hr=>by
  simp only [aC]at hr⊢;obtain⟨t,n,h1,h2⟩:=hr;obtain⟨g1,g2⟩:=m.sh id _ (hb id (by simp [jX])) h1;refine⟨t,n,g1, ?_⟩;rw [g2];rcases h2 with h2 |⟨h2,h3,h4 |⟨b,o,cells,el,h4,h5,h6,h7⟩⟩
  ·exact .inl h2
  ·exact .inr ⟨h2,h3,.inl h4⟩
  ·exact .inr ⟨h2,h3,.inr ⟨b,o,cells,el,h4,(m.z b h5).1,by rw [(m.z b h5).2];exact h6,h7⟩⟩
 | .part id lo n,_,hb,hr=>by
  simp only [aC]at hr⊢;obtain⟨t,N,h1,h0,h2⟩:=hr;obtain⟨g1,g2⟩:=m.sh id _ (hb id (by simp [jX])) h1;refine⟨t,N,g1,h0, ?_⟩;rw [g2];rcases h2 with h2 |⟨h2,h3,h4 |⟨b,o,cells,el,h4,h5,h6,h7⟩⟩
  ·exact .inl h2
  ·exact .inr ⟨h2,h3,.inl h4⟩
  ·exact .inr ⟨h2,h3,.inr ⟨b,o,cells,el,h4,(m.z b h5).1,by rw [(m.z b h5).2];exact h6,h7⟩⟩
 | .oG id,_,hb,hr=>by
  simp only [aC]at hr⊢;rcases hr with hr |⟨n,b,h1,h2,h3⟩
  ·exact .inl hr
  ·obtain⟨g1,g2⟩:=m.sh id _ (hb id (by simp [jX])) h1;exact .inr ⟨n,b,g1,by rw [g2];exact h2,h3⟩
 | .buf id,_,hb,hr=>by
  simp only [aC]at hr⊢;obtain⟨e,n,h1,h2⟩:=hr;obtain⟨g1,g2⟩:=m.sh id _ (hb id (by simp [jX])) h1;exact⟨e,n,g1,by rw [g2];exact h2⟩
 | .ptr id off,_,hb,hr=>by
  simp only [aC]at hr⊢;obtain⟨n,b,h1,h2,h3⟩:=hr;obtain⟨g1,g2⟩:=m.sh id _ (hb id (by simp [jX])) h1;exact⟨n,b,g1,by rw [g2];exact h2,h3⟩
 | .yield id,_,hb,hr=>by
  simp only [aC]at hr⊢;obtain⟨n,b,h1,h2,h3⟩:=hr;obtain⟨g1,g2⟩:=m.sh id _ (hb id (by simp [jX])) h1;exact⟨n,b,g1,by rw [g2];exact h2,h3⟩
 | .ET id,_,hb,hr=>by
  simp only [aC]at hr⊢;obtain⟨n,b,h1,h2,h3⟩:=hr;obtain⟨g1,g2⟩:=m.sh id _ (hb id (by simp [jX])) h1;exact⟨n,b,g1,by rw [g2];exact h2,h3⟩
 | .xO id i off,_,hb,hr=>by
  simp only [aC]at hr⊢;obtain⟨t,n,b,h1,h2,h3⟩:=hr;obtain⟨g1,g2⟩:=m.sh id _ (hb id (by simp [jX])) h1;exact⟨t,n,b,g1,by rw [g2];exact h2,h3⟩
 | .iX cs off,_,hb,hr=>by
  simp only [aC]at hr⊢;obtain⟨b,o,cells,el,h1,h2,h3,h4,h5⟩:=hr;exact⟨b,o,cells,el,h1,(m.z b h2).1,by rw [(m.z b h2).2];exact h3,h4,ay.mv m cs (λid hi=>hb id (by simpa [jX]using hi)) h5⟩
 | .func g x y,_,hb,hr=>by
  simp only [aC]at hr⊢;obtain⟨a',b',h1,h2,h3⟩:=hr;exact⟨a',b',h1,ay.mv m x (λid hi=>hb id (by simp [jX,hi])) h2,ay.mv m y (λid hi=>hb id (by simp [jX,hi])) h3⟩
 | .nilFunc,_,_,hr=>by simpa only [aC]using hr
 | .agg l,_,hb,hr=>by
  simp only [aC]at hr⊢;obtain⟨l',h1,h2⟩:=hr;exact⟨l',h1,ay.mv m l (λid hi=>hb id (by simpa [jX]using hi)) h2⟩
 | .tuple l,_,hb,hr=>by
  simp only [aC]at hr⊢;obtain⟨l',h1,h2⟩:=hr;exact⟨l',h1,ay.mv m l (λid hi=>hb id (by simpa [jX]using hi)) h2⟩
theorem ay.mv (m:Mv bad ρ Z H h ρ' Z' H' h'): ∀(v:List LV) {a:List AV},(∀id∈Px v,¬bad id)->ay ρ Z H h v a->ay ρ' Z' H' h' v a
 | [],[],_,_=>by simp [ay]
 |v::vs,a::aCL,hb,hr=>by
  simp only [ay]at hr⊢;exact⟨aC.mv m v (λid hi=>hb id (by simp [Px,hi])) hr.1,ay.mv m vs (λid hi=>hb id (by simp [Px,hi])) hr.2⟩
 | [],_::_,_,hr=>by simp [ay]at hr
 |_::_,[],_,hr=>by simp [ay]at hr
end
theorem CX.mv (m:Mv bad ρ Z H h ρ' Z' H' h') (b: ∀i,∀id∈jX (dN f.r i),¬bad id) (a:CX ρ Z H h f g):CX ρ' Z' H' h' f g:=
 ⟨a.1,λi=>(a.2 i).mv m _ (b i)⟩
mutual
theorem aC.pg (i:Nat): ∀(v:LV) {a:AV},aC ρ Z H h v a->aC ρ Z H h (ck i v) a
 | .p6,_,_=>by simp [ck,aC]
 | .val t x,_,hr=>by simpa only [ck]using hr
 | .tight t l,_,hr=>by simpa only [ck]using hr
 | .nil,_,hr=>by simpa only [ck]using hr
 | .own id,_,hr=>by
  simp only [ck];cases azm id i
  ·exact hr
  ·simp [aC]
 | .part id lo n,_,hr=>by
  simp only [ck];cases azm id i
  ·exact hr
  ·simp [aC]
 | .oG id,_,hr=>by
  simp only [ck];cases azm id i
  ·exact hr
  ·simp [aC]
 | .buf id,_,hr=>by
  simp only [ck];cases azm id i
  ·exact hr
  ·simp [aC]
 | .ptr id o,_,hr=>by
  simp only [ck];cases azm id i
  ·exact hr
  ·simp [aC]
 | .xO id j o,_,hr=>by
  simp only [ck];cases azm id i
  ·exact hr
  ·simp [aC]
 | .yield id,_,hr=>by
  simp only [ck];cases azm id i
  ·exact hr
  ·simp [aC]
 | .ET id,_,hr=>by
  simp only [ck];cases azm id i
  ·exact hr
  ·simp [aC]
 | .iX cs off,_,hr=>by
  simp only [ck,aC]at hr⊢;obtain⟨b,o,cells,el,h1,h2,h3,h4,h5⟩:=hr;refine⟨b,o,cells,el,h1,h2,h3, ?_, ?_⟩
  ·rw [NM];exact h4
  ·rw [NM];exact ay.pg i cs h5
 | .func g x y,_,hr=>by
  simp only [ck,aC]at hr⊢;obtain⟨a',b',h1,h2,h3⟩:=hr;exact⟨a',b',h1,ay.pg i x h2,ay.pg i y h3⟩
 | .nilFunc,_,hr=>by simpa only [ck]using hr
 | .agg l,_,hr=>by
  simp only [ck,aC]at hr⊢;obtain⟨l',h1,h2⟩:=hr;exact⟨l',h1,ay.pg i l h2⟩
 | .tuple l,_,hr=>by
  simp only [ck,aC]at hr⊢;obtain⟨l',h1,h2⟩:=hr;exact⟨l',h1,ay.pg i l h2⟩
theorem ay.pg (i:Nat): ∀(v:List LV) {a:List AV},ay ρ Z H h v a->ay ρ Z H h (nR i v) a
 | [],[],_=>by simp [nR,ay]
 |v::vs,a::aCL,hr=>by
  simp only [nR,ay]at hr⊢;exact⟨aC.pg i v hr.1,ay.pg i vs hr.2⟩
 | [],_::_,hr=>by simp [ay]at hr
 |_::_,[],hr=>by simp [ay]at hr
end
mutual
theorem ahu (i:Nat): ∀(v:LV),∀id∈jX (ck i v),¬(id=i)
 | .p6,id,hi=>by simp [ck,jX]at hi
 | .val t x,id,hi=>by simp [ck,jX]at hi
 | .tight t l,id,hi=>by simp [ck,jX]at hi
 | .nil,id,hi=>by simp [ck,jX]at hi
 | .nilFunc,id,hi=>by simp [ck,jX]at hi
 | .own j,id,hi=>by
  simp only [ck]at hi;cases hb:azm j i<;>rw [hb]at hi
  ·simp [jX]at hi;rw [hi];intro e;rw [e]at hb;simp [az0]at hb
  ·simp [jX]at hi
 | .part j lo n,id,hi=>by
  simp only [ck]at hi;cases hb:azm j i<;>rw [hb]at hi
  ·simp [jX]at hi;rw [hi];intro e;rw [e]at hb;simp [az0]at hb
  ·simp [jX]at hi
 | .oG j,id,hi=>by
  simp only [ck]at hi;cases hb:azm j i<;>rw [hb]at hi
  ·simp [jX]at hi;rw [hi];intro e;rw [e]at hb;simp [az0]at hb
  ·simp [jX]at hi
 | .buf j,id,hi=>by
  simp only [ck]at hi;cases hb:azm j i<;>rw [hb]at hi
  ·simp [jX]at hi;rw [hi];intro e;rw [e]at hb;simp [az0]at hb
  ·simp [jX]at hi
 | .ptr j o,id,hi=>by
  simp only [ck]at hi;cases hb:azm j i<;>rw [hb]at hi
  ·simp [jX]at hi;rw [hi];intro e;rw [e]at hb;simp [az0]at hb
  ·simp [jX]at hi
 | .xO j o x,id,hi=>by
  simp only [ck]at hi;cases hb:azm j i<;>rw [hb]at hi
  ·simp [jX]at hi;rw [hi];intro e;rw [e]at hb;simp [az0]at hb
  ·simp [jX]at hi
 | .yield j,id,hi=>by
  simp only [ck]at hi;cases hb:azm j i<;>rw [hb]at hi
  ·simp [jX]at hi;rw [hi];intro e;rw [e]at hb;simp [az0]at hb
  ·simp [jX]at hi
 | .ET j,id,hi=>by
  simp only [ck]at hi;cases hb:azm j i<;>rw [hb]at hi
  ·simp [jX]at hi;rw [hi];intro e;rw [e]at hb;simp [az0]at hb
  ·simp [jX]at hi
 | .iX cs o,id,hi=>wT i cs id (by simpa [ck,jX]using hi)
 | .func g a b,id,hi=>by
  simp only [ck,jX,List.mem_append]at hi;rcases hi with hi |hi
  ·exact wT i a id hi
  ·exact wT i b id hi
 | .agg l,id,hi=>wT i l id (by simpa [ck,jX]using hi)
 | .tuple l,id,hi=>wT i l id (by simpa [ck,jX]using hi)
theorem wT (i:Nat): ∀(v:List LV),∀id∈Px (nR i v),¬(id=i)
 | [],id,hi=>by simp [nR,Px]at hi
 |v::vs,id,hi=>by
  simp only [nR,Px,List.mem_append]at hi;rcases hi with hi |hi
  ·exact ahu i v id hi
  ·exact wT i vs id hi
end
theorem RI i: ∀r j,dN (K3 i r) j=ck i (dN r j)
 | [],j=>by simp [K3,dN,ck]
 |(k,v)::r,j=>by
  simp only [K3,dN];cases azm k j
  ·exact RI i r j
  ·rfl
theorem CX.mvp (m:Mv (· =i) ρ Z H h ρ' Z' H' h') (a:CX ρ Z H h f g):CX ρ' Z' H' h' (ac2 i f) g:=by
 refine⟨a.1,λj=> ?_⟩;show aC ρ' Z' H' h' (dN (K3 i f.r) j) (g.get j);rw [RI];exact((a.2 j).pg i).mv m _ (ahu i _)
theorem iL.mvp (m:Mv (· =i) ρ Z H h ρ' Z' H' h'): ∀ {f} {g},iL ρ Z H h f g->iL ρ' Z' H' h' (acO i f) g
 | [],[],_=>trivial
 |f::b,g::c,a=>⟨CX.mvp m a.1,iL.mvp m a.2⟩
 | [],_::_,a=>by simp [iL]at a
 |_::_,[],a=>by simp [iL]at a
theorem iL.mv0 (m:Mv (λ_=>False) ρ Z H h ρ' Z' H' h'): ∀ {f} {g},iL ρ Z H h f g->iL ρ' Z' H' h' f g
 | [],[],_=>trivial
 |f::b,g::c,a=>⟨CX.mv m (λ_ _ _ h=>h) a.1,iL.mv0 m a.2⟩
 | [],_::_,a=>by simp [iL]at a
 |_::_,[],a=>by simp [iL]at a
end
theorem jq: ∀h i b j,cd (hZ h i b) j=if j=i/\i<h.length then b else cd h j
 | [],i,b,j=>by simp [hZ,cd]
 |c::h,0,b,0=>by simp [hZ,cd]
 |c::h,0,b,j+1=>by simp [hZ,cd]
 |c::h,i+1,b,0=>by simp [hZ,cd]
 |c::h,i+1,b,j+1=>by simp [hZ,cd,jq h i b j]
theorem ot: ∀ {h} {i} {b},cd h i=some b->i<h.length
 | [],i,b,e=>by simp [cd]at e
 |c::h,0,b,e=>ab
 |c::h,i+1,b,e=>by have:=ot (h:=h) (i:=i) (by simpa [cd]using e);simp;omega
theorem km: ∀h h' i,cd (h++h') i=if i<h.length then cd h i else cd h' (i-h.length)
 | [],h',i=>ab
 |c::h,h',0=>by simp [cd]
 |c::h,h',i+1=>by simp [cd,km h h' i]
theorem gJ i: ∀h j,cd (dh i h) j=jF i (cd h j)
 | [],j=>by simp [dh,cd,jF]
 |c::h,0=>by simp [dh,cd]
 |c::h,j+1=>by simp [dh,cd,gJ i h j]
theorem iF i: ∀h,(dh i h).length=h.length
 | []=>rfl
 |c::h=>by simp [dh,iF i h]
theorem A0 i b:vU (jF i b)=vU b:=by
 rcases b with _ |b
 ·rfl
 ·cases b with
  |seq t l=>rfl
  |buf e l=>rfl
  |cells d=>simp [jF,vU,NM]
  |loop f j k n a c=>rfl
  |qW p vs=>rfl
  |KU t l=>rfl
section
variable {Hb:AH} {A:Nat->Prop} {ρ ρ':Nat->Option Nat} {Z Z':Nat->Prop} {H H':AH} {h h':List (Option LB)}
theorem ali.mv0 (m:Mv (λ_=>False) ρ Z H h ρ' Z' H' h') (p: ∀b,ob=some b->H'.get b=H.get b) (n:ali ρ Z H h ob B):ali ρ' Z' H' h' ob B:=by
 cases B with
 |seq t l=>
  rcases n with⟨b,q,r,d,k,j⟩ |n
  ·exact .inl ⟨b,q,r,d,by rw [p b d];exact k,j.mono m.z⟩
  ·exact .inr n
 |buf e l=>
  rcases n with⟨b,q,r,d,k,j⟩ |n
  ·exact .inl ⟨b,q,r,d,by rw [p b d];exact k,j.mono m.z⟩
  ·exact .inr n
 |cells v=>
  obtain⟨b,q,r,d,k,j⟩:=n;exact⟨b,q,r,d,by rw [p b d];exact k,ay.mv m v (λ_ _ h=>h) j.1,j.2⟩
 |loop x y D E a c=>
  obtain⟨b,g,d,k,j⟩:=n;exact⟨b,g,d,by rw [p b d];exact k,CX.mv m (λ_ _ _ h=>h) j⟩
 |qW F vs=>
  obtain⟨b,u,d,k,j,w⟩:=n;exact⟨b,u,d,by rw [p b d];exact k,j,ay.mv m vs (λ_ _ h=>h) w⟩
 |KU t l=>
  obtain⟨b,u,d,k,j⟩:=n;exact⟨b,u,d,by rw [p b d];exact k,j.mono m.z⟩
theorem aid: ∀ {lv},oE (nR i lv)=true->oE lv=true
 | [],h=>by simp [nR,oE]at h
 |v::vs,h=>by
  cases v<;>simp only [nR,ck]at h<;>first |rfl |(simp [oE]at h;done) |skip
  all_goals (simp only [cond_eq_ite]at h;split at h<;>simp [oE]at h)
theorem ali.mvp (m:Mv (· =i) ρ Z H h ρ' Z' H' h') (j:some B'=jF i (some B)) (q: ∀b,ob=some b->H'.get b=H.get b) (p:ali ρ Z H h ob B):ali ρ' Z' H' h' ob B':=by
 cases B with
 |seq t l=>
  simp only [jF,azn]at j;subst j;rcases p with⟨b,r,u,d,n,k⟩ |p
  ·exact .inl ⟨b,r,u,d,by rw [q b d];exact n,k.mono m.z⟩
  ·exact .inr p
 |buf e l=>
  simp only [jF,azn]at j;subst j;rcases p with⟨b,r,u,d,n,k⟩ |p
  ·exact .inl ⟨b,r,u,d,by rw [q b d];exact n,k.mono m.z⟩
  ·exact .inr p
 |cells w=>
  simp only [jF,azn]at j;subst j;obtain⟨b,r,u,d,n,k⟩:=p;exact⟨b,r,u,d,by rw [q b d];exact n,ay.mv m _ (wT i w) (ay.pg i w k.1),λh=>k.2 (aid h)⟩
 |loop y D E F a c=>
  simp only [jF,azn]at j;subst j;obtain⟨b,g,d,n,k⟩:=p;exact⟨b,g,d,by rw [q b d];exact n,k.mvp m⟩
 |qW G vs=>
  simp only [jF,azn]at j;subst j;obtain⟨b,v,d,n,k,x⟩:=p;exact⟨b,v,d,by rw [q b d];exact n,k,ay.mv m _ (wT i vs) (ay.pg i vs x)⟩
 |KU t l=>
  simp only [jF,azn]at j;subst j;obtain⟨b,v,d,n,k⟩:=p;exact⟨b,v,d,by rw [q b d];exact n,k.mono m.z⟩
structure Upd (id0:Nat) (Hb:AH) (A:Nat->Prop) (ρ:Nat->Option Nat) (H:AH) (h:List (Option LB)) (ρ':Nat->Option Nat) (Z':Nat->Prop) (H':AH) (h':List (Option LB)):Prop where
 gQ:jh Hb H'
 next:H.next<=H'.next
 rho: ∀id,id≠id0->ρ' id=ρ id
 get: ∀id b,id≠id0->cd h id≠none->ρ id=some b->H'.get b=H.get b
 nz: ∀id b,id≠id0->cd h id≠none->ρ id=some b-> ¬Z' b
 b0: ∀B,cd h' id0=some B->ali ρ' Z' H' h' (ρ' id0) B
 hi0: ∀b,cd h' id0≠none->ρ' id0=some b->Hb.next<=b/\b<H'.next/\ ¬Z' b/\ ∀id,id≠id0->cd h id≠none->ρ id≠some b
 G9: ∀b,Z' b->b<H'.next
 VH: ∀b,Z' b->A b\/Hb.next<=b
theorem Rel.akV {a:Nat} (t:Rel Hb A ρ Z H h) (m:Mv (λ_=>False) ρ Z H h ρ' Z' H' h') (u:Upd a Hb A ρ H h ρ' Z' H' h') (k: ∀id,id≠a->cd h' id=cd h id):Rel Hb A ρ' Z' H' h' where
 gQ:=u.gQ
 own id B c:=by
  by_cases e:id=a
  ·subst e;exact u.b0 B c
  ·rw [k id e]at c;rw [u.rho id e];exact(t.own id B c).mv0 m λb l=>u.get id b e aj l
 hi id b c l:=by
  by_cases e:id=a
  ·subst e;obtain⟨v,w,x,_⟩:=u.hi0 b c l;exact⟨v,w,x⟩
  ·rw [k id e]at c;rw [u.rho id e]at l;obtain⟨v,w,x⟩:=t.hi id b c l;exact⟨v,aAa w u.next,u.nz id b e c l⟩
 inj i j b hi p q r:=by
  by_cases n:i=a
  ·by_cases d:j=a
   ·omega
   ·subst n;rw [k j d]at p;rw [u.rho j d]at r;exact absurd r ((u.hi0 b hi q).2.2.2 j d p)
  ·by_cases d:j=a
   ·subst d;rw [k i n]at hi;rw [u.rho i n]at q;exact absurd q ((u.hi0 b p r).2.2.2 i n hi)
   ·rw [k i n]at hi;rw [k j d]at p;rw [u.rho i n]at q;rw [u.rho j d]at r;exact t.inj i j b hi p q r
 G9:=u.G9
 VH:=u.VH
theorem ei {i:Nat} {b:Option LB} :jF i b=none↔b=none:=by
                                          rcases b with _ |b; ·simp [jF]
                                          ·cases b<;>simp [jF]
theorem Rel.auJ {a:Nat} (v:Rel Hb A ρ Z H h) (m:Mv (· =a) ρ Z H h ρ' Z' H' h') (u:Upd a Hb A ρ H h ρ' Z' H' h') (l: ∀id,id≠a->cd h' id=jF a (cd h id)):Rel Hb A ρ' Z' H' h' where
 gQ:=u.gQ
 own id B c:=by
  by_cases e:id=a
  ·subst e;exact u.b0 B c
  ·rw [l id e]at c;rw [u.rho id e];cases d:cd h id with
   |none=>rw [d]at c;simp [jF]at c
   |some z=>
    rw [d]at c;exact(v.own id z d).mvp m c.symm λb n=>u.get id b e aj n
 hi id b c n:=by
  by_cases e:id=a
  ·subst e;obtain⟨w,x,y,_⟩:=u.hi0 b c n;exact⟨w,x,y⟩
  ·rw [l id e,Ne,ei]at c;rw [u.rho id e]at n;obtain⟨w,x,y⟩:=v.hi id b c n;exact⟨w,aAa x u.next,u.nz id b e c n⟩
 inj i j b hi q r t:=by
  by_cases p:i=a
  ·by_cases k:j=a
   ·omega
   ·subst p;rw [l j k,Ne,ei]at q;rw [u.rho j k]at t;exact absurd t ((u.hi0 b hi r).2.2.2 j k q)
  ·by_cases k:j=a
   ·subst k;rw [l i p,Ne,ei]at hi;rw [u.rho i p]at r;exact absurd r ((u.hi0 b q t).2.2.2 i p hi)
   ·rw [l i p,Ne,ei]at hi;rw [l j k,Ne,ei]at q;rw [u.rho i p]at r;rw [u.rho j k]at t;exact v.inj i j b hi q r t
 G9:=u.G9
 VH:=u.VH
variable {s:St} {f:AF} {fs:List AF}
theorem SR.drop (d:SR Hb A ρ Z H s f fs) i:SR Hb A ρ (λb=>Z b\/(ρ i=some b/\cd s.h i≠none)) H (s.drop i) f fs:=by
 have l: ∀id,id≠i->cd (hZ (dh i s.h) i none) id=jF i (cd s.h id):=λid e=>by rw [jq,if_neg (λc=>e c.1),gJ]
 have q:cd (hZ (dh i s.h) i none) i=none:=by
  rw [jq];by_cases c:i<(dh i s.h).length
  ·simp_all
  ·rw [if_neg (λe=>c e.2),gJ,ei];cases j:cd s.h i with
   |none=>rfl
   |some B=>have:=ot j;rw [iF]at c;exact absurd this c
 have m:Mv (· =i) ρ Z H s.h ρ (λb=>Z b\/(ρ i=some b/\cd s.h i≠none)) H (hZ (dh i s.h) i none):=
  ⟨λb a=>⟨.inl a,rfl⟩,λid x j r=>⟨by rw [l id j,A0];exact r,rfl⟩⟩
 refine⟨d.rel.auJ m ⟨d.rel.gQ,azv _,λ_ _=>rfl,λ_ _ _ _ _=>rfl,λid b e k j a=> ?_,λB k=> ?_,λb k=> ?_,λb a=> ?_,λb a=> ?_⟩ l,d.cur.mvp m,iL.mvp m d.mR⟩
 ·rcases a with a |⟨n,p⟩
  ·exact(d.rel.hi id b k j).2.2 a
  ·exact e (d.rel.inj id i b k p j n)
 ·have:=k.symm.trans q;cases this
 ·exact absurd q k
 ·rcases a with a |⟨n,p⟩
  ·exact d.rel.G9 b a
  ·exact(d.rel.hi i b p n).2.1
 ·rcases a with a |⟨n,p⟩
  ·exact d.rel.VH b a
  ·exact .inr (d.rel.hi i b p n).1
def alj (ρ:Nat->Option Nat) (h:List (Option LB)) (is:List Nat) (b:Nat):Prop:= ∃i∈is,ρ i=some b/\cd h i≠none
theorem lZ {s:St} :cd (s.drop i).h j=if j=i then none else jF i (cd s.h j):=by
 show cd (hZ (dh i s.h) i none) j=_;rw [jq];by_cases e:j=i
 ·subst e;rw [if_pos rfl];by_cases c:j<(dh j s.h).length
  ·simp_all
  ·rw [if_neg (λe=>c e.2),gJ,ei];cases a:cd s.h j with
   |none=>rfl
   |some B=>have:=ot a;rw [iF]at c;exact absurd this c
 ·rw [if_neg (λc=>e c.1),if_neg e,gJ]
theorem SR.nu: ∀is {s} {Z},SR Hb A ρ Z H s f fs-> ∃Z',SR Hb A ρ Z' H (nu is s) f fs/\(∀b,Z b->Z' b)/\ ∀b,alj ρ s.h is b->Z' b
 | [],s,Z,a=>⟨Z,a,λ_ h=>h,λb ⟨i,c,_⟩=>by simp at c⟩
 |i::is,s,Z,a=>by
  obtain⟨Z',d,k,l⟩:=SR.nu is (a.drop i);refine⟨Z',d,λb n=>k b (.inl n),λb ⟨j,p,q,r⟩=> ?_⟩;by_cases e:j=i
  ·simp_all
  ·refine l b ⟨j,by simpa [e]using p,q, ?_⟩;rw [lZ,if_neg e,Ne,ei];exact r
theorem SR.aAE (a:SR Hb A ρ Z H s f fs) (r:ρ i=some b) (t:cd s.h i≠none):SR Hb A ρ Z (H.set b ob) (s.drop i) f fs:=by
 obtain⟨v,E,w⟩:=a.rel.hi i b t r;have p: ∀id,id≠i->cd (hZ (dh i s.h) i none) id=jF i (cd s.h id):=λid e=>by rw [jq,if_neg (λc=>e c.1),gJ]
 have u:cd (hZ (dh i s.h) i none) i=none:=by
  have:=lZ (s:=s) (i:=i) (j:=i);rw [if_pos rfl]at this;exact this
 have y: ∀c,Z c->(H.set b ob).get c=H.get c:=λc n=>AH.dS _ (λe=>w (e▸n))
 have m:Mv (· =i) ρ Z H s.h ρ Z (H.set b ob) (hZ (dh i s.h) i none):=
  ⟨λc n=>⟨n,y c n⟩,λid x q z=>⟨by rw [p id q,A0];exact z,rfl⟩⟩
 refine⟨a.rel.auJ m ⟨a.rel.gQ.set v _,azv _,λ_ _=>rfl,λid c e d k=>AH.dS _ λD=>e (a.rel.inj id i b d t (D▸k) r),λid c e d k=>(a.rel.hi id c d k).2.2,λF l=> ?_,λc l=>absurd u l,λc n=>by simpa using a.rel.G9 c n,a.rel.VH⟩ p,a.cur.mvp m,iL.mvp m a.mR⟩;have:=l.symm.trans u;cases this
theorem SR.put (k:SR Hb A ρ Z H s f fs) {cs':List AV} {el':Option (Nat×Bool)} (F:cd s.h i=some B) (G:vU (some B')=vU (some B)) (n:ρ i=some b)
  (a:match B' with | .seq t l=>cG Z H t l cs' | .buf e l=>cG Z H (.int .u8) l cs'/\ ∃q,el'=some (e,q) | .cells lv=>ay ρ Z H s.h lv cs'/\(oE lv=true->el'=some (af2,true)) | .qW _ _=>False | .KU _ _=>False | .loop _ _ _ _ _ _=>False):SR Hb A ρ Z (H.set b (some (.cells cs' false el'))) (s.put i B') f fs:=by
 obtain⟨w,I,y⟩:=k.rel.hi i b aj n;have D: ∀c,c≠b->(H.set b (some (.cells cs' false el'))).get c=H.get c:=λc e=>AH.dS _ e
 have K: ∀c,Z c->(H.set b (some (.cells cs' false el'))).get c=H.get c:=λc a=>D c (λe=>y (e▸a))
 have r: ∀id,id≠i->cd (hZ s.h i (some B')) id=cd s.h id:=λid e=>by rw [jq,if_neg (λc=>e c.1)]
 have u:cd (hZ s.h i (some B')) i=some B':=by rw [jq,if_pos ⟨rfl,ot F⟩]
 have m:Mv (λ_=>False) ρ Z H s.h ρ Z (H.set b (some (.cells cs' false el'))) (hZ s.h i (some B')):=by
  refine⟨λc a=>⟨a,K c a⟩,λid x _ M=>⟨?_,rfl⟩⟩;grind
 refine⟨k.rel.akV m ⟨k.rel.gQ.set w _,azv _,λ_ _=>rfl,λid c e d j=>D c λL=>e (k.rel.inj id i b d aj (L▸j) n),λid c e d j=>(k.rel.hi id c d j).2.2,λE p=> ?_,λc p v=> ?_,λc a=>by simpa using k.rel.G9 c a,k.rel.VH⟩ r,k.cur.mv m (λ_ _ _ h=>h),iL.mv0 m k.mR⟩
 ·have:E=B':=by have:=p.symm.trans u;cases this;rfl
  subst this;cases E with
  |seq t l=>exact .inl ⟨b,cs',el',n,ab,cG.mono m.z a⟩
  |buf e l=>
   obtain⟨a,q,rfl⟩:=a;exact .inl ⟨b,cs',q,n,ab,cG.mono m.z a⟩
  |cells lv=>exact⟨b,cs',el',n,ab,ay.mv m lv (λ_ _ h=>h) a.1,a.2⟩
  |loop _ _ _ _ _ _=>simp_all
  |qW _ _=>simp_all
  |KU _ _=>simp_all
 ·have:c=b:=by have:=v.symm.trans n;cases this;rfl
  subst this;exact⟨w,by simpa using I,y,λid e d j=>e (k.rel.inj id i c d aj j n)⟩
def Mj (ρ:Nat->Option Nat) (i:Nat) (b:Option Nat):Nat->Option Nat:=λj=>if j=i then b else ρ j
theorem aeo (s:St):cd s.h s.nx=none:=by
 cases a:cd s.h s.nx with
 |none=>rfl
 |some B=>have:=ot a;exact absurd this (aAi _)
theorem SR.new (b:SR Hb A ρ Z H s f fs) {cs:List AV} {el:Option (Nat×Bool)} (a:match B with | .seq t l=>cG Z H t l cs | .buf e l=>cG Z H (.int .u8) l cs/\ ∃q,el=some (e,q) | .cells lv=>ay ρ Z H s.h lv cs/\(oE lv=true->el=some (af2,true)) | .qW _ _=>False | .KU _ _=>False | .loop _ _ _ _ _ _=>False):
  SR Hb A (Mj ρ s.nx (some H.next)) Z (H.new (.cells cs false el)) (s.new B) f fs:=by
 have p: ∀c,Z c->(H.new (.cells cs false el)).get c=H.get c:=λc a=>AH.eg _ (Nat.ne_of_lt (b.rel.G9 c a))
 have r: ∀id,id≠s.nx->cd (s.h++ [some B]) id=cd s.h id:=λid e=>by
  rw [km];by_cases c:id<s.h.length
  ·simp_all
  ·rw [if_neg c];have D:cd s.h id=none:=by
    cases E:cd s.h id with
    |none=>rfl
    |some B=>exact absurd (ot E) c
   rw [D];obtain⟨d,F⟩: ∃d,id-s.h.length=d+1:=⟨id-s.h.length-1,by have:id≠s.h.length:=e;omega⟩;rw [F];rfl
 have u:cd (s.h++ [some B]) s.nx=some B:=by show cd _ s.h.length=_;rw [km,if_neg (aAi _),Nat.sub_self];rfl
 have G: ∀id,id≠s.nx->Mj ρ s.nx (some H.next) id=ρ id:=λid e=>if_neg e
 have m:Mv (λ_=>False) ρ Z H s.h (Mj ρ s.nx (some H.next)) Z (H.new (.cells cs false el)) (s.h++ [some B]):=by
  refine⟨λc a=>⟨a,p c a⟩,λid x _ w=> ?_⟩;have e:id≠s.nx:=λe=>by rw [e,aeo]at w;simp [vU]at w
  simp_all
 refine⟨b.rel.akV m ⟨b.rel.gQ.ace _,ab,G,λid c e j a=>AH.eg _ (Nat.ne_of_lt (b.rel.hi id c j a).2.1),λid c e j a=>(b.rel.hi id c j a).2.2,λy k=> ?_,λc k n=> ?_,λc a=>Nat.lt_succ_of_lt (b.rel.G9 c a),b.rel.VH⟩ r,b.cur.mv m (λ_ _ _ h=>h),iL.mv0 m b.mR⟩
 ·have:y=B:=by have:=k.symm.trans u;cases this;rfl
  subst this;have v:Mj ρ s.nx (some H.next) s.nx=some H.next:=if_pos rfl;rw [v];cases y with
  |seq t l=>exact .inl ⟨H.next,cs,el,rfl,ab,cG.mono m.z a⟩
  |buf e l=>
   obtain⟨a,q,rfl⟩:=a;exact .inl ⟨H.next,cs,q,rfl,ab,cG.mono m.z a⟩
  |cells lv=>exact⟨H.next,cs,el,rfl,ab,ay.mv m lv (λ_ _ h=>h) a.1,a.2⟩
  |loop _ _ _ _ _ _=>simp_all
  |qW _ _=>simp_all
  |KU _ _=>simp_all
 ·have v:Mj ρ s.nx (some H.next) s.nx=some H.next:=if_pos rfl;rw [v]at n;cases n;exact⟨b.rel.gQ.1,ab,λp=>aAi _ (b.rel.G9 _ p),λid e j a=>aAi _ (b.rel.hi id _ j a).2.1⟩
theorem SR.avw (a:SR Hb A ρ Z H s f fs) t:SR Hb A (Mj ρ s.nx none) Z H (s.new (.seq t [])) f fs:=by
 have k: ∀id,id≠s.nx->cd (s.h++ [some (.seq t [])]) id=cd s.h id:=λid e=>by
  rw [km];by_cases c:id<s.h.length
  ·simp_all
  ·rw [if_neg c];have q:cd s.h id=none:=by
    cases r:cd s.h id with
    |none=>rfl
    |some B=>exact absurd (ot r) c
   rw [q];obtain⟨d,u⟩: ∃d,id-s.h.length=d+1:=⟨id-s.h.length-1,by have:id≠s.h.length:=e;omega⟩;rw [u];rfl
 have l:cd (s.h++ [some (.seq t [])]) s.nx=some (.seq t []):=by show cd _ s.h.length=_;rw [km,if_neg (aAi _),Nat.sub_self];rfl
 have v: ∀id,id≠s.nx->Mj ρ s.nx none id=ρ id:=λid e=>if_neg e
 have m:Mv (λ_=>False) ρ Z H s.h (Mj ρ s.nx none) Z H (s.h++ [some (.seq t [])]):=by
  refine⟨λc j=>⟨j,rfl⟩,λid x _ n=> ?_⟩;have e:id≠s.nx:=λe=>by rw [e,aeo]at n;simp [vU]at n
  simp_all
 refine⟨a.rel.akV m ⟨a.rel.gQ,azv _,v,λid c e p j=>rfl,λid c e p j=>(a.rel.hi id c p j).2.2,λw b=> ?_,λc b y=> ?_,a.rel.G9,a.rel.VH⟩ k,a.cur.mv m (λ_ _ _ h=>h),iL.mv0 m a.mR⟩
 ·have:w= .seq t []:=by have:=b.symm.trans l;cases this;rfl
  subst this;exact .inr ⟨rfl,if_pos rfl⟩
 ·have z:Mj ρ s.nx none s.nx=none:=if_pos rfl;simp_all
theorem SR.move (a:SR Hb A ρ Z H s f fs) {l:AH} (G:cd s.h i=some B)
  (L:l.next=H.next) (M: ∀c,ρ i≠some c->l.get c=H.get c) (n:cG Z H t u cs'):
  SR Hb A (Mj ρ i (some H.next)) Z (l.new (.cells cs' false el')) ((s.ck i).put i (.seq t u)) f fs:=by
 have p:cd s.h i≠none:=by rw [G];simp
 have k: ∀c,c<H.next->ρ i≠some c->(l.new (.cells cs' false el')).get c=H.get c:=λc R N=>by rw [AH.eg _ aa];exact M c N
 have D: ∀c,Z c->(l.new (.cells cs' false el')).get c=H.get c:=λc q=>k c (a.rel.G9 c q) λe=>(a.rel.hi i c p e).2.2 q
 have v: ∀id,id≠i->cd (hZ (dh i s.h) i (some (.seq t u))) id=jF i (cd s.h id):=λid e=>by rw [jq,if_neg (λc=>e c.1),gJ]
 have E:cd (hZ (dh i s.h) i (some (.seq t u))) i=some (.seq t u):=by rw [jq,if_pos ⟨rfl,by rw [iF];exact ot G⟩]
 have I: ∀id,id≠i->Mj ρ i (some H.next) id=ρ id:=λid e=>if_neg e
 have m:Mv (· =i) ρ Z H s.h (Mj ρ i (some H.next)) Z (l.new (.cells cs' false el')) (hZ (dh i s.h) i (some (.seq t u))):=
  ⟨λb q=>⟨q,D b q⟩,λid x K O=>⟨by rw [v id K,A0];exact O,I id K⟩⟩
 have r:jh Hb (l.new (.cells cs' false el')):=by
  refine⟨by simp;have:=a.rel.gQ.1;omega,λc n=> ?_⟩;rw [k c (aAa n a.rel.gQ.1) (λe=>absurd (a.rel.hi i c p e).1 (Nat.not_le.2 n))];exact a.rel.gQ.2 c n
 refine⟨a.rel.auJ m ⟨r,by simp;omega,I,λid c e d j=>k c (a.rel.hi id c d j).2.1 (λP=>e (a.rel.inj id i c d p j P)),λid c e d j=>(a.rel.hi id c d j).2.2,λQ w=> ?_,λc w y=> ?_,λc n=>by have:=a.rel.G9 c n;simp;omega,a.rel.VH⟩ v,a.cur.mvp m,iL.mvp m a.mR⟩
 ·have:Q= .seq t u:=by have:=w.symm.trans E;cases this;rfl
  subst this;have F:Mj ρ i (some H.next) i=some H.next:=if_pos rfl;rw [F];exact .inl ⟨H.next,cs',el',rfl,by rw [<-L];simp,cG.mono m.z n⟩
 ·have F:Mj ρ i (some H.next) i=some H.next:=if_pos rfl;rw [F]at y;cases y;exact⟨a.rel.gQ.1,by simp;omega,λq=>aAi _ (a.rel.G9 _ q),λid e d j=>aAi _ (a.rel.hi id _ d j).2.1⟩
theorem SR.axi (a:SR Hb A ρ Z H s f fs) e0:SR Hb A (Mj ρ s.nx none) Z H (s.new (.buf e0 [])) f fs:=by
 have k: ∀id,id≠s.nx->cd (s.h++ [some (.buf e0 [])]) id=cd s.h id:=λid e=>by
  rw [km];by_cases c:id<s.h.length
  ·simp_all
  ·rw [if_neg c];have q:cd s.h id=none:=by
    cases r:cd s.h id with
    |none=>rfl
    |some B=>exact absurd (ot r) c
   rw [q];obtain⟨d,t⟩: ∃d,id-s.h.length=d+1:=⟨id-s.h.length-1,by have:id≠s.h.length:=e;omega⟩;rw [t];rfl
 have l:cd (s.h++ [some (.buf e0 [])]) s.nx=some (.buf e0 []):=by show cd _ s.h.length=_;rw [km,if_neg (aAi _),Nat.sub_self];rfl
 have u: ∀id,id≠s.nx->Mj ρ s.nx none id=ρ id:=λid e=>if_neg e
 have m:Mv (λ_=>False) ρ Z H s.h (Mj ρ s.nx none) Z H (s.h++ [some (.buf e0 [])]):=by
  refine⟨λc j=>⟨j,rfl⟩,λid x _ n=> ?_⟩;have e:id≠s.nx:=λe=>by rw [e,aeo]at n;simp [vU]at n
  simp_all
 refine⟨a.rel.akV m ⟨a.rel.gQ,azv _,u,λid c e p j=>rfl,λid c e p j=>(a.rel.hi id c p j).2.2,λv b=> ?_,λc b w=> ?_,a.rel.G9,a.rel.VH⟩ k,a.cur.mv m (λ_ _ _ h=>h),iL.mv0 m a.mR⟩
 ·have:v= .buf e0 []:=by have:=b.symm.trans l;cases this;rfl
  subst this;exact .inr ⟨rfl,if_pos rfl⟩
 ·have e0:Mj ρ s.nx none s.nx=none:=if_pos rfl;simp_all
theorem SR.aw8 (a:SR Hb A ρ Z H s f fs) {l:List Int} {n:AH} (E:cd s.h i=some B)
  (I:n.next=H.next) (K: ∀c,ρ i≠some c->n.get c=H.get c) (p:cG Z H (.int .u8) l cs'):
  SR Hb A (Mj ρ i (some H.next)) Z (n.new (.cells cs' false (some (e0,q0)))) ((s.ck i).put i (.buf e0 l)) f fs:=by
 have q:cd s.h i≠none:=by rw [E];simp
 have k: ∀c,c<H.next->ρ i≠some c->(n.new (.cells cs' false (some (e0,q0)))).get c=H.get c:=λc P L=>by rw [AH.eg _ aa];exact K c L
 have y: ∀c,Z c->(n.new (.cells cs' false (some (e0,q0)))).get c=H.get c:=λc r=>k c (a.rel.G9 c r) λe=>(a.rel.hi i c q e).2.2 r
 have u: ∀id,id≠i->cd (hZ (dh i s.h) i (some (.buf e0 l))) id=jF i (cd s.h id):=λid e=>by rw [jq,if_neg (λc=>e c.1),gJ]
 have D:cd (hZ (dh i s.h) i (some (.buf e0 l))) i=some (.buf e0 l):=by rw [jq,if_pos ⟨rfl,by rw [iF];exact ot E⟩]
 have F: ∀id,id≠i->Mj ρ i (some H.next) id=ρ id:=λid e=>if_neg e
 have m:Mv (· =i) ρ Z H s.h (Mj ρ i (some H.next)) Z (n.new (.cells cs' false (some (e0,q0)))) (hZ (dh i s.h) i (some (.buf e0 l))):=
  ⟨λb r=>⟨r,y b r⟩,λid x G M=>⟨by rw [u id G,A0];exact M,F id G⟩⟩
 have t:jh Hb (n.new (.cells cs' false (some (e0,q0)))):=by
  refine⟨by simp;have:=a.rel.gQ.1;omega,λc p=> ?_⟩;rw [k c (aAa p a.rel.gQ.1) (λe=>absurd (a.rel.hi i c q e).1 (Nat.not_le.2 p))];exact a.rel.gQ.2 c p
 refine⟨a.rel.auJ m ⟨t,by simp;omega,F,λid c e d j=>k c (a.rel.hi id c d j).2.1 (λN=>e (a.rel.inj id i c d q j N)),λid c e d j=>(a.rel.hi id c d j).2.2,λO v=> ?_,λc v w=> ?_,λc p=>by have:=a.rel.G9 c p;simp;omega,a.rel.VH⟩ u,a.cur.mvp m,iL.mvp m a.mR⟩
 ·have:O= .buf e0 l:=by have:=v.symm.trans D;cases this;rfl
  subst this;have e0:Mj ρ i (some H.next) i=some H.next:=if_pos rfl;rw [e0];exact .inl ⟨H.next,cs',q0,rfl,by rw [<-I];simp,cG.mono m.z p⟩
 ·have e0:Mj ρ i (some H.next) i=some H.next:=if_pos rfl;rw [e0]at w;cases w;exact⟨a.rel.gQ.1,by simp;omega,λr=>aAi _ (a.rel.G9 _ r),λid e d j=>aAi _ (a.rel.hi id _ d j).2.1⟩
theorem SR.aaG (a:SR Hb A ρ Z H s f fs) (b:aC ρ Z H s.h lv v):SR Hb A ρ Z H (s.aaG d lv) (f.p d v) fs:=by
 refine⟨a.rel,⟨a.cur.1,λi=> ?_⟩,a.mR⟩;show aC ρ Z H s.h (dN ((d,lv)::s.cur.r) i) _;simp only [dN];by_cases e:i=d
 ·simp_all
 ·rw [show azm d i=false from beq_false (λh=>e h.symm),cond_false,AF.adF _ _ _ _ e];exact a.cur.2 i
end
mutual
def strip:LV->LV
 | .own _ | .ptr _ _ | .xO _ _ _ | .yield _ | .part _ _ _ | .oG _ | .buf _ | .ET _=> .p6
 | .iX cs o=> .iX (fk cs) o
 | .func g a b=> .func g (fk a) (fk b)
 | .agg l=> .agg (fk l)
 | .tuple l=> .tuple (fk l)
 |v=>v
def fk:List LV->List LV
 | []=> []
 |v::vs=>strip v::fk vs
end
mutual
theorem aaQ (i:Nat): ∀v:LV,strip (ck i v)=strip v
 | .p6=>by simp [ck,strip]
 | .val t x=>by simp [ck,strip]
 | .tight t l=>by simp [ck,strip]
 | .nil=>by simp [ck,strip]
 | .nilFunc=>by simp [ck,strip]
 | .own id=>by simp only [ck];cases azm id i<;>simp [strip]
 | .part id lo n=>by simp only [ck];cases azm id i<;>simp [strip]
 | .oG id=>by simp only [ck];cases azm id i<;>simp [strip]
 | .buf id=>by simp only [ck];cases azm id i<;>simp [strip]
 | .ptr id o=>by simp only [ck];cases azm id i<;>simp [strip]
 | .xO id j o=>by simp only [ck];cases azm id i<;>simp [strip]
 | .yield id=>by simp only [ck];cases azm id i<;>simp [strip]
 | .ET id=>by simp only [ck];cases azm id i<;>simp [strip]
 | .iX cs o=>by simp [ck,strip,qy i cs]
 | .func g a b=>by simp [ck,strip,qy i a,qy i b]
 | .agg l=>by simp [ck,strip,qy i l]
 | .tuple l=>by simp [ck,strip,qy i l]
theorem qy (i:Nat): ∀v:List LV,fk (nR i v)=fk v
 | []=>by simp [nR,fk]
 |v::vs=>by simp [nR,fk,aaQ i v,qy i vs]
end
theorem IG: ∀v,(fk v).length=v.length
 | []=>rfl
 |v::vs=>by simp [fk,IG vs]
mutual
theorem agR: ∀v:LV,jX (strip v)=[]
 | .p6 | .val _ _ | .tight _ _ | .nil | .nilFunc | .own _ | .ptr _ _ | .xO _ _ _ | .yield _ | .part _ _ _ | .oG _ | .buf _ | .ET _=>by simp [strip,jX]
 | .iX cs o=>by simp [strip,jX,wK cs]
 | .func g a b=>by simp [strip,jX,wK a,wK b]
 | .agg l=>by simp [strip,jX,wK l]
 | .tuple l=>by simp [strip,jX,wK l]
theorem wK: ∀v:List LV,Px (fk v)=[]
 | []=>by simp [fk,Px]
 |v::vs=>by simp [fk,Px,agR v,wK vs]
end
section
variable {ρ:Nat->Option Nat} {Z:Nat->Prop} {H:AH} {h:List (Option LB)}
mutual
theorem aC.st: ∀(v:LV) {a:AV},aC ρ Z H h v a->aC ρ Z H h (strip v) a
 | .p6,_,_=>by simp [strip,aC]
 | .val t x,_,hr=>by simpa only [strip]using hr
 | .tight t l,_,hr=>by simpa only [strip]using hr
 | .nil,_,hr=>by simpa only [strip]using hr
 | .nilFunc,_,hr=>by simpa only [strip]using hr
 | .own id,_,hr=>by simp [strip,aC]
 | .part id lo n,_,hr=>by simp [strip,aC]
 | .oG id,_,hr=>by simp [strip,aC]
 | .buf id,_,hr=>by simp [strip,aC]
 | .ptr id o,_,hr=>by simp [strip,aC]
 | .xO id j o,_,hr=>by simp [strip,aC]
 | .yield id,_,hr=>by simp [strip,aC]
 | .ET id,_,hr=>by simp [strip,aC]
 | .iX cs off,_,hr=>by
  simp only [strip,aC]at hr⊢;obtain⟨b,o,cells,el,h1,h2,h3,h4,h5⟩:=hr;exact⟨b,o,cells,el,h1,h2,h3,by rw [IG];exact h4,by rw [IG];exact ay.st cs h5⟩
 | .func g x y,_,hr=>by
  simp only [strip,aC]at hr⊢;obtain⟨a',b',h1,h2,h3⟩:=hr;exact⟨a',b',h1,ay.st x h2,ay.st y h3⟩
 | .agg l,_,hr=>by
  simp only [strip,aC]at hr⊢;obtain⟨l',h1,h2⟩:=hr;exact⟨l',h1,ay.st l h2⟩
 | .tuple l,_,hr=>by
  simp only [strip,aC]at hr⊢;obtain⟨l',h1,h2⟩:=hr;exact⟨l',h1,ay.st l h2⟩
theorem ay.st: ∀(v:List LV) {a:List AV},ay ρ Z H h v a->ay ρ Z H h (fk v) a
 | [],[],_=>by simp [fk,ay]
 |v::vs,a::aCL,hr=>by
  simp only [fk,ay]at hr⊢;exact⟨aC.st v hr.1,ay.st vs hr.2⟩
 | [],_::_,hr=>by simp [ay]at hr
 |_::_,[],hr=>by simp [ay]at hr
end
end
mutual
theorem Ve (i:Nat): ∀v:LV,iB v=false->iB (ck i v)=false
 | .p6,_ | .val _ _,_ | .tight _ _,_ | .nil,_ | .nilFunc,_=>by simp [ck,iB]
 | .own id,h=>by simp [iB]at h
 | .part id lo n,h=>by simp [iB]at h
 | .oG id,_=>by simp only [ck];cases azm id i<;>simp [iB]
 | .buf id,_=>by simp only [ck];cases azm id i<;>simp [iB]
 | .ptr id o,_=>by simp only [ck];cases azm id i<;>simp [iB]
 | .xO id j o,_=>by simp only [ck];cases azm id i<;>simp [iB]
 | .yield id,_=>by simp only [ck];cases azm id i<;>simp [iB]
 | .ET id,_=>by simp only [ck];cases azm id i<;>simp [iB]
 | .iX cs o,h=>by simp only [ck,iB]at h⊢;exact sI i cs h
 | .func g a b,h=>by simp only [ck,iB,Bool.or_eq_false_iff]at h⊢;exact⟨sI i a h.1,sI i b h.2⟩
 | .agg l,h=>by simp only [ck,iB]at h⊢;exact sI i l h
 | .tuple l,h=>by simp only [ck,iB]at h⊢;exact sI i l h
theorem sI (i:Nat): ∀v:List LV,Gn v=false->Gn (nR i v)=false
 | [],_=>by simp [nR,Gn]
 |v::vs,h=>by simp only [nR,Gn,Bool.or_eq_false_iff]at h⊢;exact⟨Ve i v h.1,sI i vs h.2⟩
end
def PF (c:Bool) (f f':LF):Prop:= ∀i,(c=true/\iB (dN f.r i)=true)\/(strip (dN f'.r i)=strip (dN f.r i)/\(iB (dN f.r i)=false->iB (dN f'.r i)=false))
def F9:List LF->List LF->Prop
 | [],[]=>True
 |f::fs,g::a=>PF true f g/\F9 fs a
 |_,_=>False
theorem PF.refl f:PF c f f:=λ_=> .inr ⟨rfl,λh=>h⟩
theorem PF.trans (a:PF c f g) (b:PF c g h):PF c f h:=λi=>by
 rcases a i with l |⟨n,p⟩
 ·simp_all
 ·cases q:iB (dN f.r i)with
  |true=>
   cases c with
   |true=>simp_all
   |false=>
    rcases b i with⟨d,_⟩ |⟨j,k⟩
    ·grind
    ·simp_all
  |false=>
   rcases b i with⟨_,d⟩ |⟨j,k⟩
   ·simp_all
   ·simp_all
theorem PF.up (a:PF false f g):PF c f g:=λi=>by
 rcases a i with⟨h,_⟩ |h
 ·cases h
 ·simp_all
theorem F9.refl: ∀fs,F9 fs fs
 | []=>trivial
 |f::fs=>⟨PF.refl f,F9.refl fs⟩
theorem F9.trans: ∀ {f g h},F9 f g->F9 g h->F9 f h
 | [],[],[],_,_=>trivial
 |f::fs,g::c,h::d,a,b=>⟨a.1.trans b.1,F9.trans a.2 b.2⟩
 | [],[],_::_,_,b=>by simp [F9]at b
 | [],_::_,_,a,_=>by simp [F9]at a
 |_::_,[],_,a,_=>by simp [F9]at a
 |_::_,_::_,[],_,b=>by simp [F9]at b
theorem PF.ck i f:PF c f (ac2 i f):=λj=>by
 refine .inr ?_;show strip (dN (K3 i f.r) j)=_/\(_->iB (dN (K3 i f.r) j)=false);rw [RI,aaQ];exact⟨rfl,Ve i _⟩
theorem F9.ck i: ∀fs,F9 fs (acO i fs)
 | []=>trivial
 |f::fs=>⟨PF.ck i f,F9.ck i fs⟩
def GD:Option LB->Option LB
 |some (.cells a)=>some (.cells (fk a))
 |some (.loop _ _ _ _ _ _)=>some (.loop .ready none ⟨0,[]⟩ [] .skip .skip)
 |some (.qW c vs)=>some (.qW c (fk vs))
 |b=>b
theorem ajQ:GD b=none↔b=none:=by
 rcases b with _ |b
 ·simp [GD]
 ·cases b<;>simp [GD]
theorem sq i b:GD (jF i b)=GD b:=by
 rcases b with _ |b
 ·rfl
 ·cases b with
  |seq t l=>rfl
  |buf e l=>rfl
  |cells a=>simp [jF,GD,qy]
  |qW c vs=>simp [jF,GD,qy]
  |KU t l=>rfl
  |loop _ _ _ _ _ _=>rfl
theorem ac4 (h:a≠none) (e:GD a=GD b):b≠none:=λh'=>h (ajQ.1 (e.trans (ajQ.2 h')))
structure Dr (Z:Nat->Prop) (s:St) (Z':Nat->Prop) (s':St):Prop where
 z: ∀b,Z b->Z' b
 cur:PF false s.cur s'.cur
 mR:F9 s.mR s'.mR
 al: ∀id,cd s'.h id≠none->GD (cd s'.h id)=GD (cd s.h id)
 nx:s'.nx=s.nx
theorem Dr.refl Z s:Dr Z s Z s:=⟨λ_ h=>h,PF.refl _,F9.refl _,λ_ _=>rfl,rfl⟩
theorem Dr.trans (a:Dr Z s Z' s') (b:Dr Z' s' c s''):Dr Z s c s'':=
 ⟨λx h=>b.z x (a.z x h),a.cur.trans b.cur,F9.trans a.mR b.mR,λid h=>(b.al id h).trans (a.al id (ac4 h (b.al id h))),b.nx.trans a.nx⟩
theorem LZ: ∀h i b,(hZ h i b).length=h.length
 | [],_,_=>rfl
 |_::_,0,_=>rfl
 |_::h,i+1,b=>by simp [hZ,LZ h i b]
theorem Dr.drop Z s i (a: ∀b,Z b->Z' b):Dr Z s Z' (s.drop i):=by
 refine⟨a,PF.ck i _,F9.ck i _,λid h=> ?_, ?_⟩
 ·rw [lZ]at h;by_cases e:id=i
  ·simp_all
  ·rw [lZ,if_neg e,sq]
 ·show(hZ (dh i s.h) i none).length=s.h.length;rw [LZ,iF]
theorem Dr.nu: ∀is s Z {Z'},(∀b,Z b->Z' b)->Dr Z s Z' (nu is s)
 | [],s,Z,Z',a=>⟨a,PF.refl _,F9.refl _,λ_ _=>rfl,rfl⟩
 |i::is,s,Z,Z',a=>(Dr.drop Z s i (Z':=Z) λ_ h=>h).trans (Dr.nu is (s.drop i) Z a)
structure Tr (c:Bool) (wr:List Nat) (ρ:Nat->Option Nat) (Z:Nat->Prop) (H:AH) (s:St) (ρ':Nat->Option Nat) (Z':Nat->Prop) (H':AH) (s':St):Prop where
 z: ∀b,Z b->Z' b/\H'.get b=H.get b
 next:H.next<=H'.next
 cur:PF c s.cur s'.cur
 mR:F9 s.mR s'.mR
 un: ∀id,id<s.nx-> ¬id∈wr->cd s'.h id≠none->GD (cd s'.h id)=GD (cd s.h id)/\ρ' id=ρ id/\ ∀b,ρ id=some b->H'.get b=H.get b
 nx:s.nx<=s'.nx\/ ∀id,id<s.nx->id∈wr
theorem Dr.tr (d:Dr Z s Z' s') wr:Tr c wr ρ Z H s ρ Z' H s':=
 ⟨λb h=>⟨d.z b h,rfl⟩,azv _,d.cur.up,d.mR,λid _ _ h=>⟨d.al id h,rfl,λ_ _=>rfl⟩,.inl (Nat.le_of_eq d.nx.symm)⟩
section
variable {Hb:AH} {A:Nat->Prop} {ρ:Nat->Option Nat} {Z:Nat->Prop} {H:AH} {h:List (Option LB)} {s:St} {f:AF} {fs:List AF} {α:Type}
mutual
theorem Nt: ∀v:AV,aC ρ Z H h (Jq v) v
 | .int k n=>by simp [Jq,aC,eC]
 | .bool b=>by simp [Jq,aC,eC]
 | .str s=>by simp [Jq,aC,eC]
 | .slice none 0 0 0=>by simp [Jq,aC]
 | .slice none (n+1) c e=>by simp [Jq,aC]
 | .slice none 0 (c+1) e=>by simp [Jq,aC]
 | .slice none 0 0 (e+1)=>by simp [Jq,aC]
 | .slice (some a) n c e=>by simp [Jq,aC]
 | .func g a b=>by simp only [Jq,aC];exact⟨a,b,rfl,yZ a,yZ b⟩
 | .nilFunc=>by simp [Jq,aC]
 | .agg l=>by simp only [Jq,aC];exact⟨l,rfl,yZ l⟩
 | .tuple l=>by simp only [Jq,aC];exact⟨l,rfl,yZ l⟩
 | .ptr a=>by simp [Jq,aC]
 | .map r=>by simp [Jq,aC]
 | .yield l=>by simp [Jq,aC]
 | .iface t v=>by simp [Jq,aC]
 | .nilIface=>by simp [Jq,aC,eC]
theorem yZ: ∀v:List AV,ay ρ Z H h (yy v) v
 | []=>by simp [yy,ay]
 |v::vs=>by simp only [yy,ay];exact⟨Nt v,yZ vs⟩
end
theorem ayo (a:CX ρ Z H h b f) x:aC ρ Z H h (oS b x) (f.ev x):=by
 cases x with
 |t i=>exact a.2 i
 |c v=>exact Nt v
theorem gU (a:SR Hb A ρ Z H s f fs) x:aC ρ Z H s.h (oS s.cur x) (f.ev x):=ayo a.cur x
theorem adf (a:SR Hb A ρ Z H s f fs): ∀xs,ay ρ Z H s.h (agq s.cur xs) (nk f xs)
 | []=>by simp [agq,nk,ay]
 |x::xs=>by simp only [nk];exact⟨gU a x,adf a xs⟩
theorem aiT f: ∀xs,xs.map f.ev=nk f xs
 | []=>rfl
 |x::xs=>by simp [nk,aiT f xs]
theorem ay.len: ∀ {l} {v},ay ρ Z H h l v->l.length=v.length
 | [],[],_=>rfl
 |a::aCL,b::d,c=>by simp only [ay]at c;simp [ay.len c.2]
 | [],_::_,c=>by simp [ay]at c
 |_::_,[],c=>by simp [ay]at c
theorem ay.app: ∀ {l k} {v n},ay ρ Z H h l v->ay ρ Z H h k n->ay ρ Z H h (l++k) (v++n)
 | [],_,[],_,_,c=>c
 |a::aCL,_,b::p,_,d,c=>by simp only [List.cons_append]at d⊢;exact⟨d.1,ay.app d.2 c⟩
 | [],_,_::_,_,j,_=>by simp [ay]at j
 |_::_,_,[],_,j,_=>by simp [ay]at j
theorem ay.nth: ∀ {l} {v} {i} {x},ay ρ Z H h l v->Q3 l i=some x-> ∃a,v[i]? =some a/\aC ρ Z H h x a
 | [],_,i,x,_,d=>by simp [Q3]at d
 |a::aCL,b::k,0,x,j,d=>by simp [Q3]at d;subst d;simp only [ay]at j;exact⟨b,ab,j.1⟩
 |a::aCL,b::k,i+1,x,j,d=>by simp only [ay]at j;simp only [Q3]at d;obtain⟨c,n,p⟩:=ay.nth j.2 d;exact⟨c,by simpa using n,p⟩
 |_::_,[],_,_,j,_=>by simp [ay]at j
theorem ay.drop: ∀n {l} {v},ay ρ Z H h l v->ay ρ Z H h (l.drop n) (v.drop n)
 |0,_,_,c=>by simpa using c
 |n+1,[],[],c=>by simpa using c
 |n+1,a::aCL,b::d,c=>by simp only [ay]at c;simpa using ay.drop n c.2
 |n+1,[],_::_,c=>by simp [ay]at c
 |n+1,_::_,[],c=>by simp [ay]at c
theorem ay.take: ∀n {l} {v},ay ρ Z H h l v->ay ρ Z H h (l.take n) (v.take n)
 |0,_,_,c=>by simp [ay]
 |n+1,[],[],c=>by simpa using c
 |n+1,a::aCL,b::d,c=>by simp only [ay]at c;simp only [List.take_succ_cons];exact⟨c.1,ay.take n c.2⟩
 |n+1,[],_::_,c=>by simp [ay]at c
 |n+1,_::_,[],c=>by simp [ay]at c
theorem ay.set: ∀ {l} {v} i {x} {a},ay ρ Z H h l v->aC ρ Z H h x a->ay ρ Z H h (Pw l i x) (v.set i a)
 | [],[],i,x,a,_,_=>by simp [Pw,ay]
 |b::k,c::n,0,x,a,d,j=>by simp only [ay]at d;simp only [List.set_cons_zero];exact⟨j,d.2⟩
 |b::k,c::n,i+1,x,a,d,j=>by simp only [ay]at d;simp only [List.set_cons_succ];exact⟨d.1,ay.set i d.2 j⟩
 | [],_::_,_,_,_,d,_=>by simp [ay]at d
 |_::_,[],_,_,_,d,_=>by simp [ay]at d
theorem ay.fill: ∀ {xs} {aCL} {l} {v} o,ay ρ Z H h l v->ay ρ Z H h xs aCL->ay ρ Z H h (Kf l o xs) (bu v o aCL)
 | [],[],_,_,o,c,_=>by simpa [Kf,bu]using c
 |x::xs,a::aCL,l,v,o,c,b=>by simp only [ay]at b;simp only [bu];exact ay.fill (o+1) (ay.set o c b.1) b.2
 | [],_::_,_,_,_,_,b=>by simp [ay]at b
 |_::_,[],_,_,_,_,b=>by simp [ay]at b
theorem ay.rep (a:ay ρ Z H h z w): ∀n,ay ρ Z H h (av7 z n) (rep w n)
 |0=>by simp [av7,dC.rep,ay]
 |n+1=>by simp only [dC.rep];exact ay.app a (ay.rep a n)
theorem afI (c:aC ρ Z H h v a) (j:IX [v]=true):aB [a]=true:=by
 cases v with
 |p6=>simp [IX]at j
 |agg l=>simp [IX]at j
 |tuple l=>simp [IX]at j
 |val t x=>simp only [aC]at c;exact c.one
 |tight t l=>simp only [aC]at c;rcases c with⟨_,rfl⟩ |⟨b,o,d,k,rfl,_⟩<;>rfl
 |nil=>simp only [aC]at c;subst c;rfl
 |own id=>simp only [aC]at c;obtain⟨t,n,_,⟨b,q,_,rfl,_⟩ |⟨_,_,rfl |⟨b,o,d,k,rfl,_⟩⟩⟩:=c<;>rfl
 |part id r n=>simp only [aC]at c;obtain⟨t,N,_,_,⟨b,q,_,rfl,_⟩ |⟨_,_,rfl |⟨b,o,d,k,rfl,_⟩⟩⟩:=c<;>rfl
 |oG id=>simp only [aC]at c;rcases c with rfl |⟨m,b,_,_,rfl⟩<;>rfl
 |buf id=>simp only [aC]at c;obtain⟨e,n,_,⟨b,q,_,rfl,_⟩ |⟨_,_,rfl⟩⟩:=c<;>rfl
 |ptr id o=>simp only [aC]at c;obtain⟨m,b,_,_,rfl⟩:=c;rfl
 |xO id i o=>simp only [aC]at c;obtain⟨t,n,b,_,_,_,rfl⟩:=c;rfl
 |iX u o=>simp only [aC]at c;obtain⟨b,p,d,k,rfl,_⟩:=c;rfl
 |func g a b=>simp only [aC]at c;obtain⟨w,y,rfl,_⟩:=c;rfl
 |nilFunc=>simp only [aC]at c;subst c;rfl
 |yield id=>simp only [aC]at c;obtain⟨m,b,_,_,rfl⟩:=c;rfl
 |ET id=>simp only [aC]at c;obtain⟨m,b,_,_,rfl⟩:=c;rfl
theorem ajB: ∀ {l} {v},ay ρ Z H h l v->IX l=true->aB v=true
 | [],[],_,_=>rfl
 |a::aCL,b::q,c,d=>by
  have j:IX [a]=true:=by cases a<;>first |rfl |(simp [IX]at d)
  have k:IX aCL=true:=by cases a<;>first |(simpa [IX]using d) |(simp [IX]at d)
  have n:=afI c.1 j;have p:=ajB c.2 k;cases b<;>first |(simpa [aB]using p) |(simp [aB]at n)
 | [],_::_,c,_=>by simp [ay]at c
 |_::_,[],c,_=>rfl
theorem afG (b:aC ρ Z H h v a) (d:IX (kp v)=true):ay ρ Z H h (kp v) (cellsOf a):=by
 have c:IX [v]=true->kp v=[v]->ay ρ Z H h (kp v) (cellsOf a):=λj k=>by
  have n:=afI b j;have p:cellsOf a=[a]:=by cases a<;>first |rfl |(simp [aB]at n)
  rw [k,p];simp only [ay];exact⟨b,trivial⟩
 cases v with
 |agg l=>simp only [aC]at b;obtain⟨r,rfl,q⟩:=b;exact q
 |tuple l=>simp [kp,IX]at d
 |p6=>simp [kp,IX]at d
 |_=>exact c rfl rfl
theorem lE: ∀t x,(aE t x).length=t.w
 | .int k,_=>rfl
 | .bool,_=>rfl
 | .str,_=>rfl
 | .unit,_=>rfl
 | .CH,_=>rfl
 | .bld e,_=>rfl
 | .ref t,_=>rfl
 | .pair a b,x=>by simp only [aE,aAf,lE a,lE b];rfl
 | .list t,_=>rfl
theorem kE: ∀t {x} {cs},eC Z H t x cs->ay ρ Z H h (aE t x) cs
 | .int k,_,_,c=>by rw [show _=_ from c];simp [aE,ay,aC,eC]
 | .bool,_,_,c=>by rw [show _=_ from c];simp [aE,ay,aC,eC]
 | .str,_,_,c=>by rw [show _=_ from c];simp [aE,ay,aC,eC]
 | .unit,_,_,c=>by rw [show _=_ from c];simp [aE,ay]
 | .CH,_,_,c=>by rw [show _=_ from c];simp [aE,ay,aC,eC]
 | .bld e,_,_,c=>c.elim
 | .ref t,x,_,⟨b,o,d,p,j,n,q,r,u⟩=>by
  subst j;exact⟨⟨b,o,d,p,rfl,n,q,by rw [lE t x];exact r,by rw [lE t x];exact kE t u⟩,trivial⟩
 | .pair a b,_,_,⟨w,y,e,j,n⟩=>by rw [e];simp only [aE];exact ay.app (kE a j) (kE b n)
 | .list t,l,_,⟨v,e,c⟩=>by
  subst e;exact⟨⟨v,rfl,c⟩,trivial⟩
theorem uR {k:LV->Option α} (a:Ta cs i k=some r): ∃v,Q3 cs i=some v/\k v=some r:=by
 simp only [Ta]at a;split at a
 ·simp_all
 ·cases a
theorem EI {k:LV->Option α} (a:al8 cs o n k=some r):aAh (o+n) cs.length=true/\k (.agg ((cs.drop o).take n))=some r:=by
 simp only [al8,azU]at a;grind
theorem Et {k:IntKind->Int->Option α} (a:ad2 v k=some r): ∃i n,v= .val (.int i) n/\k i n=some r:=by
 simp only [ad2]at a;split at a
 ·grind
 ·cases a
theorem adg {n:Int} (b:aC ρ Z H h (.val (.int i) n) a):a= .int i n:=by simpa [aC,eC]using b
theorem X0 {b:Bool} (c:aC ρ Z H h (.val .bool b) a):a= .bool b:=by simpa [aC,eC]using c
theorem ajk {b:List UInt8} (c:aC ρ Z H h (.val .str b) a):a= .str b:=by simpa [aC,eC]using c
theorem of_int {n:Int} :aC ρ Z H h (.val (.int i) n) (.int i n):=by simp [aC,eC]
theorem of_bool {b:Bool} :aC ρ Z H h (.val .bool b) (.bool b):=by simp [aC,eC]
theorem Vc {b:List UInt8} :aC ρ Z H h (.val .str b) (.str b):=by simp [aC,eC]
theorem vX (a:SR Hb A ρ Z H s f fs) {n:Int} (e:oS s.cur x= .val (.int i) n):f.ev x= .int i n:=adg (e▸gU a x)
theorem ajA (a:SR Hb A ρ Z H s f fs) {b:Bool} (e:oS s.cur x= .val .bool b):f.ev x= .bool b:=X0 (e▸gU a x)
theorem Um (a:SR Hb A ρ Z H s f fs) {b:List UInt8} (e:oS s.cur x= .val .str b):f.ev x= .str b:=ajk (e▸gU a x)
theorem ain (y:SR Hb A ρ Z H s f fs) {k:List LV->Option α} {r:α} : ∀ {ps:List (Nat×Nat×AX)} {cs:List LV} {aCL:List AV},ay ρ Z H s.h cs aCL->Ng s.cur cs ps k=some r-> ∃cs' b,k cs'=some r/\fill f aCL ps=some b/\ay ρ Z H s.h cs' b/\(aB aCL=true->aB b=true)
 | [],cs,aCL,q,n=>⟨cs,aCL,n,rfl,q,λh=>h⟩
 |(p,d,x)::ps,cs,aCL,q,n=>by
  simp only [Ng]at n;cases u:(azm (kp (oS s.cur x)).length d&&aAh (p+d) cs.length&&IX (kp (oS s.cur x)))with
  |false=>simp_all
  |true=>
   rw [u]at n;simp only [azl]at u;obtain⟨⟨w,j⟩,t⟩:=u;have a:=afG (gU y x) t;obtain⟨cs',b,z,D,E,F⟩:=ain y (ay.fill p q a) n;refine⟨cs',b,z, ?_,E,λG=>F (TV (ajB a t) G)⟩;simp only [fill];rw [<-a.len,<-q.len,w,j];exact D
where
 Wl: ∀ {cs:List AV} {o:Nat} {v:AV},aB [v]=true->aB cs=true->aB (cs.set o v)=true
  | [],o,v,_,_=>rfl
  |c::cs,0,v,l,a=>by
   have j:aB cs=true:=by cases c<;>first |(simpa [aB]using a) |(simp [aB]at a)
   cases v<;>first |(simpa [aB]using j) |(simp [aB]at l)
  |c::cs,o+1,v,l,a=>by
   have j:aB cs=true:=by cases c<;>first |(simpa [aB]using a) |(simp [aB]at a)
   have t:=Wl (o:=o) l j;cases c<;>first |(simpa [aB]using t) |(simp [aB]at a)
 TV: ∀ {vs:List AV} {cs:List AV} {o:Nat},aB vs=true->aB cs=true->aB (bu cs o vs)=true
  | [],cs,o,_,a=>a
  |v::vs,cs,o,l,a=>by
   have w:aB [v]=true:=by cases v<;>first |rfl |(simp [aB]at l)
   have j:aB vs=true:=by cases v<;>first |(simpa [aB]using l) |(simp [aB]at l)
   show aB (bu (cs.set o v) (o+1) vs)=true;exact TV j (Wl w a)
theorem FB {t u:Ty} {x} {k:u.Den->Option α} (a:t.asT x u k=some r): ∃e:t=u,k (e▸x)=some r:=by
 unfold Ty.asT at a;grind
theorem ayG {t u:Ty} {x} {k:List u.Den->Option α} (a:t.asL x u k=some r): ∃e:t=u,k (e▸x)=some r:=by
 unfold Ty.asL at a;grind
def Up2 (ρ:Nat->Option Nat) (Z:Nat->Prop) (h:List (Option LB)) (a:List Nat) (Z':Nat->Prop):Prop:=(∀b,Z b->Z' b)/\ ∀b,alj ρ h a b->Z' b
theorem eC.z (a: ∀b,Z b->Z' b) (c:eC Z H t x cs):eC Z' H t x cs:=c.mono λb d=>⟨a b d,rfl⟩
theorem ada (u:Rel Hb A ρ Z H h) {id} (v:cd h id=some (.seq t l)) (I:aC ρ Z H h (.own id) a) (y:Up2 ρ Z h [id] Z'):MZ Z' H t.w (λx c=>eC Z' H t x c) l a:=by
 obtain⟨O,n,F,K⟩:=I;rw [v]at F;obtain⟨rfl,rfl⟩:=F;rcases K with⟨b,L,k,rfl,G⟩ |⟨k,G,rfl |⟨b,o,d,D,rfl,p,q,r⟩⟩
 ·have M:=u.own id _ v;rcases M with⟨P,N,D,p,q,r⟩ |⟨p,q⟩
  ·rw [k]at p;cases p;refine .inr ⟨b,0,l.length,L,N,(false,D),rfl,azv _,G,y.2 b ⟨id,ab,k,by rw [v];simp⟩,q,by rw [aAZ,r.1];exact azv _,λj x E=> ?_⟩;rw [aAZ];exact(r.2 j x E).z y.1
  ·simp_all
 ·exact .inl ⟨aAU k,rfl⟩
 ·have:=aAU k;subst this;exact .inr ⟨b,o,0,0,d,(false,D),rfl,azv _,.inl rfl,y.1 b p,q,by simpa using r,λj x E=>by simp at E⟩
theorem ahh (y:Rel Hb A ρ Z H h) {id} (D:cd h id=some (.seq t l)) (L:aC ρ Z H h (.part id lo n) a) (E:Up2 ρ Z h [id] Z'):MZ Z' H t.w (λx c=>eC Z' H t x c) ((l.drop lo.toNat).take n.toNat) a:=by
 obtain⟨T,N,I,U,M⟩:=L;rw [D]at I;obtain⟨rfl,rfl⟩:=I;have d:((l.drop lo.toNat).take n.toNat).length=n.toNat:=by rw [List.length_take,aA0];omega
 rcases M with⟨b,O,r,rfl,K⟩ |⟨r,K,P⟩
 ·have Q:=y.own id _ D;rcases Q with⟨V,R,F,p,u,v⟩ |⟨p,u⟩
  ·rw [r]at p;cases p;refine .inr ⟨b,lo.toNat*t.w,l.length-lo.toNat,O,R,(false,F),by rw [d],by rw [d];omega,K,E.2 b ⟨id,ab,r,by rw [D];simp⟩,u, ?_,λj x q=> ?_⟩
   ·rw [d,v.1,<-aA2];exact aAb _ aa
   ·rw [List.getElem?_take]at q;by_cases c:j<n.toNat
    ·rw [if_pos c,List.getElem?_drop]at q;have:=(v.2 _ x q).z E.1;grind
    ·simp_all
  ·simp_all
 ·have G:l=[]:=aAU r;subst G;have S:(([]:List t.Den).drop lo.toNat).take n.toNat=[]:=ab
  rw [S];rcases P with rfl |⟨b,o,k,F,rfl,p,u,v⟩
  ·exact .inl ⟨rfl,rfl⟩
  ·exact .inr ⟨b,o,0,0,k,(false,F),rfl,azv _,.inl rfl,E.1 b p,u,by simpa using v,λj x q=>by simp at q⟩
theorem DF (d:aC ρ Z H h (.tight t l) a):eC Z H (.list t) l [a]:=by
 refine⟨a,rfl, ?_⟩;rcases d with d |⟨b,o,c,j,k,n,p,q,r⟩
 ·exact .inl d
 ·exact .inr ⟨b,o,l.length,0,c,j,k,azv _,.inl rfl,n,p,q,r⟩
theorem EZ (p:Rel Hb A ρ Z H h) {k:u.Den->Option α} (b:y5 h v u k=some r) (j:aC ρ Z H h v a):
  ∃x,k x=some r/\ ∀Z',Up2 ρ Z h (cP [v]) Z'->eC Z' H u x [a]:=by
 cases v with
 |val t x=>
  obtain⟨e,d⟩:=FB b;subst e;exact⟨x,d,λZ' c=>j.z c.1⟩
 |tight t l=>
  obtain⟨e,d⟩:=FB b;subst e;exact⟨l,d,λZ' c=>(DF j).z c.1⟩
 |nil=>
  simp only [y5]at b;split at b
  ·simp only [aC]at j;subst j;exact⟨[],b,λZ' c=>⟨_,rfl,.inl ⟨rfl,rfl⟩⟩⟩
  ·cases b
 |own id=>
  simp only [y5]at b;split at b
  ·rename_i t l q;obtain⟨e,d⟩:=FB b;subst e;exact⟨l,d,λZ' c=>⟨a,rfl,ada p q j c⟩⟩
  ·cases b
 |part id w n=>
  simp only [y5]at b;split at b
  ·rename_i t l q;obtain⟨e,d⟩:=FB b;subst e;exact⟨_,d,λZ' c=>⟨a,rfl,ahh p q j c⟩⟩
  ·cases b
 |_=>simp [y5]at b
theorem AA: ∀a b,cP (a++b)=cP a++cP b
 | [],b=>rfl
 |v::a,b=>by cases v<;>simp [cP,AA a b]
theorem Up2.of (j: ∀i∈a,i∈c) (d:Up2 ρ Z h c Z'):Up2 ρ Z h a Z':=⟨d.1,λb ⟨i,k,l⟩=>d.2 b ⟨i,j i k,l⟩⟩
theorem X4 (q:Rel Hb A ρ Z H h): ∀u {cs} {k:u.Den->List LV->Option α} {r} {aCL},Ls.take h u cs k=some r->ay ρ Z H h cs aCL->
  ∃x G j F I,k x j=some r/\cs=G++j/\aCL=F++I/\ay ρ Z H h j I/\ ∀Z',Up2 ρ Z h (cP G) Z'->(J5 u=false-> ∀i b,ρ i=some b->cd h i≠none->Z' b)->eC Z' H u x F
 | .unit,cs,k,r,aCL,d,l=>⟨(),[],cs,[],aCL,d,rfl,rfl,l,λZ' _ _=>rfl⟩
 | .pair a b,cs,k,r,aCL,d,l=>by
  obtain⟨x,G,j,F,I,z,rfl,rfl,S,T⟩:=X4 q a d l;obtain⟨y,d0,M,b0,b1,U,rfl,rfl,V,W⟩:=X4 q b z S;refine⟨(x,y),G++d0,M,F++b0,b1,U,by rw [List.append_assoc],by rw [List.append_assoc],V,λZ' v K=>⟨F,b0,rfl,T Z' (v.of λi Q=>by rw [AA];simp [Q]) (λe=>K (by simp [J5,e])),W Z' (v.of λi Q=>by rw [AA];simp [Q]) (λe=>K (by simp [J5,e]))⟩⟩
 | .int i,[],_,_,_,d,_=>by simp [Ls.take]at d
 | .bool,[],_,_,_,d,_=>by simp [Ls.take]at d
 | .str,[],_,_,_,d,_=>by simp [Ls.take]at d
 | .list t,[],_,_,_,d,_=>by simp [Ls.take]at d
 | .CH,[],_,_,_,d,_=>by simp [Ls.take]at d
 | .bld e,[],_,_,_,d,_=>by simp [Ls.take]at d
 | .ref t,[],_,_,_,d,_=>by simp [Ls.take]at d
 | .bld e,_::_,_,_,_,d,_=>by simp [Ls.take]at d
 | .int i,c::cs,k,r,[],d,l=>by simp [ay]at l
 | .bool,c::cs,k,r,[],d,l=>by simp [ay]at l
 | .str,c::cs,k,r,[],d,l=>by simp [ay]at l
 | .list t,c::cs,k,r,[],d,l=>by simp [ay]at l
 | .CH,c::cs,k,r,[],d,l=>by simp [ay]at l
 | .ref t,c::cs,k,r,[],d,l=>by simp [ay]at l
 | .int i,c::cs,k,r,a::aCL,d,l=>by
  obtain⟨x,z,D⟩:=EZ q d l.1;exact⟨x,[c],cs,[a],aCL,z,rfl,rfl,l.2,λZ' v _=>D Z' v⟩
 | .bool,c::cs,k,r,a::aCL,d,l=>by
  obtain⟨x,z,D⟩:=EZ q d l.1;exact⟨x,[c],cs,[a],aCL,z,rfl,rfl,l.2,λZ' v _=>D Z' v⟩
 | .str,c::cs,k,r,a::aCL,d,l=>by
  obtain⟨x,z,D⟩:=EZ q d l.1;exact⟨x,[c],cs,[a],aCL,z,rfl,rfl,l.2,λZ' v _=>D Z' v⟩
 | .CH,c::cs,k,r,a::aCL,d,l=>by
  obtain⟨x,z,D⟩:=EZ q d l.1;exact⟨x,[c],cs,[a],aCL,z,rfl,rfl,l.2,λZ' v _=>D Z' v⟩
 | .list t,c::cs,k,r,a::aCL,d,l=>by
  obtain⟨x,z,D⟩:=EZ q d l.1;exact⟨x,[c],cs,[a],aCL,z,rfl,rfl,l.2,λZ' v _=>D Z' v⟩
 | .ref t,c::cs,k,r,a::aCL,d,l=>by
  simp only [Ls.take]at d;simp only [ay]at l;have E: ∀ {lvs:List LV} {p b o:Nat} {n:List AV} {el:Bool×Option (Nat×Bool)},c=c->a= .ptr (some (b,o+p))->H.get b=some (.cells n el.1 el.2)->o+lvs.length<=n.length->ay ρ Z H h lvs ((n.drop o).take lvs.length)->cP [c]=[]->
    (∀Z',Up2 ρ Z h (cP [c]) Z'->(J5 (.ref t)=false-> ∀i b,ρ i=some b->cd h i≠none->Z' b)->Z' b)->
    cond (aAh (p+t.w) lvs.length) (Ls.take h t ((lvs.drop p).take t.w) λx j=>match j with | []=>k x cs |_::_=>none) none=some r->
    ∃x G j F I,k x j=some r/\c::cs=G++j/\a::aCL=F++I/\ay ρ Z H h j I/\ ∀Z',Up2 ρ Z h (cP G) Z'->(J5 (.ref t)=false-> ∀i b,ρ i=some b->cd h i≠none->Z' b)->eC Z' H (.ref t) x F:=by
   intro lvs p b o n el _ ha hg hl Y _ hb d;cases P:aAh (p+t.w) lvs.length with
   |false=>simp_all
   |true=>
    rw [P,cond_true]at d;have va:p+t.w<=lvs.length:=by simpa [Nat.ble_eq]using P
    have L:=(Y.drop p).take t.w;have N:(((n.drop o).take lvs.length).drop p).take t.w=(n.drop (o+p)).take t.w:=by
     rw [List.drop_take,List.drop_drop,List.take_take,Nat.min_eq_left aa]
    rw [N]at L;obtain⟨x,G,j,F,I,z,D,h3,S,T⟩:=X4 q t d L;cases j with
    |cons _ _=>cases z
    |nil=>
     cases I with
     |cons _ _=>simp [ay]at S
     |nil=>
      simp only [List.append_nil]at D h3;subst D h3;refine⟨x,[c],cs,[a],aCL,z,rfl,rfl,l.2,λZ' v K=>⟨b,o+p,n,el,by rw [ha],hb Z' v K,hg,aa, ?_⟩⟩;exact T Z' ⟨v.1,λb ⟨i,Q,e1,e2⟩=>K rfl i b e1 e2⟩ (λ_=>K rfl)
  split at d
  ·rename_i lvs p;have O:=l.1;obtain⟨b,o,n,el,U,R,g3,V,W⟩:=O;exact E rfl U g3 V W rfl (λZ' v _=>v.1 b R) d
  ·rename_i id p;have O:=l.1;obtain⟨_,b,_,R,g3⟩:=O;split at d
   ·rename_i lvs hb;obtain⟨b',vc,el,q1,q2,q3,_⟩:=q.own id _ hb;rw [R]at q1;cases q1;have hl:=q3.len;exact E (o:=0) (el:=(false,el)) rfl aj q2 aa aj rfl (λZ' _ K=>K rfl id b R aj) d
   ·grind
  ·cases d
theorem adx (c:Rel Hb A ρ Z H h) {k:u.Den->Option α} (d:ahC h u cs k=some r) (j:ay ρ Z H h cs aCL):
  ∃x,k x=some r/\ ∀Z',Up2 ρ Z h (cP cs) Z'->(J5 u=false-> ∀i b,ρ i=some b->cd h i≠none->Z' b)->eC Z' H u x aCL:=by
 obtain⟨x,q,a,t,l,n,rfl,rfl,p,v⟩:=X4 c u d j;cases a with
 |nil=>
  cases l with
  |nil=>grind
  |cons _ _=>simp [ay]at p
 |cons _ _=>cases n
theorem HR (a:Rel Hb A ρ Z H h) {k:u.Den->Option α} (b:Oq h u cs k=some r) (c:ay ρ Z H h cs aCL):
  ∃x,k x=some r/\ ∀Z',Up2 ρ Z h (cP cs) Z'->eC Z' H u x aCL:=by
 simp only [Oq]at b;cases d:J5 u with
 |false=>simp_all
 |true=>
  rw [d,cond_true]at b;obtain⟨x,j,l⟩:=adx a b c;grind
theorem M7 (p:SR Hb A ρ Z H s f fs) {d m:Nat} {k:Int->Option α} (q:d<=m) (b:Ul s.cur x d m k=some r): ∃i:Nat,k i=some r/\bound x f d m=some i/\i<=m/\(x=none->i=d):=by
 cases x with
 |none=>exact⟨d,b,rfl,q,λ_=>rfl⟩
 |some x=>
  obtain⟨i,n,t,c⟩:=Et b;have u:=vX p t;cases a:(dD 0 n&&dD n m)with
  |false=>simp_all
  |true=>
   rw [a]at c;simp only [dD,azl,decide_eq_true_eq]at a;obtain⟨j,rfl⟩: ∃j:Nat,n=j:=⟨n.toNat,(Int.toNat_of_nonneg a.1).symm⟩;have l:j<=m:=aa
   refine⟨j,c, ?_,l,λe=>by cases e⟩;simp only [bound,u];rw [show aAh j m=true by simpa [Nat.ble_eq]using l];rfl
theorem aqZ {k:LV->Option α} (c:aix op i a b k=some r): ∃lv v,k lv=some r/\bR op i a b=some v/\aC ρ Z H h lv v:=by
 cases op<;>simp only [aix]at c<;>first |(cases c;done) |skip
 all_goals first
  |exact⟨_,_,c,rfl,of_int⟩
  |exact⟨_,_,c,rfl,of_bool⟩
  |(cases d:Int.same b 0 with
    |true=>simp_all
    |false=>rw [d]at c;exact⟨_,_,c,by simp only [bR,d];rfl,of_int⟩)
theorem arM {k:LV->Option α} (c:ah9 op a b k=some r): ∃lv v,k lv=some r/\bS op a b=some v/\aC ρ Z H h lv v:=by
 cases op<;>simp only [ah9]at c<;>first |(cases c;done) |skip
 all_goals first
  |exact⟨_,_,c,rfl,of_bool⟩
  |(cases d:aAh (a.length+b.length) 9223372036854775807 with
    |false=>simp_all
    |true=>rw [d]at c;exact⟨_,_,c,by simp only [bS,d];rfl,Vc⟩)
theorem awm {k:Bool->Option α} (c:asK e a b k=some r) (d:aC ρ Z H h a x) (l:aC ρ Z H h b y): ∃q,k q=some r/\Ow e x y=some q:=by
 unfold asK at c;split at c
 ·rw [adg d,adg l];rename_i i a j b;cases n:IntKind.same i j with
  |false=>simp_all
  |true=>rw [n]at c;exact⟨_,c,by simp only [Ow,n];rfl⟩
 ·rw [X0 d,X0 l];exact⟨_,c,rfl⟩
 ·rw [ajk d,ajk l];exact⟨_,c,rfl⟩
 ·cases c
theorem ahp: ∀ {l} {a b} {x y} {k:Bool->Option α} {r},No l a b k=some r->ay ρ Z H h a x->ay ρ Z H h b y-> ∃q,k q=some r/\og l x y=some q
 | [],[],[],[],[],k,r,c,_,_=>⟨true,c,rfl⟩
 |e::l,a::aCL,b::t,x::u,y::v,k,r,c,d,j=>by
  obtain⟨q,n,w⟩:=awm c d.1 j.1;obtain⟨p,z,D⟩:=ahp n d.2 j.2;simp only [og];grind
 | [],_::_,_,_,_,_,_,c,_,_=>by simp [No]at c
 | [],[],_::_,_,_,_,_,c,_,_=>by simp [No]at c
 |_::_,[],_,_,_,_,_,c,_,_=>by simp [No]at c
 |_::_,_::_,[],_,_,_,_,c,_,_=>by simp [No]at c
 | [],[],[],_::_,_,_,_,_,d,_=>by simp [ay]at d
 | [],[],[],[],_::_,_,_,_,_,j=>by simp [ay]at j
 |_::_,_::_,_::_,[],_,_,_,_,d,_=>by simp [ay]at d
 |_::_,_::_,_::_,_::_,[],_,_,_,_,j=>by simp [ay]at j
theorem azL {k:Bool->Option α} (j:eqL e a b k=some r) (c:aC ρ Z H h a x) (d:aC ρ Z H h b y): ∃q,k q=some r/\yD e x y=some q:=by
 unfold eqL at j;split at j
 ·rw [X0 c,X0 d];exact⟨_,j,rfl⟩
 ·simp only [aC]at c d;obtain⟨p,rfl,c⟩:=c;obtain⟨t,rfl,d⟩:=d;obtain⟨q,l,n⟩:=ahp j c d;exact⟨q,l,n⟩
 ·simp only [aC]at c d;subst c;subst d;exact⟨_,j,rfl⟩
 ·simp only [aC,eC,List.cons.injEq,and_true]at c d;subst c;subst d;exact⟨_,j,rfl⟩
 ·simp only [aC]at c d;subst c;subst d;exact⟨_,j,rfl⟩
 ·simp only [aC]at c d;subst c;obtain⟨_,_,rfl,_⟩:=d;exact⟨_,j,rfl⟩
 ·simp only [aC]at c d;subst d;obtain⟨_,_,rfl,_⟩:=c;exact⟨_,j,rfl⟩
 ·cases j
theorem awU {k:LV->Option α} {r} (d:auh c a b k=some r) (j:aC ρ Z H h a x) (l:aC ρ Z H h b y): ∃lv v,k lv=some r/\v=(match c with |true=>x |false=>y)/\aC ρ Z H h lv v:=by
 unfold auh at d;split at d
 ·obtain⟨e,n⟩:=FB d;grind
 ·grind
theorem axY: ∀ {l} {v} {a} {k:LV->Option α} {r},mmL p i a l k=some r->ay ρ Z H h l v-> ∃lv w,k lv=some r/\aeW p (.int i a) v=some w/\aC ρ Z H h lv w
 | [],[],a,k,r,c,_=>⟨_,_,c,rfl,of_int⟩
 |x::E,y::F,a,k,r,c,d=>by
  unfold mmL at c;split at c
  ·simp_all
  ·rename_i j b q n;cases n;rw [adg d.1];cases t:IntKind.same i j with
   |false=>simp_all
   |true=>
    rw [t]at c;obtain⟨lv,w,u,z,D⟩:=axY c d.2;exact⟨lv,w,u,by simp only [aeW];exact z,D⟩
  ·cases c
 | [],_::_,_,_,_,_,d=>by simp [ay]at d
 |_::_,[],_,_,_,_,d=>by simp [ay]at d
theorem ZX {l:List c} (a:dW l i=some x): ∃n:Nat,i=n/\l[n]? =some x/\n<l.length:=by
 simp only [dW]at a;cases b:dD 0 i with
 |false=>simp_all
 |true=>
  simp only [dD]at b;grind
theorem ay1 (l:List d) lo a {i j:Nat} (k:j<=l.length) (c:lo=none->i=0) (b:a=none->j=l.length):cut l lo a i j=(l.take j).drop i:=by
 cases lo with
 |none=>
  have:=c rfl;subst this;cases a with
  |none=>have:=b rfl;subst this;simp [cut]
  |some _=>simp [cut]
 |some _=>
  cases a with
  |none=>have:=b rfl;subst this;simp [cut]
  |some _=>simp [cut]
theorem awn (l:List UInt8) lo a (k:j<=l.length) (c:i<=j) (d:lo=none->i=0) (b:a=none->j=l.length):aqD l lo a i j=(l.drop i).take (j-i):=by
 cases lo with
 |none=>
  have:=d rfl;subst this;cases a with
  |none=>have:=b rfl;subst this;simp [aqD]
  |some _=>simp [aqD]
 |some _=>
  cases a with
  |none=>
   have:=b rfl;subst this;simp only [aqD,aAY];rw [List.take_of_length_le ab]
  |some _=>simp [aqD]
end
section
variable {Hb:AH} {A:Nat->Prop} {ρ:Nat->Option Nat} {Z:Nat->Prop} {H:AH} {h:List (Option LB)} {s:St} {f:AF} {fs:List AF} {α:Type}
theorem I9:bound none f d m=some d:=rfl
theorem T7 (a:bound (some x) f d m=some i) (c:i<=b):bound (some x) f n b=some i:=by
 simp only [bound]at a⊢;split at a
 ·rename_i j k;cases l:aAh j m with
  |false=>simp_all
  |true=>
   rw [l]at a;simp only [cond_true,azn]at a;subst a;rw [show aAh j b=true by simpa [Nat.ble_eq]using c];rfl
 ·cases a
theorem MZ.sub {l:List t} {b o cap ex i j cap' ex':Nat} {el:Bool×Option (Nat×Bool)} (n:Z b) (p:H.get b=some (.cells cells el.1 el.2)) (u:o+l.length*w<=cells.length)
  (v: ∀j x,l[j]? =some x->R x ((cells.drop (o+j*w)).take w)) (c:i<=j) (d:j<=l.length) (q:j-i<=cap') (r:ex'=0\/ex'=w):
  MZ Z H w R ((l.take j).drop i) (.slice (some (b,o+i*w)) (j-i) cap' ex'):=by
 have a:((l.take j).drop i).length=j-i:=by rw [aA0,List.length_take,Nat.min_eq_left d]
 refine .inr ⟨b,o+i*w,cap',ex',cells,el,by rw [a],by rw [a];exact q,r,n,p, ?_,λk x y=> ?_⟩
 ·rw [a,Nat.sub_mul];have z:=aAb w c;have D:=aAb w d;omega
 ·grind
theorem av3 (n:SR Hb A ρ Z H s f fs) {k:(t:Ty)->List t.Den->St->Option α} (d:anH s v k=some r) (j:aC ρ Z H s.h v a):
  ∃t l s' Z',k t l s'=some r/\(SR Hb A ρ Z' H s' f fs/\Dr Z s Z' s')/\MZ Z' H t.w (λx c=>eC Z' H t x c) l a:=by
 have z:=And.intro n (Dr.refl Z s);unfold anH at d;split at d
 ·simp only [aC]at j;obtain⟨v,e,j⟩:=j;grind
 ·obtain⟨v,e,j⟩:=DF j;grind
 ·rename_i id;split at d
  ·rename_i t l y;have p:=n.drop id;refine⟨t,l,_,_,d,⟨p,Dr.drop Z s id λb q=> .inl q⟩,ada n.rel y j ⟨λb q=> .inl q,λb u=> ?_⟩⟩;obtain⟨i,D,E,F⟩:=u;simp_all
  ·cases d
 ·cases d
theorem auu (Q:SR Hb A ρ Z H s f fs) {k:LV->Option α} {z:Nat} (hw:azm z t.w=true) (hr:MZ Z' H t.w (λx c=>eC Z' H t x c) l (f.ev x))
  (p:anB s.cur t l lo K mx k=some r): ∃lv v,k lv=some r/\aw (.slice z x lo K mx) f=some v/\ ∀h,aC ρ Z' H h lv v:=by
 have R:z=t.w:=azy hw;subst R;simp only [anB]at p;obtain⟨j,p,S,n,L⟩:=M7 Q (d:=l.length) (m:=l.length) (azv _) p;obtain⟨i,p,E,u,T⟩:=M7 Q (d:=0) (m:=j) (Nat.zero_le _) p;have q:=ay1 l lo K n T L;have U: ∀a,l.length<=a->bound K f l.length a=some j:=λa V=>by
  cases K with
  |none=>rw [L rfl];rfl
  |some y=>exact T7 S (aAm n V)
 cases mx with
 |none=>
  simp only at p;rcases hr with⟨rfl,G⟩ |⟨b,o,a,P,I,el,G,W,D,Y,h5,h6,h7⟩
  ·simp at n;subst n;simp at u;subst u;refine⟨_,.slice none 0 0 0,p, ?_,λh=> ?_⟩
   ·simp only [aw,G,nA];rw [show bound K f 0 0=some 0 from S];simp only [I9,E]
   ·rw [q];simp only [aC,eC];exact⟨_,rfl,.inl ⟨ab,rfl⟩⟩
  ·refine⟨_,.slice (some (b,o+i*t.w)) (j-i) (a-i) P,p, ?_,λh=> ?_⟩
   ·simp only [aw,G,nA,U a W,E,I9,afN,ba];rcases D with D |D<;>simp [D,az0]
   ·rw [q];simp only [aC,eC];exact⟨_,rfl,MZ.sub (cap:=a) (ex:=P) Y h5 h6 h7 u n aa D⟩
 |some m=>
  simp only at p;obtain⟨im,m',hm,p⟩:=Et p;have va:=vX Q hm;cases hs:Int.same m' j with
  |false=>rw [hs]at p;cases p
  |true=>
   rw [hs]at p;have:=Int.dG hs;subst this;cases K with
   |none=>simp at p
   |some hh=>
    simp only [cond_true]at p;have M: ∀a,l.length<=a->bound (some m) f a a=some j:=λa V=>by
     simp only [bound,va];rw [show aAh j a=true by simpa [Nat.ble_eq]using aAm n V];rfl
    have N:bound (some hh) f 0 j=some j:=T7 S (azv _);rcases hr with⟨rfl,G⟩ |⟨b,o,a,P,I,el,G,W,D,Y,h5,h6,h7⟩
    ·simp at n;subst n;simp at u;subst u;refine⟨_,.slice none 0 0 0,p, ?_,λh=> ?_⟩
     ·simp only [aw,G,nA,M 0 ab,N,E]
     ·rw [q];simp only [aC];exact .inl ⟨ab,trivial⟩
    ·refine⟨_,.slice (some (b,o+i*t.w)) (j-i) (j-i) 0,p, ?_,λh=> ?_⟩
     ·simp only [aw,G,nA,M a W,N,E,afN,ba];rcases D with D |D<;>simp [D,az0]
     ·rw [q];have O:((l.take j).drop i).length=j-i:=by rw [aA0,List.length_take,Nat.min_eq_left n]
      have:=MZ.sub (Z:=Z') (H:=H) (cap:=a) (ex:=P) (cap':=j-i) (ex':=0) Y h5 h6 h7 u n (azv _) (.inl rfl);simp only [aC];rcases this with⟨_,e⟩ |⟨b',o',vd,ve,F,vc,e,g2,g3,g4,g5,g6,g7⟩
      ·cases e
      ·simp only [AV.slice.injEq,azn,azB]at e;obtain⟨⟨rfl,rfl⟩,e1,rfl,rfl⟩:=e;refine .inr ⟨_,_,F,vc,by rw [O],g4,g5,g6,g7⟩
theorem awv (V:SR Hb A ρ Z H s f fs) {id} {k:LV->Option α} {c:Nat} (M:cd s.h id=some (.seq t l)) (hw:azm c t.w=true) (W:aC ρ Z H s.h (.part id u O) (f.ev x))
  (p:as5 s.cur id u O lo P Y k=some r): ∃lv v,k lv=some r/\aw (.slice c x lo P Y) f=some v/\aC ρ Z H s.h lv v:=by
 have Q:c=t.w:=azy hw;subst Q;simp only [aC]at W;obtain⟨t',N,K,h0,h2⟩:=W;have z:=K;rw [M]at z;simp only [vU,azn,azB]at z;obtain⟨rfl,rfl⟩:=z;obtain⟨p1,p2,p3⟩:=h0;obtain⟨a,rfl⟩: ∃a:Nat,u=a:=⟨u.toNat,aa⟩;obtain⟨n,rfl⟩: ∃a:Nat,O=a:=⟨O.toNat,aa⟩;simp only [aAY]at h2;simp only [as5]at p;obtain⟨j,p,hj,R,S⟩:=M7 V (d:=n) (m:=n) (azv _) p;obtain⟨i,p,D,va,vc⟩:=M7 V (d:=0) (m:=j) (Nat.zero_le _) p;have E: ∀F,n<=F->bound P f n F=some j:=λF hc=>by
  cases P with
  |none=>rw [S rfl];rfl
  |some y=>exact T7 hj (aAm R hc)
 cases Y with
 |some m=>cases p
 |none=>
  simp only at p;rcases h2 with⟨b,ex,L,I,q⟩ |⟨L,q,h5⟩
  ·refine⟨_,.slice (some (b,a*t.w+i*t.w)) (j-i) (l.length-a-i) ex,p, ?_, ?_⟩
   ·simp only [aw,I,nA,E (l.length-a) aa,D,I9,afN,ba];rcases q with q |q<;>simp [q,az0]
   ·simp only [aC];refine⟨t,l.length,K,⟨aa,aa,aa⟩,.inl ⟨b,ex,L, ?_,q⟩⟩;rw [show((a:Int)+(i:Int)).toNat=a+i by omega,show((j:Int)-(i:Int)).toNat=j-i by omega,aA2,Nat.sub_sub]
  ·have hn:n=0:=aa
   have ha:a=0:=aa
   subst hn;subst ha;have T:j=0:=aa
   subst T;have U:i=0:=aa
   subst U;rcases h5 with I |⟨b,o,G,el,I,g1,g2,g3⟩
   ·refine⟨_,.slice none 0 0 0,p, ?_, ?_⟩
    ·simp only [aw,I,nA,E 0 aa,D,I9]
    ·simp only [aC];exact⟨t,l.length,K,⟨aa,aa,aa⟩,.inr ⟨L,q,.inl trivial⟩⟩
   ·refine⟨_,.slice (some (b,o)) 0 0 0,p, ?_, ?_⟩
    ·simp only [aw,I,nA,E 0 aa,D,I9,afN,ba];simp [az0]
    ·simp only [aC];exact⟨t,l.length,K,⟨aa,aa,aa⟩,.inr ⟨L,q,.inr ⟨b,o,G,el,rfl,g1,g2,g3⟩⟩⟩
theorem aqh (z:SR Hb A ρ Z H s f fs) {k:LV->St->Option α} (D:MZ Z H t.w (λx c=>eC Z H t x c) l a)
  (p:((dW l i).bind λx=>k (.iX (aE t x) 0) s)=some r):
  ∃lv s' v Z',k lv s'=some r/\(match a,uK (.int ik i)with | .slice (some a) q _ _,some i=>cond (aAv i q) (some (AV.ptr (some (ba a (i*t.w))))) none |_,_=>none)=some v/\(SR Hb A ρ Z' H s' f fs/\Dr Z s Z' s')/\aC ρ Z' H s'.h lv v:=by
 have E:=And.intro z (Dr.refl Z s);rw [aAK]at p;obtain⟨x,F,p⟩:=p;obtain⟨n,rfl,y,j⟩:=ZX F;rcases D with⟨rfl,_⟩ |⟨b,o,G,O,d,I,K,P,Q,L,M,R,N⟩
 ·simp at y
 ·refine⟨_,s,.ptr (some (b,o+n*t.w)),Z,p, ?_,E, ?_⟩
  ·rw [K];simp only [px,ba];rw [show aAv n l.length=true by simpa [aAp]using j];rfl
  ·simp only [aC];have u:o+n*t.w+t.w<=d.length:=by
    have:=aAb t.w (show n+1<=l.length from j);rw [Nat.succ_mul]at this;omega
   refine⟨b,o+n*t.w,d,I,ab,L,M,by rw [lE];exact u, ?_⟩;rw [lE];exact kE t (N n x y)
def aAQ (Hb:AH) (A:Nat->Prop) (ρ:Nat->Option Nat) (Z:Nat->Prop) (H:AH) (s:St) (f:AF) (fs:List AF) (k:LV->St->Option α) (r:α) (b:Option AV):Prop:=
 ∃d a v c,k d a=some r/\b=some v/\(SR Hb A ρ c H a f fs/\Dr Z s c a)/\aC ρ c H a.h d v
theorem alO {k:LV->Option α} (l:ay ρ Z H h cs aCL): ∀n j,aps cs b u i j n k=some r->
  ∃(m:Nat) (lv:LV) (v:AV),i=m/\m<j+n/\k lv=some r/\Bn u b aCL (m*b)=some v/\aC ρ Z H h lv v
 |0,j,c=>by cases c
 |n+1,j,c=>by
  simp only [aps]at c;cases q:Int.same i (aAg j)with
  |true=>
   rw [q,cond_true]at c;have w:=Int.dG q;cases u with
   |true=>
    obtain⟨d,p⟩:=EI c;refine⟨j,_,.agg ((aCL.drop (j*b)).take b),w,aa,p, ?_, ?_⟩
    ·simp only [Bn,<-l.len,d];rfl
    ·simp only [aC];exact⟨_,rfl,ay.take b (ay.drop (j*b) l)⟩
   |false=>
    obtain⟨v,d,p⟩:=uR c;obtain⟨a,t,x⟩:=l.nth d;exact⟨j,v,a,w,aa,p,t,x⟩
  |false=>
   rw [q,cond_false]at c;obtain⟨m,lv,v,d,p,t⟩:=alO l n (j+1) c;exact⟨m,lv,v,d,aa,t⟩
theorem aqA (K:SR Hb A ρ Z H s f fs) {k:LV->St->Option α} (u:mU op s k=some r):aAQ Hb A ρ Z H s f fs k r (aw op f):=by
 have I:=And.intro K (Dr.refl Z s);cases op with
 |mv x=>exact⟨_,s,_,Z,u,rfl,I,gU K x⟩
 |pick c a b=>
  simp only [mU]at u;split at u
  ·rename_i c' hc;obtain⟨S,v,F,G,L⟩:=awU u (gU K a) (gU K b);refine⟨S,s,v,Z,F, ?_,I,L⟩;simp only [aw,ajA K hc,G];cases c'<;>rfl
  ·cases u
 |build z ps=>
  simp only [mU]at u;obtain⟨vr,vg,F,G,L,_⟩:=ain K (yZ z) u;exact⟨_,s,.agg vg,Z,F,by simp only [aw,G],I,by simp only [aC];exact⟨vg,rfl,L⟩⟩
 |bin op x y=>
  simp only [mU]at u;split at u
  ·rename_i i a j b E hy;cases hc:(IntKind.same i j&& !bz op)with
   |false=>rw [hc]at u;cases u
   |true=>
    rw [hc,cond_true]at u;simp only [azl,aAx]at hc;obtain⟨S,v,F,G,L⟩:=aqZ (ρ:=ρ) (Z:=Z) (H:=H) (h:=s.h) u;refine⟨S,s,v,Z,F, ?_,I,L⟩;simp only [aw,vX K E,vX K hy,hc.1,hc.2,cond_true,cond_false];exact G
  ·rename_i a b E hy;obtain⟨S,v,F,G,L⟩:=arM (ρ:=ρ) (Z:=Z) (H:=H) (h:=s.h) u;refine⟨S,s,v,Z,F, ?_,I,L⟩;simp only [aw,Um K E,Um K hy];exact G
  ·cases u
 |eqv vh e x y=>
  simp only [mU]at u;obtain⟨q,F,G⟩:=azL u (gU K x) (gU K y);exact⟨_,s,.bool (cond vh (!q) q),Z,F,by simp only [aw,G],I,of_bool⟩
 |un op x=>
  cases op<;>simp only [mU]at u;all_goals first
   |(cases u;done)
   |skip
  all_goals
   split at u
   ·rename_i E;first
     |exact⟨_,s,_,Z,u,by simp only [aw,ajA K E],I,of_bool⟩
     |exact⟨_,s,_,Z,u,by simp only [aw,vX K E],I,of_int⟩
   ·cases u
 |conv c x=>
  cases c<;>simp only [mU]at u;all_goals first
   |(cases u;done)
   |skip
  all_goals
   split at u
   ·rename_i E;first
     |exact⟨_,s,_,Z,u,by simp only [aw,vX K E],I,of_int⟩
     |exact⟨_,s,_,Z,u,by simp only [aw,Um K E],I,Vc⟩
   ·cases u
 |Kc g a b=>
  simp only [mU]at u;refine⟨_,s,_,Z,u,by simp only [aw,aiT];rfl,I, ?_⟩;simp only [aC];exact⟨_,_,rfl,adf K a,adf K b⟩
 |Aw x lo hi=>
  simp only [mU]at u;split at u
  ·rename_i a E;obtain⟨j,u,hj,vj,vk⟩:=M7 K (d:=a.length) (m:=a.length) (azv _) u;obtain⟨i,u,vl,vm,vn⟩:=M7 K (d:=0) (m:=j) (Nat.zero_le _) u;refine⟨_,s,_,Z,u,by simp only [aw,Um K E,hj,vl];rfl,I, ?_⟩;rw [awn a lo hi vj vm vn vk];exact Vc
  ·cases u
 |slice P x lo hi mx=>
  simp only [mU]at u;split at u
  ·rename_i id vd n0 E;have D:=gU K x;rw [E]at D;split at u
   ·rename_i t l vc;cases M:azm P t.w with
    |false=>rw [M]at u;cases u
    |true=>
     rw [M,cond_true]at u;obtain⟨S,v,F,G,L⟩:=awv K vc M D u;exact⟨S,s,v,Z,F,G,I,L⟩
   ·cases u
  ·obtain⟨t,l,s',Z',u,vo,D⟩:=av3 K u (gU K x);cases M:azm P t.w with
   |false=>rw [M]at u;cases u
   |true=>
    rw [M,cond_true]at u;obtain⟨S,v,F,G,L⟩:=auu K M D u;exact⟨S,s',v,Z',F,G,vo,L _⟩
 |fld va n ag x=>
  simp only [mU]at u;split at u
  ·rename_i cs E;have D:=gU K x;rw [E]at D;simp only [aC]at D;obtain⟨l',e,D⟩:=D;cases ag with
   |true=>
    obtain⟨F,G⟩:=EI u;refine⟨_,s,.agg ((l'.drop va).take n),Z,G, ?_,I, ?_⟩
    ·simp only [aw,e,Bn,<-D.len,F];rfl
    ·simp only [aC];exact⟨_,rfl,ay.take n (ay.drop va D)⟩
   |false=>
    obtain⟨v,F,G⟩:=uR u;obtain⟨a,L,h4⟩:=D.nth F;exact⟨v,s,a,Z,G,by simp only [aw,e,Bn];exact L,I,h4⟩
  ·cases u
 |qF va x=>
  simp only [mU]at u;have D:=gU K x;split at u
  ·rename_i id o E;rw [E]at D;simp only [aC]at D;obtain⟨m,b,F,G,L⟩:=D;refine⟨_,s,.ptr (some (b,o+va)),Z,u,by simp only [aw,L,ba],I, ?_⟩;simp only [aC];exact⟨m,b,F,G,rfl⟩
  ·rename_i id i o E;rw [E]at D;simp only [aC]at D;obtain⟨t,n,b,F,G,L,h4⟩:=D;refine⟨_,s,.ptr (some (b,i*t.w+(o+va))),Z,u,by simp only [aw,h4,ba,Nat.add_assoc],I, ?_⟩;simp only [aC];exact⟨t,n,b,F,G,L,rfl⟩
  ·rename_i cs o E;rw [E]at D;simp only [aC]at D;obtain⟨b,p,O,el,F,G⟩:=D;refine⟨_,s,.ptr (some (b,p+(o+va))),Z,u,by simp only [aw,F,ba,Nat.add_assoc],I, ?_⟩;simp only [aC];exact⟨b,p,O,el,rfl,G⟩
  ·cases u
 |AL P x i=>
  simp only [mU]at u;have vf:=Et u;clear u;obtain⟨ik,n,hi,u⟩:=vf;have T:=vX K hi;have D:=gU K x;split at u
  ·rename_i t l E;rw [E]at D;cases M:azm P t.w with
   |false=>rw [M]at u;cases u
   |true=>
    rw [M]at u;have:=azy M;subst this;simp only [aC]at D;obtain⟨v,e,D⟩:=D;cases e;obtain⟨S,s',v,Z',F,G,L,h4⟩:=aqh K D u (ik:=ik);exact⟨S,s',v,Z',F,by simp only [aw,T];exact G,L,h4⟩
  ·rename_i t l E;rw [E]at D;cases M:azm P t.w with
   |false=>rw [M]at u;cases u
   |true=>
    rw [M]at u;have:=azy M;subst this;obtain⟨v,e,D⟩:=DF D;cases e;obtain⟨S,s',v,Z',F,G,L,h4⟩:=aqh K D u (ik:=ik);exact⟨S,s',v,Z',F,by simp only [aw,T];exact G,L,h4⟩
  ·rename_i id E;rw [E]at D;split at u
   ·rename_i t l vc;cases M:azm P t.w with
    |false=>rw [M]at u;cases u
    |true=>
     rw [M]at u;have:=azy M;subst this;simp only [cond_true]at u;cases R:C4 n l.length with
     |false=>rw [R]at u;cases u
     |true=>
      rw [R]at u;simp only [C4,dD,bZ,azl,decide_eq_true_eq]at R;obtain⟨j,rfl⟩: ∃j:Nat,n=j:=⟨n.toNat,(Int.toNat_of_nonneg R.1).symm⟩;have ve:j<l.length:=aa
      simp only [aC]at D;obtain⟨t',m,F,G⟩:=D;have Q:=F;rw [vc]at Q;simp only [vU,azn,azB]at Q;obtain⟨rfl,rfl⟩:=Q;rcases G with⟨b,ex,U,W,V⟩ |⟨U,_⟩
      ·refine⟨_,s,.ptr (some (b,j*t.w)),Z,u, ?_,I, ?_⟩
       ·simp only [aw,T,W,px,ba,aAZ];rw [show aAv j l.length=true by simpa [aAp]using ve];rfl
       ·simp only [aC];exact⟨t,l.length,b,F,U,by simpa using ve,ab⟩
      ·omega
   ·cases u
  ·rename_i id vd n0 E;rw [E]at D;split at u
   ·rename_i t l vc;cases M:azm P t.w with
    |false=>rw [M]at u;cases u
    |true=>
     rw [M]at u;have:=azy M;subst this;simp only [cond_true]at u;cases R:(dD 0 n&&bZ n n0)with
     |false=>rw [R]at u;cases u
     |true=>
      rw [R]at u;simp only [dD,bZ,azl,decide_eq_true_eq]at R;simp only [aC]at D;obtain⟨t',N,F,h0,G⟩:=D;have Q:=F;rw [vc]at Q;simp only [vU,azn,azB]at Q;obtain⟨rfl,rfl⟩:=Q;obtain⟨p1,p2,p3⟩:=h0;obtain⟨j,rfl⟩: ∃j:Nat,n=j:=⟨n.toNat,(Int.toNat_of_nonneg R.1).symm⟩;obtain⟨a,rfl⟩: ∃a:Nat,vd=a:=⟨vd.toNat,aa⟩;obtain⟨m,rfl⟩: ∃a:Nat,n0=a:=⟨n0.toNat,aa⟩;have ve:j<m:=aa
      rcases G with⟨b,ex,U,W,V⟩ |⟨U,_⟩
      ·refine⟨_,s,.ptr (some (b,a*t.w+j*t.w)),Z,u, ?_,I, ?_⟩
       ·simp only [aw,T,W,px,ba,aAY];rw [show aAv j m=true by simpa [aAp]using ve];rfl
       ·simp only [aC];refine⟨t,l.length,b,F,U,aa, ?_⟩;rw [show((a:Int)+(j:Int)).toNat=a+j by omega,aA2,Nat.add_zero]
      ·omega
   ·cases u
  ·cases u
 |Nq x i=>
  simp only [mU]at u;obtain⟨ik,n,hi,u⟩:=Et u;have T:=vX K hi;split at u
  ·rename_i a E;simp only [aAK]at u;obtain⟨b,M,u⟩:=u;obtain⟨j,rfl,hj,_⟩:=ZX M;exact⟨_,s,.int .u8 (aAg b.toNat),Z,u,by simp only [aw,T,Um K E,px,hj],I,by unfold dB;exact of_int⟩
  ·cases u
 |Zc len P ag x i=>
  simp only [mU]at u;have vf:=Et u;clear u;obtain⟨ik,n,hi,u⟩:=vf;have T:=vX K hi;split at u
  ·rename_i cs E;have D:=gU K x;rw [E]at D;simp only [aC]at D;obtain⟨l',e,D⟩:=D;obtain⟨j,S,v,rfl,hj,F,G,L⟩:=alO D len 0 u;rw [aAZ]at hj;refine⟨S,s,v,Z,F, ?_,I,L⟩;simp only [aw,e,T,px];rw [show aAv j len=true by simpa [aAp]using hj];exact G
  ·cases u
 |ext x i=>
  simp only [mU]at u;split at u
  ·rename_i vs E;have D:=gU K x;rw [E]at D;simp only [aC]at D;obtain⟨l',e,D⟩:=D;obtain⟨v,F,G⟩:=uR u;obtain⟨a,L,h4⟩:=D.nth F;exact⟨v,s,a,Z,G,by simp only [aw,e];exact L,I,h4⟩
  ·cases u
 |GN x=>
  simp only [mU]at u;have D:=gU K x;split at u
  ·rename_i id o E;rw [E]at D;have Y:=D;simp only [aC]at D;obtain⟨m,b,F,G,L⟩:=D;exact⟨_,s,_,Z,u,by simp only [aw,L],I,L▸Y⟩
  ·rename_i id i o E;rw [E]at D;have Y:=D;simp only [aC]at D;obtain⟨t,n,b,F,G,L,h4⟩:=D;exact⟨_,s,_,Z,u,by simp only [aw,h4],I,h4▸Y⟩
  ·rename_i cs o E;rw [E]at D;have Y:=D;simp only [aC]at D;obtain⟨b,p,O,el,F,G⟩:=D;exact⟨_,s,_,Z,u,by simp only [aw,F],I,F▸Y⟩
  ·rename_i g a b E;rw [E]at D;have Y:=D;simp only [aC]at D;obtain⟨a',b',F,G⟩:=D;exact⟨_,s,_,Z,u,by simp only [aw,F],I,F▸Y⟩
  ·cases u
 |len c x=>
  cases c with
  |str=>
   simp only [mU]at u;split at u
   ·rename_i a E;exact⟨_,s,_,Z,u,by simp only [aw,Um K E],I,of_int⟩
   ·cases u
  |slice=>
   simp only [mU]at u;split at u
   ·cases u
   ·rename_i vp;have D:=gU K x;unfold azS at u;split at u
    ·rename_i a E;exact absurd E (vp a)
    ·rename_i t l E;rw [E]at D;simp only [aC]at D;obtain⟨v,e,D⟩:=D;cases e;rcases D with⟨rfl,e⟩ |⟨b,o,cap,ex,O,el,e,_⟩
     ·exact⟨_,s,_,Z,u,by simp only [aw,e];rfl,I,of_int⟩
     ·exact⟨_,s,_,Z,u,by simp only [aw,e],I,of_int⟩
    ·rename_i t l E;rw [E]at D;simp only [aC]at D;rcases D with⟨rfl,e⟩ |⟨b,o,O,el,e,_⟩
     ·exact⟨_,s,_,Z,u,by simp only [aw,e];rfl,I,of_int⟩
     ·exact⟨_,s,_,Z,u,by simp only [aw,e],I,of_int⟩
    ·rename_i E;rw [E]at D;simp only [aC]at D;exact⟨_,s,_,Z,u,by simp only [aw,D];rfl,I,of_int⟩
    ·rename_i id E;rw [E]at D;split at u
     ·rename_i t l M;simp only [aC]at D;obtain⟨t',n,F,G⟩:=D;rw [M]at F;simp only [vU,azn,azB]at F;obtain⟨rfl,rfl⟩:=F;rcases G with⟨b,ex,U,W,V⟩ |⟨U,W,V |⟨b,o,O,el,V,_⟩⟩
      ·exact⟨_,s,_,Z,u,by simp only [aw,W],I,of_int⟩
      ·exact⟨_,s,_,Z,u,by simp only [aw,V];rw [<-U],I,of_int⟩
      ·exact⟨_,s,_,Z,u,by simp only [aw,V];rw [<-U],I,of_int⟩
     ·cases u
    ·rename_i id vd n0 E;rw [E]at D;simp only [aC]at D;obtain⟨t,N,F,⟨p1,p2,p3⟩,G⟩:=D;obtain⟨m,rfl⟩: ∃a:Nat,n0=a:=⟨n0.toNat,aa⟩;rcases G with⟨b,ex,U,W,V⟩ |⟨U,W,V |⟨b,o,O,el,V,_⟩⟩
     ·exact⟨_,s,_,Z,u,by simp only [aw,W,aAY];rfl,I,of_int⟩
     ·have:m=0:=aa
      subst this;exact⟨_,s,_,Z,u,by simp only [aw,V];rfl,I,of_int⟩
     ·have:m=0:=aa
      subst this;exact⟨_,s,_,Z,u,by simp only [aw,V];rfl,I,of_int⟩
    ·rename_i id E;rw [E]at D;split at u
     ·rename_i e l M;simp only [aC]at D;obtain⟨e',n,F,G⟩:=D;rw [M]at F;simp only [vU,azn,azB]at F;obtain⟨_,rfl⟩:=F;rcases G with⟨b,ex,U,W,V⟩ |⟨U,W,V⟩
      ·exact⟨_,s,_,Z,u,by simp only [aw,W],I,of_int⟩
      ·exact⟨_,s,_,Z,u,by simp only [aw,V];rw [<-U],I,of_int⟩
     ·cases u
    ·cases u
  |map=>simp [mU]at u
  |cap=>simp [mU]at u
  |arr n=>exact⟨_,s,.int .i64 (aAg n),Z,u,rfl,I,of_int⟩
 |LG x=>
  simp only [mU]at u;have D:=gU K x;split at u
  ·rename_i id E;rw [E]at D;split at u
   ·rename_i e l M;cases hp:aAv 0 l.length with
    |false=>rw [hp]at u;cases u
    |true=>
     rw [hp]at u;simp only [aAp]at hp;simp only [aC]at D;obtain⟨e',n,F,G⟩:=D;have Q:=F;rw [M]at Q;simp only [vU,azn,azB]at Q;obtain⟨_,rfl⟩:=Q;rcases G with⟨b,ex,U,W,V⟩ |⟨U,W,V⟩
     ·refine⟨_,s,.ptr (some (b,0)),Z,u, ?_,I, ?_⟩
      ·simp only [aw,W];rw [show aAv 0 l.length=true by simpa [aAp]using hp];rfl
      ·simp only [aC];exact⟨_,l.length,b,F,U,hp,ab⟩
     ·omega
   ·cases u
  ·cases u
 |CR mx xs=>
  simp only [mU]at u;have D:=adf K xs;split at u
  ·rename_i i a vq he;rw [he]at D;cases xs with
   |nil=>simp [agq]at he
   |cons x xs=>
    simp only [nk,ay]at D;obtain⟨S,w,F,G,L⟩:=axY u D.2;refine⟨S,s,w,Z,F, ?_,I,L⟩;simp only [aw,aiT,adg D.1];exact G
  ·cases u
 |_=>simp [mU]at u
end
end Ls
namespace dC
open Go
def rK (h:f.length=w): ∀n,(rep f n).length=n*w
 |0=>by simp [rep]
 |n+1=>by rw [rep,aAf,rK h n,h,Nat.succ_mul];omega
def acB f b: ∀a,rep f (a+b)=rep f a++rep f b
 |0=>by simp [rep]
 |a+1=>by rw [show a+1+b=(a+b)+1 by omega,rep,rep,acB f b a,List.append_assoc]
def au6 (h:f.length=w) (hm:m<=n):(rep f n).take (m*w)=rep f m:=by
 obtain⟨d,rfl⟩:=Nat.exists_eq_add_of_le hm;rw [acB,<-rK h m,List.take_left]
def aj9 (h:f.length=w) (hm:m<=n):(rep f n).drop (m*w)=rep f (n-m):=by
 obtain⟨d,rfl⟩:=Nat.exists_eq_add_of_le hm;rw [acB,<-rK h m,List.drop_left,show m+d-m=d by omega]
def VW: ∀ {a b},aB a=true->aB b=true->aB (a++b)=true
 | [],b,_,h=>h
 |x::a,b,h,h'=>by
  cases x<;>first |(simp [aB]at h;done) |exact VW (a:=a) h h'
def aoP (h:aB f=true): ∀n,aB (rep f n)=true
 |0=>rfl
 |n+1=>VW h (aoP h n)
def amV (hf:f.length=w) (hz:z.length=w) (hg:H.get b=some (.cells (rep f n++rep z k) false el)) (hm:m<=n):eu H w (.slice (some (b,0)) n cap 0) m=some (rep f m):=by
 simp only [eu];refine alw hg ?_ ?_
 ·rw [aAf,rK hf,rK hz];have:=aAb w hm;omega
 ·rw [List.drop_zero,aAT (by rw [rK hf];exact aAb w hm),au6 hf hm]
def agY (hf:f.length=w) (hz:z.length=w) (h1:aB f=true) (hg:H.get b=some (.cells (rep f n++rep z k) false el)) (hm:m<=k):
  bd H (b,n*w) (rep f m)=some (H.set b (some (.cells (rep f (n+m)++rep z (k-m)) false el))):=by
 have hlen:n*w+(rep f m).length<=(rep f n++rep z k).length:=by
  rw [aAf,rK hf,rK hf,rK hz];have:=aAb w hm;omega
 simp only [bd,hg];rw [bh,decide_eq_true hlen,aoP h1,Bool.and_self,cond_true,kx _ _ _ hlen];congr 3;rw [aAT (by rw [rK hf];omega),List.take_of_length_le (by rw [rK hf];omega),acB,List.append_assoc];congr 2;rw [rK hf,<-aA2,List.drop_append,rK hf,List.drop_of_length_le (by rw [rK hf];exact aAb w aa),List.nil_append,show(n+m)*w-n*w=m*w by rw [aA2];omega,aj9 hz hm]
end dC
end Go.Proofs.YtccmgnimoheekaaGreatDoor
