/-
  Part 3 of the proof, joined and thinned by a program.
-/
import Derived.Test.YtccmgnimoheekaaGreatDoorPk2
set_option autoImplicit true
set_option relaxedAutoImplicit true
set_option linter.all false
set_option linter.unusedVariables false
set_option linter.unusedSimpArgs false
set_option linter.unusedSectionVars false
open Bool renaming and_eq_true -> aA5, cond_self -> aBf, and_self -> aBV, not_eq_true' -> aCb, or_eq_false_iff -> aCi, not_false -> aCt
open List renaming nil_append -> aA6, cons_append -> aA7, append_nil -> aBb, eq_nil_of_length_eq_zero -> aBd, all_eq_true -> aBj, length_cons -> aBn, length_nil -> aBJ, length_take -> aBL, length_drop -> aBN, dropWhile_cons -> aBR, length_append -> aBW, reverse_cons -> aBX, take_take -> aBY, mem_append -> aBZ, drop_drop -> aB0, map_cons -> aB7, drop_take -> aB8, length_eq_zero_iff -> aCa, replicate -> aCf, eq_nil_or_concat -> aCg, concat_eq_append -> aCh, take_length -> aCk, reverse_nil -> aCr, reverse_append -> aCs, singleton_append -> aCu
open Nat renaming eq_of_beq_eq_true -> aA8, beq -> aBc, le_refl -> aBg, zero_add -> aBh, mul_le_mul_right -> aBi, min_eq_left -> aBu, ble -> aBD, ble_eq -> aBF, beq_eq -> aBK, blt -> aBS, lt_irrefl -> aBT, lt_of_lt_of_le -> aB4, sub_self -> aCc, add_zero -> aCd, blt_eq -> aCl, succ_mul -> aCm, le_trans -> aCo, ne_of_lt -> aCp
open Option.some renaming injEq -> aBe
open Prod.mk renaming injEq -> aBk
open Int renaming ofNat -> aBy, ofNat_eq_natCast -> aBz, mul_le_mul_of_nonneg_left -> aB1, toNat_of_nonneg -> aCj, toNat_natCast -> aCn, pow_succ -> aCv
open Option renaming bind_eq_some_iff -> aB9, bind_some -> aCq
namespace Go.Proofs.YtccmgnimoheekaaGreatDoor
namespace Ls
open dC
open Go
section
variable {Hb:AH} {A:Nat->Prop} {ρ:Nat->Option Nat} {Z:Nat->Prop} {H:AH} {h:List (Option LB)} {s:St} {f:AF} {fs:List AF} {α:Type}
theorem oq (a:SR Hb A ρ Z H s f fs) {id} (c:cd s.h id=some (.cells cs)): ∃b aCL el,ρ id=some b/\H.get b=some (.cells aCL false el)/\ay ρ Z H s.h cs aCL:=by
 obtain⟨b,aCL,el,d,j,k⟩:=a.rel.own id _ c;exact⟨b,aCL,el,d,j,k.1⟩
theorem KJ (a:SR Hb A ρ Z H s f fs) {id} (c:cd s.h id=some (.cells cs)): ∃b aCL el,ρ id=some b/\H.get b=some (.cells aCL false el)/\ay ρ Z H s.h cs aCL/\(oE cs=true->el=some (af2,true)):=a.rel.own id _ c
theorem Bh {aCL:List AV} (c:j<n) (b:((aCL.drop o).take n)[j]? =some a):aCL[o+j]? =some a:=by
 rw [List.getElem?_take,if_pos c,List.getElem?_drop]at b;exact b
theorem WK: ∀ {l} {i} {x},Q3 l i=some x->i<l.length
 | [],i,x,h=>by simp [Q3]at h
 |v::vs,0,x,h=>ab
 |v::vs,i+1,x,h=>by have:=WK (l:=vs) (i:=i) (by simpa [Q3]using h);simp;omega
theorem XO: ∀ {l:List Int} {cs},cG Z H (.int .u8) l cs->um l=true->bytesOf cs=some (ofBytes l)
 | [],cs,a,_=>by have:=a.1;simp at this;subst this;rfl
 |n::l,[],a,_=>by have:=a.1;simp [Ty.w]at this
 |n::l,c::cs,a,b=>by
  simp only [um,List.all_cons,aA5,dD,decide_eq_true_eq]at b;have k:=a.2 0 n rfl;simp [Ty.w,eC]at k;subst k;obtain⟨m,p⟩: ∃m:Nat,n=m:=⟨n.toNat,(aCj b.1).symm⟩;subst p;have d:cG Z H (.int .u8) l cs:=by
   refine⟨by have:=a.1;simp [Ty.w]at this⊢;omega,λj x q=> ?_⟩;have:=a.2 (j+1) x (by simpa using q);simpa [Ty.w]using this
  have r:=XO d (by simp only [um];exact b.2);show(match bytesOf cs with |some l=>some (UInt8.ofNat m::l) |none=>none)=_;rw [r];simp [ofBytes]
def ZD (d:DS) (ρ:Nat->Option Nat) (Z0:Nat->Prop) (h:List (Option LB)) (H a:AH):Prop:=
 (∀b,Z0 b->a.get b=H.get b)/\ ∀id b,id<d.nx-> ¬id∈d.wr->cd h id≠none->ρ id=some b->a.get b=H.get b
theorem tx: ∀ {l},Ps i l=true↔i∈l
 | []=>by simp [Ps]
 |j::c=>by
  simp only [Ps,List.mem_cons];cases b:aBc i j with
  |true=>have:=aA8 b;simp [this]
  |false=>
   have a: ¬i=j:=λe=>by subst e;simp [aBK]at b
   simp [tx,a]
theorem adQ (u:aC ρ Z H h z w) {k:LV->Option α} : ∀ {y} {vs} {p},p.map (·.1)=y.map (.int .u8)->ay ρ Z H h vs (p.map (·.2))->acS l z n y vs k=some r->
  ∃lv v,k lv=some r/\(match findKey (.int .u8 n) p with |some (some v)=>some (cond l (.tuple [v,.bool true]) v) |some none=>some (cond l (.tuple [w,.bool false]) w) |none=>none)=some v/\aC ρ Z H h lv v/\ ∀Z0,aC ρ Z0 H h (strip z) w->ay ρ Z0 H h (fk vs) (p.map (·.2))->aC ρ Z0 H h (strip lv) v
 | [],[],[],_,_,c=>by
  simp only [acS]at c;refine⟨_,_,c,rfl, ?_,λZ0 q j=> ?_⟩
  ·cases l
   ·exact u
   ·simp only [cond_true,aC,ay];exact⟨_,rfl,u,rfl,trivial⟩
  ·cases l
   ·exact q
   ·simp only [cond_true,strip,fk,aC,ay];exact⟨_,rfl,q,rfl,trivial⟩
 |m::K,v::vs,(a,b)::p,d,t,c=>by
  simp only [aB7,List.cons.injEq]at d;obtain⟨d,x⟩:=d;simp only [aB7,ay]at t;subst d;simp only [acS]at c;simp only [findKey,LU,show IntKind.same .u8 .u8=true from rfl,cond_true];cases D:Int.same n m with
  |true=>
   rw [D,cond_true]at c;refine⟨_,_,c,rfl, ?_,λZ0 q j=> ?_⟩
   ·cases l
    ·exact t.1
    ·simp only [cond_true,aC,ay];exact⟨_,rfl,t.1,rfl,trivial⟩
   ·simp only [fk,aB7,ay]at j;cases l
    ·exact j.1
    ·simp only [cond_true,strip,fk,aC,ay];exact⟨_,rfl,j.1,rfl,trivial⟩
  |false=>
   rw [D,cond_false]at c;obtain⟨lv,v,E,F,G,I⟩:=adQ u x t.2 c;refine⟨lv,v,E,F,G,λZ0 q j=> ?_⟩;simp only [fk,aB7,ay]at j;exact I Z0 q j.2
 | [],[],_::_,d,_,_=>by simp at d
 | [],_::_,_,_,_,c=>by simp [acS]at c
 |_::_,[],_,_,_,c=>by simp [acS]at c
 |_::_,_::_,[],d,_,_=>by simp at d
theorem ajd (c:SR Hb A ρ Z H s f fs) {id} (d:cd s.h id=some (.qW j vs)): ∃b a,ρ id=some b/\H.get b=some (.map a)/\a.map (·.1)=j.map (.int .u8)/\ay ρ Z H s.h vs (a.map (·.2)):=c.rel.own id _ d
theorem aw5 (M:SR Hb A ρ Z H s f fs) {k:LV->Option α} (d:EU op s k=some r):
  ∃lv v,k lv=some r/\aR op f H=some v/\aC ρ Z H s.h lv v:=by
 cases op with
 |ng a=>
  simp only [EU]at d;have u:=gU M a;split at d
  ·rename_i id o G;rw [G]at u;split at d
   ·rename_i L I;obtain⟨b,aCL,U,Q,W,V⟩:=oq M I;simp only [aC]at u;obtain⟨m,b',E,D,K⟩:=u;rw [Q]at D;cases D;obtain⟨v,F,N⟩:=uR d;obtain⟨Y,h6,h7⟩:=V.nth F;exact⟨v,Y,N,by simp only [aR,K,W];exact h6,h7⟩
   ·cases d
  ·rename_i id i o G;rw [G]at u;split at d
   ·rename_i t l I;simp only [aB9]at d;obtain⟨x,T,d⟩:=d;obtain⟨v,F,N⟩:=uR d;simp only [aC]at u;obtain⟨t',n,b,E,D,K,R⟩:=u;rw [I]at E;simp only [vU,aBe,aBk]at E;obtain⟨rfl,rfl⟩:=E;rcases M.rel.own id _ I with⟨b',L,U,P,O,q3⟩ |⟨P,O⟩
    ·rw [D]at P;cases P;have S:=q3.2 i x T;obtain⟨Y,h6,h7⟩:=(kE (ρ:=ρ) (h:=s.h) t S).nth F;have va:=WK F;rw [lE]at va;exact⟨v,Y,N,by simp only [aR,R,O];exact Bh va h6,h7⟩
    ·rw [D]at O;cases O
   ·cases d
  ·rename_i L o G;rw [G]at u;simp only [aC]at u;obtain⟨b,p,q,U,E,D,K,R,g5⟩:=u;obtain⟨v,F,N⟩:=uR d;obtain⟨Y,h6,h7⟩:=g5.nth F;exact⟨v,Y,N,by simp only [aR,E,K];exact Bh (WK F) h6,h7⟩
  ·cases d
 |yS n a=>
  simp only [EU]at d;have u:=gU M a;split at d
  ·rename_i id o G;rw [G]at u;split at d
   ·rename_i L I;obtain⟨b,aCL,U,Q,W,V⟩:=oq M I;simp only [aC]at u;obtain⟨m,b',E,D,K⟩:=u;rw [Q]at D;cases D;obtain⟨F,N⟩:=EI d;refine⟨_,.agg ((aCL.drop o).take n),N, ?_, ?_⟩
    ·simp only [aR,K,db,W,<-V.len,F];rfl
    ·simp only [aC];exact⟨_,rfl,ay.take n (ay.drop o V)⟩
   ·cases d
  ·rename_i id i o G;rw [G]at u;split at d
   ·rename_i t l I;simp only [aB9]at d;obtain⟨x,T,d⟩:=d;obtain⟨F,N⟩:=EI d;rw [lE]at F;have vc:o+n<=t.w:=by simpa [aBF]using F
    simp only [aC]at u;obtain⟨t',m,b,E,D,K,R⟩:=u;rw [I]at E;simp only [vU,aBe,aBk]at E;obtain⟨rfl,rfl⟩:=E;rcases M.rel.own id _ I with⟨b',L,U,P,O,q3⟩ |⟨P,O⟩
    ·rw [D]at P;cases P;have S:=q3.2 i x T;have ve:i*t.w+t.w<=L.length:=by
      rw [q3.1];have:=aBi t.w (show i+1<=l.length from K);rw [aCm]at this;exact this
     refine⟨_,.agg ((L.drop (i*t.w+o)).take n),N, ?_, ?_⟩
     ·simp only [aR,R,db,O];rw [show aBD (i*t.w+o+n) L.length=true by simp [aBF];omega];rfl
     ·simp only [aC];refine⟨_,rfl, ?_⟩;have e:(L.drop (i*t.w+o)).take n=((((L.drop (i*t.w)).take t.w)).drop o).take n:=by
       rw [aB8,aBY,aB0,aBu aa]
      rw [e];exact ay.take n (ay.drop o (kE t S))
    ·rw [D]at O;cases O
   ·cases d
  ·rename_i L o G;rw [G]at u;simp only [aC]at u;obtain⟨b,p,q,U,E,D,K,R,g5⟩:=u;obtain⟨F,N⟩:=EI d;have vc:o+n<=L.length:=by simpa [aBF]using F
   refine⟨_,.agg ((q.drop (p+o)).take n),N, ?_, ?_⟩
   ·simp only [aR,E,db,K];rw [show aBD (p+o+n) q.length=true by simp [aBF];omega];rfl
   ·simp only [aC];refine⟨_,rfl, ?_⟩;have e:(q.drop (p+o)).take n=(((q.drop p).take L.length).drop o).take n:=by
     rw [aB8,aBY,aB0,aBu aa]
    rw [e];exact ay.take n (ay.drop o g5)
  ·cases d
 |conv c x=>
  cases c with
  |bytes=>
   simp only [EU]at d;have u:=gU M x;obtain⟨l,Q,W⟩:=EZ M.rel d u;cases ha:um l with
   |false=>rw [ha]at Q;cases Q
   |true=>
    rw [ha]at Q;obtain⟨v,e,V⟩:=W (λ_=>True) ⟨λ_ _=>trivial,λ_ _=>trivial⟩;cases e;refine⟨_,.str (ofBytes l),Q, ?_,Vc⟩;rcases V with⟨rfl,e⟩ |⟨b,o,vf,ex,q,U,e,D,K,R,g5,g6,g7⟩
    ·simp only [aR,e];rfl
    ·have hs:cG (λ_=>True) H (.int .u8) l ((q.drop o).take l.length):=by
      simp only [Ty.w]at g6 g7;refine⟨by rw [aBL,aBN];simp [Ty.w];omega,λj y hy=> ?_⟩;have:=g7 j y hy;have hj:j<l.length:=(List.getElem?_eq_some_iff.1 hy).1;simp only [Ty.w]at this⊢;rw [aB8,aBY,aB0,aBu aa];simpa using this
     have I:=XO hs ha;simp only [aR,e,db,g5];simp only [Ty.w]at g6;rw [show aBD (o+l.length) q.length=true by simp [aBF];omega];simp only [cond_true,I]
  |_=>simp [EU]at d
 |look z ok ks m x=>
  simp only [EU]at d;have u:=gU M m;split at d
  ·rename_i id i n he G;rw [he]at u;split at d
   ·rename_i kl vs I;cases S:(!ks&&IntKind.same i .u8)with
    |false=>rw [S]at d;cases d
    |true=>
     rw [S,cond_true]at d;simp only [aA5,aCb]at S;obtain⟨rfl,hi⟩:=S;have hi:=IntKind.dG hi;subst hi;have vd:=vX M G;obtain⟨b,es,E,D,K,R⟩:=ajd M I;simp only [aC]at u;obtain⟨_,b',_,P,O⟩:=u;rw [E]at P;cases P;obtain⟨lv,v,p1,p2,p3,_⟩:=adQ (Nt z) K R d;refine⟨lv,v,p1, ?_,p3⟩;simp only [aR,O,D,vd,C7,cond_true];exact p2
   ·cases d
  ·cases d
 |_=>simp [EU]at d
theorem aoV (sr:SR Hb A ρ Z H s f fs) (E:AY d s op=true) (V: ∀x∈sV op,aC ρ Z0 H s.h (strip (dN s.cur.r x)) (f.get x)) (j:ZD d ρ Z0 s.h H R):aR op f R=aR op f H:=by
 have S: ∀x:AX,(∀i∈yK x,aC ρ Z0 H s.h (strip (dN s.cur.r i)) (f.get i))->aC ρ Z0 H s.h (strip (oS s.cur x)) (f.ev x):=λx W=>by
  cases x with
  |t i=>exact W i (by simp [yK])
  |c v=>exact(Nt v).st
 have F: ∀id b,(aBS id d.nx&& !Ps id d.wr)=true->cd s.h id≠none->ρ id=some b->R.get b=H.get b:=λid b K hn hb=>by
  simp only [aA5,aCb,aCl]at K;exact j.2 id b K.1 (λhm=>by rw [tx.2 hm]at K;cases K.2) hn hb
 have M: ∀a,(match oS s.cur a with | .iX _ _=>true | .ptr id _ | .xO id _ _=>aBS id d.nx&& !Ps id d.wr |_=>false)=true->(∀i∈yK a,aC ρ Z0 H s.h (strip (dN s.cur.r i)) (f.get i))->
   ∃p,f.ev a= .ptr (some p)/\R.get p.1=H.get p.1:=λa K W=>by
  have q:=S a W;have u:=gU sr a;split at K
  ·rename_i cs o D;rw [D]at q;simp only [strip,aC]at q;obtain⟨b,p,G,el,I,L,_⟩:=q;exact⟨_,I,j.1 b L⟩
  ·rename_i id o D;rw [D]at u;simp only [aC]at u;obtain⟨m,b,I,L,P⟩:=u;exact⟨_,P,F id b K (λe=>by rw [e]at I;simp [vU]at I) L⟩
  ·rename_i id i o D;rw [D]at u;simp only [aC]at u;obtain⟨t,m,b,I,L,P,T⟩:=u;exact⟨_,T,F id b K (λe=>by rw [e]at I;simp [vU]at I) L⟩
  ·cases K
 cases op with
 |ng a=>
  obtain⟨p,Y,h2⟩:=M a E (by simpa [sV]using V);simp only [aR,Y,h2]
 |yS n a=>
  obtain⟨p,Y,h2⟩:=M a E (by simpa [sV]using V);simp only [aR,Y,db,h2]
 |look z ok ks m x=>
  simp only [AY]at E;have q:=gU sr m;split at E
  ·rename_i id D;rw [D]at q;simp only [aC]at q;obtain⟨_,b,I,L,P⟩:=q;have hh:=F id b E (λe=>by rw [e]at I;simp [vU]at I) L;simp only [aR,P,hh]
  ·cases E
 |conv c x=>
  cases c with
  |bytes=>
   simp only [AY]at E;have q:=S x (by simpa [sV]using V);have N: ∀(a:AV),(∃t,∃l:List (Ty.Den t),MZ Z0 H t.w (λx c=>eC Z0 H t x c) l a)->f.ev x=a->aR (.conv .bytes x) f R=aR (.conv .bytes x) f H:=λa ⟨t,l,U⟩ e=>by
    rcases U with⟨rfl,O⟩ |⟨b,o,va,ex,G,el,O,L,P,T,g5,g6,g7⟩
    ·simp only [aR,e,O]
    ·simp only [aR,e,O,db,j.1 b T]
   split at E
   ·rename_i t y D;rw [D]at q;simp only [strip,aC]at q;have hp: ∀(t:Ty) (x:t.Den) (b:Nat×Nat) (n c e:Nat),eC Z0 H t x [.slice (some b) n c e]->R.get b.1=H.get b.1:=by
     intro t;induction t with
     |int k=>intro x b n c e h;simp [eC]at h
     |bool=>intro x b n c e h;simp [eC]at h
     |str=>intro x b n c e h;simp [eC]at h
     |unit=>intro x b n c e h;simp [eC]at h
     |CH=>intro x b n c e h;simp [eC]at h
     |bld e0=>intro x b n c e h;simp [eC]at h
     |ref t _=>intro x b n c e h;obtain⟨_,_,_,_,h,_⟩:=h;simp at h
     |list t _=>
      intro x b n c e h;obtain⟨v,Q,U⟩:=h;cases Q;rcases U with⟨_,O⟩ |⟨b',o,va,ex,G,el,O,L,P,T,_⟩
      ·cases O
      ·cases O;exact j.1 _ T
     |pair a b vc vd=>
      intro x p n c e h;obtain⟨c1,c2,Q,e2,e3⟩:=h;cases c1 with
      |nil=>simp at Q;subst Q;exact vd _ _ _ _ _ e3
      |cons y ys=>
       simp at Q;obtain⟨rfl,e4,e5⟩:=Q;subst e4;exact vc _ _ _ _ _ e2
    simp only [aR];split
    ·rfl
    ·rename_i p n c e ve;rw [ve]at q;simp only [db,hp _ _ _ _ _ _ q]
    ·rfl
   ·rename_i t l D;rw [D]at q;simp only [strip]at q;obtain⟨v,e,U⟩:=DF q;cases e;exact N _ ⟨_,_,U⟩ rfl
   ·rename_i D;rw [D]at q;simp only [strip,aC]at q;simp only [aR,q]
   ·cases E
  |_=>simp [AY]at E
 |_=>simp [AY]at E
end
section
variable {Hb:AH} {A:Nat->Prop} {ρ:Nat->Option Nat} {Z:Nat->Prop} {H:AH} {h:List (Option LB)} {s:St} {f:AF} {fs:List AF} {α:Type}
def EOk (c:Bool) (wr:List Nat) (Hb:AH) (A:Nat->Prop) (ρ:Nat->Option Nat) (Z:Nat->Prop) (H:AH) (s:St) (f:AF) (fs:List AF) (k:LV->St->Option α) (r:α) (j:Option (AV×AH)):Prop:=
 ∃n b v d a l,k n b=some r/\j=some (v,d)/\(SR Hb A a l d b f fs/\Tr c wr ρ Z H s a l d b)/\aC a l d b.h n v
theorem Tr.trans (a:Tr c wr ρ Z H s ρ' Z' H' s') (b:Tr c wr ρ' Z' H' s' d j k s'') (r:s.nx<=s'.nx):Tr c wr ρ Z H s d j k s'':=by
 refine⟨λx h=> ?_,aCo a.next b.next,a.cur.trans b.cur,F9.trans a.mR b.mR,λid n p q=> ?_, ?_⟩
 ·obtain⟨l,t⟩:=a.z x h;obtain⟨u,v⟩:=b.z x l;simp_all
 ·obtain⟨l,t,u⟩:=b.un id (aB4 n r) p q;obtain⟨w,y,D⟩:=a.un id n p (ac4 q l);simp_all
 ·rcases b.nx with h |h
  ·omega
  ·grind
theorem Yz: ∀z,cP (yy z)=[]
 | []=>rfl
 |v::vs=>by
  have k:=Yz vs;have d: ∀b,(cP [b]=[])->cP (b::yy vs)=[]:=λb j=>by
   cases b with
   |own id=>simp [cP]at j
   |part id l n=>simp [cP]at j
   |_=>simpa [cP]using k
  refine d _ ?_;cases v with
  |slice a n c e=>
   cases a with
   |some a=>rfl
   |none=>
    cases n with
    |succ n=>rfl
    |zero=>cases c with
     |succ c=>rfl
     |zero=>cases e<;>simp [Jq,cP]
  |_=>rfl
theorem cG.rep (a:eC Z H t x z): ∀n,cG Z H t (aCf n x) (rep z n)
 |0=>by simpa [dC.rep]using(cG.nil (Z:=Z) (H:=H) (t:=t))
 |n+1=>by rw [List.replicate_succ,dC.rep];exact cG.cons a (cG.rep a n)
theorem apo (b:Rel Hb A ρ Z H h): ∀n {cs} {k:List t.Den->Option α} {r} {aCL},QD h t n cs k=some r->ay ρ Z H h cs aCL->
  ∃l,k l=some r/\l.length=n/\ ∀Z',Up2 ρ Z h (cP cs) Z'->cG Z' H t l aCL
 |0,[],k,r,[],a,_=>⟨[],a,rfl,λZ' _=> .nil⟩
 |0,[],k,r,_::_,a,c=>by simp [ay]at c
 |0,_::_,k,r,_,a,_=>by simp [QD]at a
 |n+1,cs,k,r,aCL,a,c=>by
  simp only [QD]at a;cases j:J5 t with
  |false=>simp_all
  |true=>
  rw [j,cond_true]at a;obtain⟨x,E,p,F,G,u,rfl,rfl,v,w⟩:=X4 b t a c;obtain⟨l,y,z,D⟩:=apo b n u v;exact⟨x::l,y,by simp [z],λZ' q=>cG.cons (w Z' (q.of λi d=>by rw [AA];simp [d]) (λe=>by rw [j]at e;cases e)) (D Z' (q.of λi d=>by rw [AA];simp [d]))⟩
theorem Lu (j:SR Hb A ρ Z H s f fs) B ob:Tr c [] ρ Z H s (Mj ρ s.nx (some H.next)) Z (H.new ob) (s.new B):=by
 refine⟨λb k=>⟨k,AH.eg _ (aCp (j.rel.G9 b k))⟩,ab,PF.refl _,F9.refl _,λid l _ n=> ?_,.inl (by show s.h.length<=(s.h++ [some B]).length;simp)⟩;have a:cd (s.h++ [some B]) id=cd s.h id:=by rw [km,if_pos (show id<s.h.length from l)]
 have d:cd s.h id≠none:=by rw [<-a];exact n
 exact⟨by show GD (cd (s.h++ [some B]) id)=_;rw [a],if_neg (aCp l),λb a=>AH.eg _ (aCp (j.rel.hi id b d a).2.1)⟩
theorem ZS (k:SR Hb A ρ Z H s f fs) B:Tr c [] ρ Z H s (Mj ρ s.nx none) Z H (s.new B):=by
 refine⟨λb j=>⟨j,rfl⟩,aBg _,PF.refl _,F9.refl _,λid a _ l=> ?_,.inl (by show s.h.length<=(s.h++ [some B]).length;simp)⟩;have d:cd (s.h++ [some B]) id=cd s.h id:=by rw [km,if_pos (show id<s.h.length from a)]
 exact⟨by show GD (cd (s.h++ [some B]) id)=_;rw [d],if_neg (aCp a),λb d=>rfl⟩
theorem Tr.more (a:Tr c wr ρ Z H s ρ' Z' H' s') (h: ∀i∈wr,i∈b):Tr c b ρ Z H s ρ' Z' H' s':=
 ⟨a.z,a.next,a.cur,a.mR,λid j k l=>a.un id j (λc=>k (h id c)) l,a.nx.imp id λg id d=>h id (g id d)⟩
theorem RO (a:ex=0\/ex=t.w):aC (Mj ρ s.nx (some b)) Z H (s.new (.seq t l)).h (.own s.nx) (.slice (some (b,0)) l.length l.length ex):=by
 refine⟨t,l.length, ?_,.inl ⟨b,ex,if_pos rfl,rfl,a⟩⟩;show vU (cd (s.h++ [some (.seq t l)]) s.h.length)=_;rw [km,if_neg (aBT _),aCc];rfl
theorem SR.aAF (j:SR Hb A ρ Z H s f fs) (y:cd s.h i=some (.qW P vs)) (n:ρ i=some b) (I:u.map (·.1)=p.map (.int .u8)) (K:ay ρ Z H s.h q (u.map (·.2))):
  SR Hb A ρ Z (H.set b (some (.map u))) (s.put i (.qW p q)) f fs:=by
 obtain⟨X,z⟩: ∃X:AB,X= .map u:=⟨_,rfl⟩;obtain⟨k,a⟩: ∃k:LB,k= .qW p q:=⟨_,rfl⟩;rw [<-z,<-a];obtain⟨D,L,E⟩:=j.rel.hi i b aj n;have F: ∀c,c≠b->(H.set b (some X)).get c=H.get c:=λc e=>AH.dS _ e
 have M: ∀c,Z c->(H.set b (some X)).get c=H.get c:=λc l=>F c (λe=>E (e▸l))
 have v: ∀id,id≠i->cd (hZ s.h i (some k)) id=cd s.h id:=λid e=>by rw [jq,if_neg (λc=>e c.1)]
 have r:cd (hZ s.h i (some k)) i=some k:=by rw [jq,if_pos ⟨rfl,ot y⟩]
 have m:Mv (λ_=>False) ρ Z H s.h ρ Z (H.set b (some X)) (hZ s.h i (some k)):=by
  refine⟨λc l=>⟨l,M c l⟩,λid x _ G=>⟨?_,rfl⟩⟩;by_cases e:id=i
  ·subst e;rw [r,a];rw [y]at G;exact G
  ·simp_all
 refine⟨j.rel.akV m ⟨j.rel.gQ.set D _,aBg _,λ_ _=>rfl,λid c e a d=>F c λN=>e (j.rel.inj id i b a aj (N▸d) n),λid c e a d=>(j.rel.hi id c a d).2.2,λO t=> ?_,λc t w=> ?_,λc l=>by simpa using j.rel.G9 c l,j.rel.VH⟩ v,j.cur.mv m (λ_ _ _ h=>h),iL.mv0 m j.mR⟩
 ·have:O=k:=by have:=t.symm.trans r;cases this;rfl
  subst this;subst a;exact⟨b,u,n,by rw [AH.get_set_same,z],I,ay.mv m _ (λ_ _ h=>h) K⟩
 ·have:c=b:=by have:=w.symm.trans n;cases this;rfl
  subst this;exact⟨D,by simpa using L,E,λid e a d=>e (j.rel.inj id i c a aj d n)⟩
theorem SR.aAJ (a:SR Hb A ρ Z H s f fs):SR Hb A (Mj ρ s.nx (some H.next)) Z (H.new (.map [])) (s.new (.qW [] [])) f fs:=by
 obtain⟨X,t⟩: ∃X:AB,X= .map []:=⟨_,rfl⟩;obtain⟨B,j⟩: ∃B:LB,B= .qW [] []:=⟨_,rfl⟩;rw [<-t,<-j];have n: ∀c,Z c->(H.new X).get c=H.get c:=λc b=>AH.eg _ (aCp (a.rel.G9 c b))
 have p: ∀id,id≠s.nx->cd (s.h++ [some B]) id=cd s.h id:=λid e=>by
  rw [km];by_cases c:id<s.h.length
  ·simp_all
  ·rw [if_neg c];have v:cd s.h id=none:=by
    cases w:cd s.h id with
    |none=>rfl
    |some B=>exact absurd (ot w) c
   rw [v];obtain⟨d,y⟩: ∃d,id-s.h.length=d+1:=⟨id-s.h.length-1,by have:id≠s.h.length:=e;omega⟩;rw [y];rfl
 have q:cd (s.h++ [some B]) s.nx=some B:=by show cd _ s.h.length=_;rw [km,if_neg (aBT _),aCc];rfl
 have z: ∀id,id≠s.nx->Mj ρ s.nx (some H.next) id=ρ id:=λid e=>if_neg e
 have m:Mv (λ_=>False) ρ Z H s.h (Mj ρ s.nx (some H.next)) Z (H.new X) (s.h++ [some B]):=by
  refine⟨λc b=>⟨b,n c b⟩,λid x _ u=> ?_⟩;have e:id≠s.nx:=λe=>by rw [e,aeo]at u;simp [vU]at u
  simp_all
 refine⟨a.rel.akV m ⟨a.rel.gQ.ace _,ab,z,λid c e j b=>AH.eg _ (aCp (a.rel.hi id c j b).2.1),λid c e j b=>(a.rel.hi id c j b).2.2,λD k=> ?_,λc k l=> ?_,λc b=>Nat.lt_succ_of_lt (a.rel.G9 c b),a.rel.VH⟩ p,a.cur.mv m (λ_ _ _ h=>h),iL.mv0 m a.mR⟩
 ·have:D=B:=by have:=k.symm.trans q;cases this;rfl
  subst this;subst j;have r:Mj ρ s.nx (some H.next) s.nx=some H.next:=if_pos rfl;rw [r];exact⟨H.next,[],rfl,by rw [t];simp,rfl,by simp [ay]⟩
 ·have r:Mj ρ s.nx (some H.next) s.nx=some H.next:=if_pos rfl;rw [r]at l;cases l;exact⟨a.rel.gQ.1,ab,λn=>aBT _ (a.rel.G9 _ n),λid e j b=>aBT _ (a.rel.hi id _ j b).2.1⟩
theorem aoT (u:aC ρ Z H h x D) {r:α} : ∀ {y} {vs} {t} {k},t.map (·.1)=y.map (.int .u8)->ay ρ Z H h vs (t.map (·.2))->arh n x y vs k=some r->
  ∃l p c,k l p=some r/\K8 (.int .u8 n) D t=some c/\c.map (·.1)=l.map (.int .u8)/\ay ρ Z H h p (c.map (·.2))
 | [],[],[],k,_,_,d=>by
  exact⟨_,_,_,d,rfl,rfl,by simp only [aB7];exact⟨u,trivial⟩⟩
 |m::K,v::vs,(a,b)::t,k,j,w,d=>by
  simp only [aB7,List.cons.injEq]at j;obtain⟨j,q⟩:=j;subst j;simp only [arh]at d;simp only [K8,LU,show IntKind.same .u8 .u8=true from rfl,cond_true];cases z:Int.same n m with
  |true=>
   rw [z,cond_true]at d;exact⟨_,_,_,d,rfl,by simp only [aB7,q],by simp only [aB7];exact⟨u,w.2⟩⟩
  |false=>
   rw [z,cond_false]at d;obtain⟨l,p,c,E,F,G,I⟩:=aoT u q w.2 d;exact⟨_,_,(.int .u8 m,b)::c,E,by simp only [F],by simp only [aB7,G],by simp only [aB7];exact⟨w.1,I⟩⟩
 | [],[],_::_,_,j,_,_=>by simp at j
 | [],_::_,_,_,_,_,d=>by simp [arh]at d
 |_::_,[],_,_,_,_,d=>by simp [arh]at d
 |_::_,_::_,[],_,j,_,_=>by simp at j
theorem al6 (d:SR Hb A ρ Z H s f fs) {k:LV->St->Option α} (a:UO ty Y op s k=some r):
  ∃lv s' v b ρ' Z',k lv s'=some r/\aW op f H.next=some (v,b)/\(SR Hb A ρ' Z' (H.new b) s' f fs/\Tr false [] ρ Z H s ρ' Z' (H.new b) s')/\aC ρ' Z' (H.new b) s'.h lv v:=by
 cases op with
 |alloc t z=>
  simp only [UO]at a;split at a
  ·rename_i q _;split at a
   ·obtain⟨u,a⟩:=bF a;have u:=aA8 u;have D:=d.axi q;have G:cd (s.new (.buf q [])).h s.nx=some (.buf q []):=by
     show cd (s.h++ [some (.buf q [])]) s.h.length=_;rw [km,if_neg (aBT _),aCc];rfl
    have I:(s.new (.buf q [])).nx=s.nx+1:=by show(s.h++ [some _]).length=s.h.length+1;simp
    have K:ay (Mj ρ s.nx none) Z H (s.new (.buf q [])).h [.oG (s.nx+1),.buf s.nx] [.ptr none,.slice none 0 0 0]:=by
     simp only [ay,aC];refine⟨.inl trivial,⟨q,0, ?_,.inr ⟨rfl,if_pos rfl,trivial⟩⟩,trivial⟩;rw [G];rfl
    have L:=D.new (B:= .cells [.oG (s.nx+1),.buf s.nx]) (cs:=[.ptr none,.slice none 0 0 0]) (el:=some (t,true)) ⟨K,λ_=>by rw [u]⟩;refine⟨_,_,.ptr (some (H.next,0)),.cells [.ptr none,.slice none 0 0 0] false (some (t,true)),_,_,a,rfl,⟨L,(ZS d _).trans (Lu D _ _) aa⟩, ?_⟩;refine⟨2,H.next, ?_, ?_,rfl⟩
    ·show vU (cd ((s.h++ [some (.buf q [])])++ [some (.cells [.oG (s.nx+1),.buf s.nx])]) (s.h.length+1))=_;rw [km,if_neg ab,aBW,aBn,aBJ,aCc];rfl
    ·rw [I];exact if_pos rfl
   ·grind
  ·cases p:oE (yy z)with
   |true=>simp_all
   |false=>
   rw [p,cond_false]at a;refine⟨_,_,.ptr (some (H.next,0)),.cells z false (some (t,true)),_,_,a,rfl,⟨d.new (B:= .cells (yy z)) ⟨yZ z,λh=>by rw [p]at h;cases h⟩,Lu d _ _⟩, ?_⟩;refine⟨(yy z).length,H.next, ?_,if_pos rfl,rfl⟩;show vU (cd (s.h++ [some (.cells (yy z))]) s.h.length)=_;rw [km,if_neg (aBT _),aCc];rfl
 |box x=>
  simp only [UO]at a;cases y:(IX (kp (oS s.cur x))&& !oE (kp (oS s.cur x)))with
  |false=>simp_all
  |true=>
   rw [y]at a;simp only [aA5,aCb]at y;obtain⟨ho,p⟩:=y;refine⟨_,_,.ptr (some (H.next,0)),.cells (cellsOf (f.ev x)) false none,_,_,a,rfl,⟨d.new (B:= .cells (kp (oS s.cur x))) ⟨afG (gU d x) ho,λh=>by rw [p]at h;cases h⟩,Lu d _ _⟩, ?_⟩;refine⟨(kp (oS s.cur x)).length,H.next, ?_,if_pos rfl,rfl⟩;show vU (cd (s.h++ [some (.cells (kp (oS s.cur x)))]) s.h.length)=_;rw [km,if_neg (aBT _),aCc];rfl
 |BG z E ps=>
  obtain⟨M,aCL,a,hf,hr,_⟩:=ain d (ay.rep (yZ z) E) a;split at a
  ·rename_i t ht;cases N:aBc z.length t.w with
   |false=>simp_all
   |true=>
    rw [N]at a;obtain⟨l,F,O,h3⟩:=apo d.rel E a hr;obtain⟨Z',V,P,g3⟩:=SR.nu (cP M) d;have hs:=h3 Z' ⟨P,g3⟩;subst O;refine⟨_,_,.slice (some (H.next,0)) l.length l.length 0,.cells aCL false none,_,_,F, ?_,⟨V.new (B:= .seq t l) hs,((Dr.nu (cP M) s Z P).tr []).trans (Lu V (.seq t l) (.cells aCL false none)) ?_⟩,RO (.inl rfl)⟩
    ·simp only [aW,hf]
    ·exact Nat.le_of_eq (Dr.nu (cP M) s Z P).nx.symm
  ·cases a
 |zy z bytes l c=>
  obtain⟨i1,n,hn,Q⟩:=Et a;obtain⟨i2,m,hm,a⟩:=Et Q;have R:=vX d hn;have S:=vX d hm;split at a
  ·rename_i t ht;cases N:aBc z.length t.w with
   |false=>simp_all
   |true=>
    rw [N]at a;obtain⟨x,F,O⟩:=HR d.rel a (yZ z);have hx:=O Z ⟨λ_ h=>h,λb ⟨i,W,_⟩=>by rw [Yz]at W;simp at W⟩;cases T:(Int.same n m&&dD 0 n&&fits n.toNat bytes)with
    |false=>simp_all
    |true=>
     rw [T]at F;simp only [aA5,dD,decide_eq_true_eq,fits]at T;obtain⟨⟨c1,c2⟩,c3,c4⟩:=T;have:=Int.dG c1;subst this;obtain⟨j,rfl⟩: ∃j:Nat,n=j:=⟨n.toNat,(aCj c2).symm⟩;have U:=d.new (B:= .seq t (aCf j x)) (el:=none) (cG.rep hx j);refine⟨_,_,.slice (some (H.next,0)) j j 0,.cells (rep z j) false none,_,_,F, ?_,⟨U,Lu d _ _⟩, ?_⟩
     ·simp only [aW,R,S,px];rw [show aBD j j=true by simp [aBF],show aBD (j*bytes) 1099511627776=true by simpa [aBF]using c3,show aBD j 1099511627776=true by simpa [aBF]using c4];rfl
     ·have:=RO (s:=s) (Z:=Z) (H:=H.new (.cells (rep z j) false none)) (t:=t) (l:=aCf j x) (ρ:=ρ) (b:=H.next) (ex:=0) (.inl rfl);simp_all
  ·cases a
 |P2=>
  refine⟨_,_,.map (some H.next),.map [],_,_,a,rfl,⟨d.aAJ,Lu d _ _⟩, ?_⟩;refine⟨0,H.next, ?_,if_pos rfl,rfl⟩;show vU (cd (s.h++ [some (.qW [] [])]) s.h.length)=_;rw [km,if_neg (aBT _),aCc];rfl
 |_=>simp [UO]at a
theorem ady: ∀b,cG Z H (.int .u8) (dO b) (b.map λb=> .int .u8 (aBy b.toNat))
 | []=>by simpa [dO]using(cG.nil (Z:=Z) (H:=H) (t:= .int .u8))
 |c::b=>cG.cons (t:= .int .u8) (x:=dB c) (l:=dO b) (c:=[.int .u8 (aBy c.toNat)]) rfl (ady b)
theorem cG.take (d:cG Z H t l cs) (k:m<=l.length):cG Z H t (l.take m) (cs.take (m*t.w)):=by
 have b:=aBi t.w k;refine⟨by rw [aBL,aBL,d.1,aBu b,aBu k],λj x a=> ?_⟩;rw [List.getElem?_take]at a;by_cases c:j<m
 ·rw [if_pos c]at a;have:=d.2 j x a;have n:=aBi t.w (show j+1<=m from c);rw [aCm]at n;rw [aB8,aBY,aBu aa];exact this
 ·rw [if_neg c]at a;cases a
theorem cG.drop (a:cG Z H t l cs) m:cG Z H t (l.drop m) (cs.drop (m*t.w)):=by
 refine⟨by rw [aBN,aBN,a.1,Nat.sub_mul],λj x b=> ?_⟩;rw [List.getElem?_drop]at b;have:=a.2 _ x b;rw [aB0,<-Nat.add_mul];exact this
theorem HH (r:MZ Z H t.w (λx c=>eC Z H t x c) l a):ja a=some l.length/\ ∀m,m<=l.length-> ∃k,eu H t.w a m=some k/\cG Z H t (l.take m) k:=by
 rcases r with⟨rfl,rfl⟩ |⟨b,o,u,E,d,F,rfl,G,I,K,v,L,y⟩
 ·refine⟨rfl,λm n=> ?_⟩;simp at n;subst n;exact⟨[],rfl,by simpa using(cG.nil (Z:=Z) (H:=H) (t:=t))⟩
 ·refine⟨rfl,λm n=> ?_⟩;have p:=aBi t.w n;refine⟨(d.drop o).take (m*t.w), ?_, ?_⟩
  ·simp only [eu,db,v];rw [show aBD (o+m*t.w) d.length=true by simp [aBF];omega];rfl
  ·have z:cG Z H t l ((d.drop o).take (l.length*t.w)):=by
    refine⟨by rw [aBL,aBN];omega,λj x q=> ?_⟩;have D:=aBi t.w (show j+1<=l.length from(List.getElem?_eq_some_iff.1 q).1);rw [aCm]at D;rw [aB8,aBY,aB0,aBu aa];exact y j x q
   have:=z.take n;rw [aBY,aBu p]at this;exact this
theorem Y8 (W:SR Hb A ρ Z H s f fs) {k:List t.Den->Option α} (c:akM s.h v t k=some r) (q:aC ρ Z H s.h v a):
  ∃l,k l=some r/\ja a=some l.length/\ ∀m,m<=l.length-> ∃M,eu H t.w a m=some M/\cG Z H t (l.take m) M:=by
 unfold akM at c;split at c
 ·rename_i b;obtain⟨e,z⟩:=ayG c;subst e;have:=ajk q;subst this;refine⟨dO b,z,by simp [ja,dO],λm E=>⟨(b.take m).map λb=> .int .u8 (aBy b.toNat),rfl, ?_⟩⟩;have:=ady (Z:=Z) (H:=H) (b.take m);rw [show dO (b.take m)=(dO b).take m by simp [dO,List.map_take]]at this;exact this
 ·cases v with
  |val u x=>
   obtain⟨e,z⟩:=FB c;subst e;simp only [aC]at q;obtain⟨v,e,q⟩:=q;cases e;exact⟨x,z,HH q⟩
  |tight u x=>
   obtain⟨e,z⟩:=FB c;cases e;obtain⟨v,e,q⟩:=DF q;cases e;exact⟨x,z,HH q⟩
  |nil=>
   simp only [y5]at c;simp only [aC]at q;subst q;exact⟨[],c,HH (.inl ⟨rfl,rfl⟩)⟩
  |own id=>
   simp only [y5]at c;split at c
   ·rename_i u l O;obtain⟨e,z⟩:=FB c;cases e;refine⟨l,z, ?_⟩;simp only [aC]at q;obtain⟨Y,n,F,d⟩:=q;rw [O]at F;simp only [vU,aBe,aBk]at F;obtain⟨rfl,rfl⟩:=F;rcases d with⟨b,ex,d,rfl,P⟩ |⟨d,g3,rfl |⟨b,o,p,Q,rfl,P,S,T⟩⟩
    ·rcases W.rel.own id _ O with⟨b',L,Q,G,D,R⟩ |⟨G,D⟩
     ·rw [d]at G;cases G;refine⟨rfl,λm E=>⟨L.take (m*t.w), ?_,R.take E⟩⟩;have I:=aBi t.w E;simp only [eu,db,D];rw [show aBD (0+m*t.w) L.length=true by simp [aBF];rw [R.1];exact I];simp
     ·rw [d]at D;cases D
    ·have:=aBd d;subst this;exact HH (.inl ⟨rfl,rfl⟩)
    ·have:=aBd d;subst this;exact HH (.inr ⟨b,o,0,0,p,(false,Q),rfl,aBg _,.inl rfl,P,S,by simpa using T,λj x U=>by simp at U⟩)
   ·cases c
  |part id K n=>
   simp only [y5]at c;split at c
   ·rename_i u l O;obtain⟨e,z⟩:=FB c;cases e;refine⟨_,z, ?_⟩;simp only [aC]at q;obtain⟨Y,N,F,⟨p1,p2,p3⟩,d⟩:=q;rw [O]at F;simp only [vU,aBe,aBk]at F;obtain⟨rfl,rfl⟩:=F;have y:((l.drop K.toNat).take n.toNat).length=n.toNat:=by rw [aBL,aBN];omega
    rcases d with⟨b,ex,d,rfl,P⟩ |⟨d,g3,rfl |⟨b,o,p,Q,rfl,P,S,T⟩⟩
    ·rcases W.rel.own id _ O with⟨b',L,Q,G,D,R⟩ |⟨G,D⟩
     ·rw [d]at G;cases G;refine⟨by rw [y];rfl,λm E=>⟨(L.drop (K.toNat*t.w)).take (m*t.w), ?_, ?_⟩⟩
      ·rw [y]at E;have I:K.toNat*t.w+m*t.w<=L.length:=by rw [R.1,<-Nat.add_mul];exact aBi _ aa
       simp only [eu,db,D];rw [show aBD (K.toNat*t.w+m*t.w) L.length=true by simpa [aBF]using I];rfl
      ·rw [y]at E;rw [aBY,aBu E];exact(R.drop K.toNat).take (by rw [aBN];omega)
     ·rw [d]at D;cases D
    ·have:=aBd d;subst this;have V:(([]:List t.Den).drop K.toNat).take n.toNat=[]:=ab
     rw [V];exact HH (.inl ⟨rfl,rfl⟩)
    ·have:=aBd d;subst this;have V:(([]:List t.Den).drop K.toNat).take n.toNat=[]:=ab
     rw [V];exact HH (.inr ⟨b,o,0,0,p,(false,Q),rfl,aBg _,.inl rfl,P,S,by simpa using T,λj x U=>by simp at U⟩)
   ·cases c
  |_=>simp [y5]at c
theorem cG.set (a:cG Z H t l cs) (b:i<l.length) (q:o+vs.length<=t.w) (c:eC Z H t x' (bu ((cs.drop (i*t.w)).take t.w) o vs)):
  cG Z H t (l.set i x') (bu cs (i*t.w+o) vs):=by
 have d:i*t.w+t.w<=cs.length:=by
  rw [a.1];have:=aBi t.w (show i+1<=l.length from b);rw [aCm]at this;exact this
 have j:=kx vs cs (i*t.w+o) aa;have k:=kx vs ((cs.drop (i*t.w)).take t.w) o (by rw [aBL,aBN];omega);have n:bu cs (i*t.w+o) vs=cs.take (i*t.w)++(bu ((cs.drop (i*t.w)).take t.w) o vs++cs.drop ((i+1)*t.w)):=by
  rw [j,k,aBY,aBu aa,aB8,aB0];simp only [List.append_assoc];rw [show cs.take (i*t.w+o)=cs.take (i*t.w)++(cs.drop (i*t.w)).take o by rw [List.take_add]];simp only [List.append_assoc];congr 3;rw [show cs.drop (i*t.w+o+vs.length)=(cs.drop (i*t.w+(o+vs.length))).take (t.w-(o+vs.length))++(cs.drop (i*t.w+(o+vs.length))).drop (t.w-(o+vs.length)) by rw [List.take_append_drop,Nat.add_assoc]];congr 1;rw [aB0,aCm];congr 1;omega
 have p:l.set i x'=l.take i++(x'::l.drop (i+1)):=by rw [List.set_eq_take_append_cons_drop,if_pos b]
 rw [n,p];exact(a.take (Nat.le_of_lt b)).append (cG.cons c (a.drop (i+1)))
theorem ayq (s:St) i B:(s.put i B).nx=s.nx:=LZ _ _ _
theorem ads (k:SR Hb A ρ Z H s f fs) (l:cd s.h i=some B) (n:ρ i=some b):Tr c [i] ρ Z H s ρ Z (H.set b ob) (s.put i B'):=by
 obtain⟨v,w,q⟩:=k.rel.hi i b (by rw [l];simp) n;refine⟨λc p=>⟨p,AH.dS _ λe=>q (e▸p)⟩,aBg _,PF.refl _,F9.refl _,λid x r t=> ?_,.inl (Nat.le_of_eq (ayq s i B').symm)⟩;have a:id≠i:=λe=>r (by simp [e])
 have d:cd (hZ s.h i (some B')) id=cd s.h id:=by rw [jq,if_neg (λc=>a c.1)]
 have j:cd s.h id≠none:=by rw [<-d];exact t
 exact⟨by show GD (cd (hZ s.h i (some B')) id)=_;rw [d],rfl,λc u=>AH.dS _ λe=>a (k.rel.inj id i b j (by rw [l];simp) (e▸u) n)⟩
theorem aaR: ∀is s {i} {t} {l},¬i∈is->cd s.h i=some (.seq t l)->cd (nu is s).h i=some (.seq t l)
 | [],s,i,t,l,_,a=>a
 |j::is,s,i,t,l,b,a=>aaR is (s.drop j) (λh=>b (by simp [h])) (by rw [lZ,if_neg (λe=>b (by simp [e])),a];rfl)
theorem E9 (a:H.get b=some (.cells cs false el)) (c:o+vs.length<=cs.length) (d:aB vs=true):bd H (b,o) vs=some (H.set b (some (.cells (bu cs o vs) false el))):=by
 simp only [bd,a];rw [show aBD (o+vs.length) cs.length=true by simpa [aBF]using c,d];rfl
theorem ael: ∀l i x,(Pw l i x).length=l.length
 | [],_,_=>rfl
 |_::_,0,_=>by simp [Pw]
 |_::l,i+1,x=>by simp [Pw,ael l i x]
theorem ag3: ∀vs l o,(Kf l o vs).length=l.length
 | [],_,_=>rfl
 |v::vs,l,o=>by simp [Kf,ag3 vs,ael]
theorem PZ: ∀t x,cP (aE t x)=[]
 | .int k,_=>rfl
 | .bool,_=>rfl
 | .str,_=>rfl
 | .unit,_=>rfl
 | .list t,_=>rfl
 | .CH,_=>rfl
 | .bld e,_=>rfl
 | .ref t,_=>rfl
 | .pair a b,x=>by simp only [aE,AA,PZ a,PZ b];rfl
theorem E8: ∀v l,∀j,j∈cP (v::l)↔j∈cP [v]\/j∈cP l:=λv l j=>by
 rw [show v::l=[v]++l from rfl,AA];simp
theorem adj: ∀l i x j,j∈cP (Pw l i x)->j∈cP l\/j∈cP [x]
 | [],_,_,j,h=>by simp [Pw,cP]at h
 |v::l,0,x,j,h=>by
  simp only [Pw]at h;rw [E8]at h;rw [E8];rcases h with h |h
  ·exact .inr h
  ·exact .inl (.inr h)
 |v::l,i+1,x,j,h=>by
  simp only [Pw]at h;rw [E8]at h;rw [E8];rcases h with h |h
  ·exact .inl (.inl h)
  ·rcases adj l i x j h with h |h
   ·exact .inl (.inr h)
   ·exact .inr h
theorem Xj: ∀vs l o j,j∈cP (Kf l o vs)->j∈cP l\/j∈cP vs
 | [],l,o,j,h=> .inl h
 |v::vs,l,o,j,h=>by
  simp only [Kf]at h;rw [E8];rcases Xj vs _ _ j h with h |h
  ·rcases adj l o v j h with h |h
   ·exact .inl h
   ·exact .inr (.inl h)
  ·exact .inr (.inr h)
theorem alN: ∀ {vs l} {o},cP l=[]-> ∀j∈cP (Kf l o vs),j∈cP vs:=λ{vs l o} h j b=>by
 rcases Xj vs l o j b with a |a
 ·rw [h]at a;simp at a
 ·exact a
theorem auY (z:SR Hb A ρ Z H s f fs) {cv:Bx α} (c:SJ cv ty vk (.store n a x) s k=some r):
  EOk false (wrote pu s (.store n a x)) Hb A ρ Z H s f fs k r (aZ va (.store n a x) f H):=by
 simp only [SJ]at c;cases Y:(aBc (kp (oS s.cur x)).length n&&IX (kp (oS s.cur x)))with
 |false=>rw [Y]at c;cases c
 |true=>
  rw [Y]at c;simp only [cond_true]at c;simp only [aA5]at Y;obtain⟨hn,ho⟩:=Y;have q:=afG (gU z x) ho;have O:=ajB q ho;have G:=aA8 hn;have d:=q.len;have P:aBc (cellsOf (f.ev x)).length n=true:=by rw [<-d];exact hn
  have M:=gU z a;split at c
  ·rename_i id o Q;rw [Q]at M;split at c
   ·rename_i D I;cases p:(aBD (o+n) D.length&&Y2 D (Kf D o (kp (oS s.cur x))))with
    |false=>rw [p]at c;cases c
    |true=>
     rw [p]at c;simp only [aA5]at p;obtain⟨u,vc⟩:=p;have v:o+n<=D.length:=by simpa [aBF]using u
     obtain⟨b,aCL,el,h1,h2,h3,R⟩:=KJ z I;simp only [aC]at M;obtain⟨m,b',g1,K,g3⟩:=M;rw [h1]at K;cases K;have hw:=E9 (o:=o) (vs:=cellsOf (f.ev x)) h2 (by rw [<-h3.len,<-d,G];exact v) O;have L:=z.put (B':= .cells (Kf D o (kp (oS s.cur x)))) (cs':=bu aCL o (cellsOf (f.ev x))) (el':=el) I (by simp [vU,ag3]) h1 ⟨ay.fill o h3 q,λh=>R (by simpa [Y2,h]using vc)⟩;refine⟨_,_,.undef,_,_,_,c, ?_,⟨L, ?_⟩,by simp [aC]⟩
     ·simp only [aZ,g3,P,cond_true,hw]
     ·have:wrote pu s (.store n a x)=[id]:=by simp only [wrote,Q]
      rw [this];exact ads z I h1
   ·cases c
  ·rename_i id i o Q;rw [Q]at M;split at c
   ·rename_i t l I;simp only [aC]at M;obtain⟨t',m,b,g1,K,g3,g4⟩:=M;rw [I]at g1;simp only [vU,aBe,aBk]at g1;obtain⟨rfl,rfl⟩:=g1;rcases z.rel.own id _ I with⟨b',D,el,q1,q2,q3⟩ |⟨q1,q2⟩
    ·rw [K]at q1;cases q1;have vd:wrote pu s (.store n a x)=[id]:=by simp only [wrote,Q]
     have vl:i*t.w+t.w<=D.length:=by
      rw [q3.1];have:=aBi t.w (show i+1<=l.length from g3);rw [aCm]at this;exact this
     have S: ∀(E:t.Den),o+n<=t.w-> ¬id∈cP (kp (oS s.cur x))->k .p6 ((nu (cP (kp (oS s.cur x))) s).put id (.seq t (l.set i E)))=some r->
       (∀F,Up2 ρ Z s.h (cP (kp (oS s.cur x))) F->eC F H t E (bu ((D.drop (i*t.w)).take t.w) o (cellsOf (f.ev x))))->EOk false (wrote pu s (.store n a x)) Hb A ρ Z H s f fs k r (aZ va (.store n a x) f H):=λE ve y c vf=>by
      obtain⟨F,w1,w2,w3⟩:=SR.nu (cP (kp (oS s.cur x))) z;have T:=aaR _ s y I;have U:=cG.set (x':=E) (o:=o) (vs:=cellsOf (f.ev x)) (cG.mono (Z':=F) (H':=H) (λb N=>⟨w2 b N,rfl⟩) q3) g3 (by rw [<-d,G];exact ve) (vf F ⟨w2,w3⟩);have hw:=E9 (o:=i*t.w+o) (vs:=cellsOf (f.ev x)) q2 (by rw [<-d,G];omega) O;have L:=w1.put (B':= .seq t (l.set i E)) (el':=el) T (by simp [vU]) K U;have hd:=Dr.nu (cP (kp (oS s.cur x))) s Z w2;refine⟨_,_,.undef,_,_,_,c, ?_,⟨L, ?_⟩,by simp [aC]⟩
      ·simp only [aZ,g4,P,cond_true,hw]
      ·rw [vd];exact(hd.tr [id]).trans (ads w1 T K) (Nat.le_of_eq hd.nx.symm)
     split at c
     ·cases c
     ·rename_i hA V;have W:aBc n t.w=true/\aBc o 0=true:=by simpa [aA5]using hA
      have e1:=aA8 W.1;have e2:=aA8 W.2;subst e2;have y: ¬id∈cP (kp (oS s.cur x)):=λhm=>by rw [tx.2 hm]at V;cases V
      obtain⟨E,p1,p2⟩:=HR z.rel c q;refine S E aa y p1 λF N=> ?_
      have:bu ((D.drop (i*t.w)).take t.w) 0 (cellsOf (f.ev x))=cellsOf (f.ev x):=by
       rw [kx _ _ _ (by rw [aBL,aBN,<-d];omega)];simp only [List.take_zero,aA6];rw [List.drop_of_length_le (by rw [aBL,aBN,<-d];omega),aBb]
      rw [this];exact p2 F N
     ·rename_i hA V;have y: ¬id∈cP (kp (oS s.cur x)):=λhm=>by rw [tx.2 hm]at V;cases V
      simp only [aB9]at c;obtain⟨x0,vg,c⟩:=c;cases u:aBD (o+n) t.w with
      |false=>rw [u]at c;cases c
      |true=>
       rw [u]at c;have v:o+n<=t.w:=by simpa [aBF]using u
       have vh:=ay.fill o (kE (ρ:=ρ) (h:=s.h) t (q3.2 i x0 vg)) q;obtain⟨E,p1,p2⟩:=HR z.rel c vh;refine S E v y p1 λF N=>p2 F ⟨N.1,λb ⟨j,hj,vj⟩=>N.2 b ⟨j, ?_,vj⟩⟩
       exact alN (PZ t x0) j hj
    ·rw [K]at q2;cases q2
   ·cases c
  ·cases c
end
section
variable {Hb:AH} {A:Nat->Prop} {ρ:Nat->Option Nat} {Z:Nat->Prop} {H:AH} {h:List (Option LB)} {s:St} {f:AF} {fs:List AF} {α:Type}
theorem SR.same (a:SR Hb A ρ Z H s f fs) (l:H'.next=H.next) (d: ∀c,H'.get c=H.get c):SR Hb A ρ Z H' s f fs:=by
 have m:Mv (λ_=>False) ρ Z H s.h ρ Z H' s.h:=⟨λb j=>⟨j,d b⟩,λid x _ n=>⟨n,rfl⟩⟩;refine⟨⟨⟨by rw [l];exact a.rel.gQ.1,λi p=>by rw [d];exact a.rel.gQ.2 i p⟩,λid B k=>(a.rel.own id B k).mv0 m λb _=>d b,λid b k q=> ?_,a.rel.inj,λb j=>by rw [l];exact a.rel.G9 b j,a.rel.VH⟩,a.cur.mv m (λ_ _ _ h=>h),iL.mv0 m a.mR⟩;obtain⟨r,t,u⟩:=a.rel.hi id b k q;simp_all
theorem SR.ck (c:SR Hb A ρ Z H s f fs) i:SR Hb A ρ Z H (s.ck i) f fs:=by
 have m:Mv (· =i) ρ Z H s.h ρ Z H (dh i s.h):=⟨λb q=>⟨q,rfl⟩,λid x k r=>⟨by rw [gJ,A0];exact r,rfl⟩⟩;refine⟨⟨c.rel.gQ,λid B a=> ?_,λid b a k=> ?_,λi j b l n t u=> ?_,c.rel.G9,c.rel.VH⟩,c.cur.mvp m,iL.mvp m c.mR⟩
 ·change cd (dh i s.h) id=some B at a;rw [gJ]at a;cases d:cd s.h id with
  |none=>rw [d]at a;simp [jF]at a
  |some v=>rw [d]at a;exact(c.rel.own id v d).mvp m a.symm λb k=>rfl
 ·change cd (dh i s.h) id≠none at a;rw [gJ,Ne,ei]at a;exact c.rel.hi id b a k
 ·rename_i p;change cd (dh p s.h) i≠none at l;change cd (dh p s.h) j≠none at n;rw [gJ,Ne,ei]at l n;exact c.rel.inj i j b l n t u
theorem Hu: ∀ {h} {i} {b},cd h i=some b->hZ h i (some b)=h
 | [],i,b,e=>rfl
 |c::h,0,b,e=>by simp [cd]at e;simp [hZ,e]
 |c::h,i+1,b,e=>by simp only [hZ];rw [Hu (by simpa [cd]using e)]
theorem aqW (a:cd s.h i=some (.seq t l)):(s.ck i).put i (.seq t l)=s.ck i:=by
 show(⟨_,_,hZ (dh i s.h) i (some (.seq t l))⟩:St)=⟨_,_,dh i s.h⟩;rw [Hu (by rw [gJ,a];rfl)];rfl
theorem acg (n: ∀b,Z b->H'.get b=H.get b) (p:H.next<=H'.next) (k: ∀j,j≠i->ρ' j=ρ j) (q: ∀j b,j≠i->cd s.h j≠none->ρ j=some b->H'.get b=H.get b):
  Tr c [i] ρ Z H s ρ' Z H' ((s.ck i).put i B'):=by
 refine⟨λb h=>⟨h,n b h⟩,p,PF.ck i _,F9.ck i _,λid v r t=> ?_,.inl ?_⟩
 ·have a:id≠i:=λe=>r (by simp [e])
  have d:cd (hZ (dh i s.h) i (some B')) id=jF i (cd s.h id):=by rw [jq,if_neg (λc=>a c.1),gJ]
  have l:cd s.h id≠none:=λe=>t (by show cd (hZ (dh i s.h) i (some B')) id=none;rw [d,e];rfl)
  exact⟨by show GD (cd (hZ (dh i s.h) i (some B')) id)=_;rw [d,sq],k id a,λb u=>q id b a l u⟩
 ·show s.h.length<=(hZ (dh i s.h) i (some B')).length;rw [LZ,iF];exact aBg _
theorem N2 {bytes} (h:fits n bytes=true):aBD (n*bytes) 1099511627776=true/\aBD n 1099511627776=true:=by simpa [fits]using h
theorem asa (a:cd s.h i=some B):aC (Mj ρ i (some b)) Z H ((s.ck i).put i (.seq t l)).h (.own i) (.slice (some (b,0)) l.length l.length t.w):=by
 simp only [aC];refine⟨t,l.length, ?_,.inl ⟨b,t.w,if_pos rfl,rfl,.inr rfl⟩⟩;show vU (cd (hZ (dh i s.h) i (some (.seq t l))) i)=_;rw [jq,if_pos ⟨rfl,by rw [iF];exact ot a⟩];rfl
theorem amH (a:cd s.h i=some (.buf e l)):(s.ck i).put i (.buf e l)=s.ck i:=by
 show(⟨_,_,hZ (dh i s.h) i (some (.buf e l))⟩:St)=⟨_,_,dh i s.h⟩;rw [Hu (by rw [gJ,a];rfl)];rfl
theorem aon (a:cd s.h i=some B):aC (Mj ρ i (some b)) Z H ((s.ck i).put i (.buf e0 l)).h (.buf i) (.slice (some (b,0)) l.length l.length 1):=by
 simp only [aC];refine⟨e0,l.length, ?_,.inl ⟨b,1,if_pos rfl,rfl,.inr rfl⟩⟩;show vU (cd (hZ (dh i s.h) i (some (.buf e0 l))) i)=_;rw [jq,if_pos ⟨rfl,by rw [iF];exact ot a⟩];rfl
theorem aqE (L:SR Hb A ρ Z H s f fs) {cv:Bx α} {bytes} (P:SJ cv ty v9 (.append e z bytes a x) s k=some r):
  EOk false (wrote pu s (.append e z bytes a x)) Hb A ρ Z H s f fs k r (aZ Y (.append e z bytes a x) f H):=by
 simp only [SJ]at P;have hr:=gU L a;have hx:=gU L x;have p: ∀ {a b:Nat},a<b->aBD b a=false:=λ{a b} h=>by rw [bh];exact decide_eq_false aa
 have v: ∀ {a b:Nat},a<=b->aBD a b=true:=λ{a b} h=>by rw [bh];exact decide_eq_true h
 split at P
 ·
  rename_i id he;rw [he]at hr;have va:wrote pu s (.append e z bytes a x)=[id]:=by simp only [wrote,he]
  split at P
  ·rename_i t l hb;cases hw:aBc z.length t.w with
   |false=>rw [hw]at P;cases P
   |true=>
    rw [hw]at P;have D:=aA8 hw;obtain⟨d,R,U,h3⟩:=Y8 L P hx;clear P;cases hf:fits (l.length+d.length) bytes with
    |false=>rw [hf]at R;cases R
    |true=>
     rw [hf]at R;obtain⟨f1,f2⟩:=N2 hf;obtain⟨E,V,n2⟩:=h3 d.length (aBg _);rw [aCk]at n2;have vh:=n2.1;have vp:=n2.one;have vx:=hr;simp only [aC]at hr;obtain⟨t',n,g1,I⟩:=hr;rw [hb]at g1;simp only [vU,aBe,aBk]at g1;obtain⟨rfl,rfl⟩:=g1;by_cases vj:d.length=0
     ·
      have:=aBd vj;subst this;have vk:E=[]:=aBd (by rw [vh];simp);subst vk;simp only [aBJ]at V U;rw [aBb]at R;have vz:k (.own id) (s.ck id)=some r:=by rw [<-aqW hb];exact R
      have F: ∀H',H'.next=H.next->(∀c,H'.get c=H.get c)->aZ Y (.append e z bytes a x) f H=some (f.ev a,H')->EOk false (wrote pu s (.append e z bytes a x)) Hb A ρ Z H s f fs k r (aZ Y (.append e z bytes a x) f H):=λH' S u T=>by
       have v0:=(L.ck id).same S u;refine⟨_,_,f.ev a,H',ρ,Z,vz,T,⟨v0,⟨λb hz=>⟨hz,u b⟩,by rw [S];exact aBg _,PF.ck id _,F9.ck id _,λj _ _ h4=>⟨?_,rfl,λb _=>u b⟩,.inl ?_⟩⟩, ?_⟩
       ·show GD (cd (dh id s.h) j)=_;rw [gJ,sq]
       ·show s.h.length<=(dh id s.h).length;rw [iF];exact aBg _
       ·exact vx.mv (bad:=λ_=>False) ⟨λb hz=>⟨hz,u b⟩,λj y _ hy=>⟨by rw [show(s.ck id).h=dh id s.h from rfl,gJ,A0];exact hy,rfl⟩⟩ _ (λ_ _ h=>h)
      rcases I with⟨b,ex,I,g3,W⟩ |⟨I,g3,W |⟨b,o,Q,el,W,g5,g6,g7⟩⟩
      ·rcases L.rel.own id _ hb with⟨b',cs,el,S,u,T⟩ |⟨S,u⟩
       ·rw [I]at S;cases S;refine F (H.set b (some (.cells cs false el))) rfl (λc=> ?_) ?_
        ·by_cases hc:c=b
         ·subst hc;rw [AH.get_set_same,u]
         ·exact AH.dS _ hc
        ·have vn:bd H (b,0+l.length*t.w) []=some (H.set b (some (.cells cs false el))):=by
          have:=E9 (H:=H) (b:=b) (o:=0+l.length*t.w) (cs:=cs) (vs:=[]) (el:=el) u (by simp [T.1]) rfl;simpa [bu]using this
         simp only [aZ,ew,g3,U,D,V,aCd,v (aBg _),cond_true,ba,vn]
       ·rw [I]at u;cases u
      ·have vc:l=[]:=aBd I;refine F H rfl (λ_=>rfl) ?_;simp only [aZ,ew,W,U,D,V,aCd];rfl
      ·refine F (H.set b (some (.cells Q false el))) rfl (λc=> ?_) ?_
       ·by_cases hc:c=b
        ·subst hc;rw [AH.get_set_same,g6]
        ·exact AH.dS _ hc
       ·have vn:bd H (b,o+0*t.w) []=some (H.set b (some (.cells Q false el))):=by
         have:=E9 (H:=H) (b:=b) (o:=o+0*t.w) (cs:=Q) (vs:=[]) (el:=el) g6 (by simpa using g7) rfl;simpa [bu]using this
        simp only [aZ,ew,W,U,D,V,aCd,v (aBg _),cond_true,ba,vn]
     ·
      have K:0<d.length:=Nat.pos_of_ne_zero vj;have M:aBc E.length (d.length*t.w)=true:=by rw [vh];simp [aBK]
      have F: ∀(H1:AH) (O:List AV) (vl:Option (Nat×Bool)),H1.next=H.next->(∀c,ρ id≠some c->H1.get c=H.get c)->cG Z H t l O->
        aZ Y (.append e z bytes a x) f H=some (.slice (some (H.next,0)) (l.length+d.length) (l.length+d.length) t.w,H1.new (.cells (O++E) false vl))->EOk false (wrote pu s (.append e z bytes a x)) Hb A ρ Z H s f fs k r (aZ Y (.append e z bytes a x) f H):=λH1 O vl S u T q4=>by
       have vd:cd s.h id≠none:=by rw [hb];simp
       have vo:=L.move (t:=t) (el':=vl) hb S u (T.append n2);refine⟨_,_,_,_,_,_,R,q4,⟨vo, ?_⟩, ?_⟩
       ·rw [va];refine acg (λb hz=> ?_) ae (λj hj=>if_neg hj) (λj b hj ve vf=> ?_)
        ·rw [AH.eg _ (by have:=L.rel.G9 b hz;omega)];exact u b λe'=>(L.rel.hi id b vd e').2.2 hz
        ·rw [AH.eg _ (by have:=(L.rel.hi j b ve vf).2.1;omega)];exact u b λe'=>hj (L.rel.inj j id b ve vd vf e')
       ·have:=asa (s:=s) (i:=id) (t:=t) (l:=l++d) (ρ:=ρ) (b:=H.next) (Z:=Z) (H:=H1.new (.cells (O++E) false vl)) hb;rw [aBW]at this;exact this
      rcases I with⟨b,ex,I,g3,W⟩ |⟨I,g3,W |⟨b,o,Q,el,W,g5,g6,g7⟩⟩
      ·rcases L.rel.own id _ hb with⟨b',cs,el,S,u,T⟩ |⟨S,u⟩
       ·rw [I]at S;cases S;have G:db H (b,0) (l.length*t.w)=some cs:=by
         simp only [db,u,aBh];rw [v (by rw [T.1];exact aBg _)];simp [<-T.1]
        by_cases vg:ex=0
        ·subst vg;refine F H cs (some (e,true)) rfl (λ_ _=>rfl) T ?_;simp only [aZ,ew,g3,U,D,V,p (show l.length<l.length+d.length by omega),cond_false,f1,f2,M,aBV,cond_true,u,G,aBc,Bool.true_or]
        ·have vm:ex=t.w:=by rcases W with h |h;exact absurd h vg;exact h
         subst vm;have vr:aBc t.w 0=false:=by rw [bn];exact decide_eq_false vg
         have vt:aBc t.w t.w=true:=by simp [aBK]
         refine F (H.set b none) cs (QH e el) rfl (λc hc=>AH.dS _ λe'=>hc (by rw [e',I])) T ?_;simp only [aZ,ew,g3,U,D,V,p (show l.length<l.length+d.length by omega),cond_false,f1,f2,M,aBV,cond_true,u,G,vr,vt,vp,aCt,Bool.false_or]
       ·rw [I]at u;cases u
      ·have vc:l=[]:=aBd I;subst vc;refine F H [] (some (e,true)) rfl (λ_ _=>rfl) .nil ?_;simp only [aBJ,aBh]at f1 f2⊢;simp only [aZ,ew,W,U,D,V,aBh,p K,cond_false,f1,f2,M,aBV,cond_true,aA6]
      ·have vc:l=[]:=aBd I;subst vc;have G:db H (b,o) 0=some []:=by
        simp only [db,g6,aCd];rw [v g7];simp
       refine F H [] (some (e,true)) rfl (λ_ _=>rfl) .nil ?_;simp only [aBJ,aBh]at f1 f2⊢;simp only [aZ,ew,W,U,D,V,aBh,p K,cond_false,f1,f2,M,aBV,cond_true,aA6,g6,Nat.zero_mul,G,aBc,Bool.true_or]
  ·cases P
 ·
  rename_i id he;rw [he]at hr;have va:wrote pu s (.append e z bytes a x)=[id]:=by simp only [wrote,he]
  split at P
  ·rename_i e0 l hb;cases hw:(aBc z.length 1&&aBc e e0)with
   |false=>rw [hw]at P;cases P
   |true=>
    rw [hw]at P;simp only [aA5]at hw;have D:=aA8 hw.1;have v4:=aA8 hw.2;subst v4;obtain⟨d,R,U,h3⟩:=Y8 L P hx;rw [show Ty.w (.int .u8)=1 from rfl]at h3;clear P;cases hf:fits (l.length+d.length) bytes with
    |false=>rw [hf]at R;cases R
    |true=>
     rw [hf]at R;obtain⟨f1,f2⟩:=N2 hf;obtain⟨E,V,n2⟩:=h3 d.length (aBg _);rw [aCk]at n2;have vh:E.length=d.length*1:=n2.1;have vp:=n2.one;have vx:=hr;simp only [aC]at hr;obtain⟨e',n,g1,I⟩:=hr;rw [hb]at g1;simp only [vU,aBe,aBk,Ty.bld.injEq]at g1;obtain⟨rfl,rfl⟩:=g1;by_cases vj:d.length=0
     ·
      have:=aBd vj;subst this;have vk:E=[]:=aBd (by rw [vh];simp);subst vk;simp only [aBJ]at V U;rw [aBb]at R;have vz:k (.buf id) (s.ck id)=some r:=by rw [<-amH hb];exact R
      have F: ∀H',H'.next=H.next->(∀c,H'.get c=H.get c)->aZ Y (.append e z bytes a x) f H=some (f.ev a,H')->EOk false (wrote pu s (.append e z bytes a x)) Hb A ρ Z H s f fs k r (aZ Y (.append e z bytes a x) f H):=λH' S u T=>by
       have v0:=(L.ck id).same S u;refine⟨_,_,f.ev a,H',ρ,Z,vz,T,⟨v0,⟨λb hz=>⟨hz,u b⟩,by rw [S];exact aBg _,PF.ck id _,F9.ck id _,λj _ _ h4=>⟨?_,rfl,λb _=>u b⟩,.inl ?_⟩⟩, ?_⟩
       ·show GD (cd (dh id s.h) j)=_;rw [gJ,sq]
       ·show s.h.length<=(dh id s.h).length;rw [iF];exact aBg _
       ·exact vx.mv (bad:=λ_=>False) ⟨λb hz=>⟨hz,u b⟩,λj y _ hy=>⟨by rw [show(s.ck id).h=dh id s.h from rfl,gJ,A0];exact hy,rfl⟩⟩ _ (λ_ _ h=>h)
      rcases I with⟨b,ex,I,g3,W⟩ |⟨I,g3,W⟩
      ·rcases L.rel.own id _ hb with⟨b',cs,q,S,u,T⟩ |⟨S,u⟩
       ·rw [I]at S;cases S;have vq:cs.length=l.length*1:=T.1;refine F (H.set b (some (.cells cs false (some (e,q))))) rfl (λc=> ?_) ?_
        ·by_cases hc:c=b
         ·subst hc;rw [AH.get_set_same,u]
         ·exact AH.dS _ hc
        ·have vn:bd H (b,0+l.length*1) []=some (H.set b (some (.cells cs false (some (e,q))))):=by
          have:=E9 (H:=H) (b:=b) (o:=0+l.length*1) (cs:=cs) (vs:=[]) (el:=some (e,q)) u (by simp [vq]) rfl;simpa [bu]using this
         simp only [aZ,ew,g3,U,D,V,aCd,v (aBg _),cond_true,ba,vn]
       ·rw [I]at u;cases u
      ·have vc:l=[]:=aBd I;refine F H rfl (λ_=>rfl) ?_;simp only [aZ,ew,W,U,D,V,aCd];rfl
     ·
      have K:0<d.length:=Nat.pos_of_ne_zero vj;have M:aBc E.length (d.length*1)=true:=by rw [vh];simp [aBK]
      have F: ∀(H1:AH) (O:List AV) (q0:Bool),H1.next=H.next->(∀c,ρ id≠some c->H1.get c=H.get c)->cG Z H (.int .u8) l O->
        aZ Y (.append e z bytes a x) f H=some (.slice (some (H.next,0)) (l.length+d.length) (l.length+d.length) 1,H1.new (.cells (O++E) false (some (e,q0))))->EOk false (wrote pu s (.append e z bytes a x)) Hb A ρ Z H s f fs k r (aZ Y (.append e z bytes a x) f H):=λH1 O q0 S u T q4=>by
       have vd:cd s.h id≠none:=by rw [hb];simp
       have vo:=L.aw8 (e0:=e) (q0:=q0) hb S u (T.append n2);refine⟨_,_,_,_,_,_,R,q4,⟨vo, ?_⟩, ?_⟩
       ·rw [va];refine acg (λb hz=> ?_) ae (λj hj=>if_neg hj) (λj b hj ve vf=> ?_)
        ·rw [AH.eg _ (by have:=L.rel.G9 b hz;omega)];exact u b λe'=>(L.rel.hi id b vd e').2.2 hz
        ·rw [AH.eg _ (by have:=(L.rel.hi j b ve vf).2.1;omega)];exact u b λe'=>hj (L.rel.inj j id b ve vd vf e')
       ·have:=aon (s:=s) (i:=id) (e0:=e) (l:=l++d) (ρ:=ρ) (b:=H.next) (Z:=Z) (H:=H1.new (.cells (O++E) false (some (e,q0)))) hb;rw [aBW]at this;exact this
      rcases I with⟨b,ex,I,g3,W⟩ |⟨I,g3,W⟩
      ·rcases L.rel.own id _ hb with⟨b',cs,q,S,u,T⟩ |⟨S,u⟩
       ·rw [I]at S;cases S;have vq:cs.length=l.length*1:=T.1;have G:db H (b,0) (l.length*1)=some cs:=by
         simp only [db,u,aBh];rw [v (by rw [vq];exact aBg _)];simp only [Nat.mul_one]at vq;simp [vq];rw [<-vq,aCk]
        by_cases vg:ex=0
        ·subst vg;refine F H cs true rfl (λ_ _=>rfl) T ?_;simp only [aZ,ew,g3,U,D,V,p (show l.length<l.length+d.length by omega),cond_false,f1,f2,M,aBV,cond_true,u,G,aBc,Bool.true_or]
        ·have vm:ex=1:=by rcases W with h |h;exact absurd h vg;exact h
         subst vm;have vr:aBc 1 0=false:=rfl;have vt:aBc 1 1=true:=rfl;have v5:aBc e e=true:=by simp [aBK]
         refine F (H.set b none) cs false rfl (λc hc=>AH.dS _ λe'=>hc (by rw [e',I])) T ?_;simp only [aZ,ew,g3,U,D,V,p (show l.length<l.length+d.length by omega),cond_false,f1,f2,M,aBV,cond_true,u,G,vr,vt,vp,aCt,Bool.false_or,QH,v5]
       ·rw [I]at u;cases u
      ·have vc:l=[]:=aBd I;subst vc;refine F H [] true rfl (λ_ _=>rfl) .nil ?_;simp only [aBJ,aBh]at f1 f2⊢;simp only [aZ,ew,W,U,D,V,aBh,p K,cond_false,f1,f2,M,aBV,cond_true,aA6]
  ·cases P
 ·
  rename_i id lo n he;rw [he]at hr;have va:wrote pu s (.append e z bytes a x)=[id]:=by simp only [wrote,he]
  split at P
  ·rename_i t l hb;cases hw:(aBc z.length t.w&&Int.same lo 0)with
   |false=>rw [hw]at P;cases P
   |true=>
    rw [hw]at P;simp only [aA5]at hw;have D:=aA8 hw.1;have v6:=Int.dG hw.2;subst v6;obtain⟨d,R,U,h3⟩:=Y8 L P hx;clear P;cases hf:(aBS 0 d.length&&fits (n.toNat+d.length) bytes)with
    |false=>rw [hf]at R;cases R
    |true=>
     rw [hf]at R;simp only [aA5,aCl]at hf;obtain⟨K,hf⟩:=hf;obtain⟨f1,f2⟩:=N2 hf;obtain⟨E,V,n2⟩:=h3 d.length (aBg _);rw [aCk]at n2;have vh:=n2.1;have vp:=n2.one;have M:aBc E.length (d.length*t.w)=true:=by rw [vh];simp [aBK]
     simp only [aC]at hr;obtain⟨t',N,g1,⟨p1,p2,p3⟩,I⟩:=hr;rw [hb]at g1;simp only [vU,aBe,aBk]at g1;obtain⟨rfl,rfl⟩:=g1;obtain⟨m,rfl⟩: ∃m:Nat,n=m:=⟨n.toNat,aa⟩;simp only [aCn]at R f1 f2 I;have vd:cd s.h id≠none:=by rw [hb];simp
     have v7: ∀(H1:AH) (b:Nat),cd ((s.ck id).put id (.seq t (l.take m++(d++l.drop (m+d.length))))).h id=some (.seq t (l.take m++(d++l.drop (m+d.length)))):=λ_ _=>by
      show cd (hZ (dh id s.h) id (some _)) id=_;rw [jq,if_pos ⟨rfl,by rw [iF];exact ot hb⟩]
     have vv:(l.take m++(d++l.drop (m+d.length))).length=m+d.length+(l.length-(m+d.length)):=by
      rw [aBW,aBW,aBL,aBN];omega
     have F: ∀(H1:AH) (O:List AV) (vl:Option (Nat×Bool)),l.length<m+d.length->H1.next=H.next->(∀c,ρ id≠some c->H1.get c=H.get c)->cG Z H t (l.take m) O->
       aZ Y (.append e z bytes a x) f H=some (.slice (some (H.next,0)) (m+d.length) (m+d.length) t.w,H1.new (.cells (O++E) false vl))->EOk false (wrote pu s (.append e z bytes a x)) Hb A ρ Z H s f fs k r (aZ Y (.append e z bytes a x) f H):=λH1 O vl vu S u T q4=>by
      have v8:l.take m++(d++l.drop (m+d.length))=l.take m++d:=by rw [List.drop_of_length_le aa,aBb]
      have hN:=vv;rw [v8]at R hN;have vo:=L.move (t:=t) (el':=vl) hb S u (T.append n2);refine⟨_,_,_,_,_,_,R,q4,⟨vo, ?_⟩, ?_⟩
      ·rw [va];refine acg (λb hz=> ?_) ae (λj hj=>if_neg hj) (λj b hj ve vf=> ?_)
       ·rw [AH.eg _ (by have:=L.rel.G9 b hz;omega)];exact u b λe'=>(L.rel.hi id b vd e').2.2 hz
       ·rw [AH.eg _ (by have:=(L.rel.hi j b ve vf).2.1;omega)];exact u b λe'=>hj (L.rel.inj j id b ve vd vf e')
      ·simp only [aC];refine⟨t,(l.take m++d).length, ?_,⟨Int.le_refl _,by simp only [aBz];omega,by rw [hN];simp only [aBz];omega⟩,.inl ⟨H.next,t.w,if_pos rfl, ?_,.inr rfl⟩⟩
       ·show vU (cd (hZ (dh id s.h) id (some (.seq t (l.take m++d)))) id)=_;rw [jq,if_pos ⟨rfl,by rw [iF];exact ot hb⟩];rfl
       ·rw [hN,show((m:Int)+aBy d.length).toNat=m+d.length by simp only [aBz];omega,show(0:Int).toNat=0 from rfl,show m+d.length+(l.length-(m+d.length))=m+d.length by omega];simp
     rcases I with⟨b,ex,I,g3,W⟩ |⟨I,g3,W |⟨b,o,Q,el,W,g5,g6,g7⟩⟩
     ·rcases L.rel.own id _ hb with⟨b',cs,el,S,u,T⟩ |⟨S,u⟩
      ·rw [I]at S;cases S;simp only [show(0:Int).toNat=0 from rfl,Nat.zero_mul,Nat.sub_zero]at g3;by_cases v3:m+d.length<=l.length
       ·
        have v1:=aBi t.w v3;rw [Nat.add_mul]at v1;have vw:(0+m*t.w)+E.length<=cs.length:=by rw [vh,T.1];omega
        have vn:=E9 (H:=H) (b:=b) (o:=0+m*t.w) (cs:=cs) (vs:=E) (el:=el) u vw vp;have vo:=(L.ck id).put (B':= .seq t (l.take m++(d++l.drop (m+d.length)))) (cs':=bu cs (0+m*t.w) E) (el':=el) (i:=id) (b:=b) (B:= .seq t l) (by show cd (dh id s.h) id=_;rw [gJ,hb];rfl) (by simp only [vU,vv];congr 2;omega) I (by
         show cG Z H t _ _;rw [kx _ _ _ vw,aBh,vh,<-Nat.add_mul];exact(T.take aa).append (n2.append (T.drop (m+d.length))))
        refine⟨_,_,.slice (some (b,0)) (m+d.length) l.length ex,_,_,_,R, ?_,⟨vo, ?_⟩, ?_⟩
        ·simp only [aZ,ew,g3,U,D,V,v v3,cond_true,ba,vn]
        ·rw [va];refine acg (λc hz=>AH.dS _ λe'=>(L.rel.hi id b vd I).2.2 (e'▸hz)) (aBg _) (λj hj=>rfl) (λj c hj ve vf=>AH.dS _ λe'=>hj (L.rel.inj j id b ve vd (e'▸vf) I))
        ·simp only [aC];refine⟨t,(l.take m++(d++l.drop (m+d.length))).length, ?_,⟨Int.le_refl _,by simp only [aBz];omega,by rw [vv];simp only [aBz];omega⟩,.inl ⟨b,ex,I, ?_,W⟩⟩
         ·rw [v7 H 0];rfl
         ·rw [vv,show((m:Int)+aBy d.length).toNat=m+d.length by simp only [aBz];omega,show(0:Int).toNat=0 from rfl,show m+d.length+(l.length-(m+d.length))=l.length by omega];simp
       ·have vu:l.length<m+d.length:=aa
        have v1:=aBi t.w (show m<=l.length by omega);have G:db H (b,0) (m*t.w)=some (cs.take (m*t.w)):=by
         simp only [db,u,aBh];rw [v (by rw [T.1];exact v1)];simp
        by_cases vg:ex=0
        ·subst vg;refine F H (cs.take (m*t.w)) (some (e,true)) vu rfl (λ_ _=>rfl) (T.take aa) ?_;simp only [aZ,ew,g3,U,D,V,p vu,cond_false,f1,f2,M,aBV,cond_true,u,G,aBc,Bool.true_or]
        ·have vm:ex=t.w:=by rcases W with h |h;exact absurd h vg;exact h
         subst vm;have vr:aBc t.w 0=false:=by rw [bn];exact decide_eq_false vg
         have vt:aBc t.w t.w=true:=by simp [aBK]
         refine F (H.set b none) (cs.take (m*t.w)) (QH e el) vu rfl (λc hc=>AH.dS _ λe'=>hc (by rw [e',I])) (T.take aa) ?_;simp only [aZ,ew,g3,U,D,V,p vu,cond_false,f1,f2,M,aBV,cond_true,u,G,vr,vt,vp,aCt,Bool.false_or]
      ·rw [I]at u;cases u
     ·have vc:l=[]:=aBd I;subst vc;have v2:m=0:=by simp at p3;omega
      subst v2;refine F H [] (some (e,true)) (by simpa using K) rfl (λ_ _=>rfl) (by simpa using(cG.nil (Z:=Z) (H:=H) (t:=t))) ?_;simp only [aBh]at f1 f2⊢;simp only [aZ,ew,W,U,D,V,aBh,p K,cond_false,f1,f2,M,aBV,cond_true,aA6]
     ·have vc:l=[]:=aBd I;subst vc;have v2:m=0:=by simp at p3;omega
      subst v2;have G:db H (b,o) 0=some []:=by
       simp only [db,g6,aCd];rw [v g7];simp
      refine F H [] (some (e,true)) (by simpa using K) rfl (λ_ _=>rfl) (by simpa using(cG.nil (Z:=Z) (H:=H) (t:=t))) ?_;simp only [aBh]at f1 f2⊢;simp only [aZ,ew,W,U,D,V,aBh,p K,cond_false,f1,f2,M,aBV,cond_true,aA6,g6,Nat.zero_mul,G,aBc,Bool.true_or]
  ·cases P
 ·
  rename_i t l he;rw [he]at hr;have va:wrote pu s (.append e z bytes a x)=[]:=by simp only [wrote,he]
  cases hw:aBc z.length t.w with
  |false=>rw [hw]at P;cases P
  |true=>
   rw [hw]at P;have D:=aA8 hw;obtain⟨d,R,U,h3⟩:=Y8 L P hx;clear P;cases hf:(aBS 0 d.length&&fits (l.length+d.length) bytes)with
   |false=>rw [hf]at R;cases R
   |true=>
    rw [hf]at R;simp only [aA5,aCl]at hf;obtain⟨K,hf⟩:=hf;obtain⟨f1,f2⟩:=N2 hf;obtain⟨E,V,n2⟩:=h3 d.length (aBg _);rw [aCk]at n2;have M:aBc E.length (d.length*t.w)=true:=by rw [n2.1];simp [aBK]
    have F: ∀(O:List AV),cG Z H t l O->aZ Y (.append e z bytes a x) f H=some (.slice (some (H.next,0)) (l.length+d.length) (l.length+d.length) t.w,H.new (.cells (O++E) false (some (e,true))))->
      EOk false (wrote pu s (.append e z bytes a x)) Hb A ρ Z H s f fs k r (aZ Y (.append e z bytes a x) f H):=λO T q4=>by
     refine⟨_,_,_,_,_,_,R,q4,⟨L.new (B:= .seq t (l++d)) (T.append n2),by rw [va];exact Lu L _ _⟩, ?_⟩;have:=RO (s:=s) (Z:=Z) (H:=H.new (.cells (O++E) false (some (e,true)))) (t:=t) (l:=l++d) (ρ:=ρ) (b:=H.next) (ex:=t.w) (.inr rfl);rw [aBW]at this;exact this
    simp only [aC]at hr;rcases hr with⟨rfl,g1⟩ |⟨b,o,Q,el,g1,I,g3,W,g5⟩
    ·refine F [] .nil ?_;simp only [aBJ,aBh]at f1 f2⊢;simp only [aZ,ew,g1,U,D,V,aBh,p K,cond_false,f1,f2,M,aBV,cond_true,aA6]
    ·have hb:cG Z H t l ((Q.drop o).take (l.length*t.w)):=by
      refine⟨by rw [aBL,aBN];omega,λj y hy=> ?_⟩;have hj:=aBi t.w (show j+1<=l.length from(List.getElem?_eq_some_iff.1 hy).1);rw [aCm]at hj;rw [aB8,aBY,aB0,aBu aa];exact g5 j y hy
     have G:db H (b,o) (l.length*t.w)=some ((Q.drop o).take (l.length*t.w)):=by
      simp only [db,g3];rw [v W];rfl
     refine F _ hb ?_;simp only [aZ,ew,g1,U,D,V,p (show l.length<l.length+d.length by omega),cond_false,f1,f2,M,aBV,cond_true,g3,G,aBc,Bool.true_or]
 ·
  rename_i he;rw [he]at hr;simp only [aC]at hr;have va:wrote pu s (.append e z bytes a x)=[]:=by simp only [wrote,he]
  split at P
  ·rename_i t ht;cases hw:aBc z.length t.w with
   |false=>rw [hw]at P;cases P
   |true=>
    rw [hw]at P;have D:=aA8 hw;obtain⟨d,R,U,h3⟩:=Y8 L P hx;clear P;cases hf:fits d.length bytes with
    |false=>rw [hf]at R;cases R
    |true=>
     rw [hf]at R;obtain⟨f1,f2⟩:=N2 hf;obtain⟨E,V,n2⟩:=h3 d.length (aBg _);rw [aCk]at n2;have M:aBc E.length (d.length*t.w)=true:=by rw [n2.1];simp [aBK]
     by_cases vj:d.length=0
     ·have:=aBd vj;subst this;have vk:E=[]:=aBd (by rw [n2.1];simp);subst vk;simp only [aBJ]at V U;refine⟨_,_,.slice none 0 0 0,H,_,_,R, ?_,⟨L.avw t,by rw [va];exact ZS L _⟩, ?_⟩
      ·simp only [aZ,ew,hr,U,D,V];rfl
      ·simp only [aC];refine⟨t,0, ?_,.inr ⟨rfl,if_pos rfl,.inl trivial⟩⟩;show vU (cd (s.h++ [some (.seq t [])]) s.h.length)=_;rw [km,if_neg (aBT _),aCc];rfl
     ·have K:0<d.length:=Nat.pos_of_ne_zero vj;refine⟨_,_,.slice (some (H.next,0)) d.length d.length t.w,H.new (.cells E false (some (e,true))),_,_,R, ?_,⟨L.new (B:= .seq t d) n2,by rw [va];exact Lu L _ _⟩,RO (.inr rfl)⟩;simp only [aZ,ew,hr,U,D,V,aBh,p K,cond_false,f1,f2,M,aBV,cond_true]
  ·cases P
 ·cases P
def ala (c:Nat->Bool) (cv:Bx α) (b:CV):Prop:= ∀ {Hb:AH} {A:Nat->Prop} {ρ:Nat->Option Nat} {Z:Nat->Prop} {H:AH} {s:St} {f:AF} {fs:List AF} {g:LV} {d:AV} {a:List LV} {aCL:List AV} {k:LV->St->Option α} {r:α},
 SR Hb A ρ Z H s f fs->aC ρ Z H s.h g d->ay ρ Z H s.h a aCL->cv g a s k=some r->EOk (match g with | .func g _ _=>(match cP (fa a)with | []=> !c g |_::_=>true) |_=>true) (match g with | .func g _ _=>cond (c g) (anE s.h (cP (fa a))) (upto s.nx) |_=>upto s.nx) Hb A ρ Z H s f fs k r (b d aCL H)
theorem aul {cv:Bx α} (vm:ala pu cv vn) (y:SR Hb A ρ Z H s f fs) (u:SJ cv ty v1 op s k=some r):
  EOk (hot pu s op) (wrote pu s op) Hb A ρ Z H s f fs k r (aZ vn op f H):=by
 cases op with
 |store n a x=>exact auY y u
 |Q4 ks m x v=>
  simp only [SJ]at u;have L:=gU y m;split at u
  ·rename_i id i n V hx;rw [V]at L;split at u
   ·rename_i kl vs M;cases E:(!ks&&IntKind.same i .u8&&IX [oS s.cur v])with
    |false=>rw [E]at u;cases u
    |true=>
     rw [E,cond_true]at u;simp only [aA5,aCb]at E;obtain⟨⟨rfl,W⟩,ho⟩:=E;have W:=IntKind.dG W;subst W;have vo:=vX y hx;obtain⟨b,es,g1,F,g3,g4⟩:=ajd y M;simp only [aC]at L;obtain⟨_,b',_,Y,K⟩:=L;rw [g1]at Y;cases Y;obtain⟨v2,v3,vp,p1,p2,p3,p4⟩:=aoT (gU y v) g3 g4 u;have Q:wrote pu s (.Q4 false m x v)=[id]:=by simp only [wrote,V]
     refine⟨_,_,.undef,H.set b (some (.map vp)),_,_,p1, ?_,⟨y.aAF M g1 p3 p4,by rw [Q];exact ads y M g1⟩,by simp [aC]⟩;simp only [aZ,K,F,vo,C7,cond_true,p2]
   ·cases u
  ·cases u
 |append e z bytes a x=>exact aqE y u
 |sL e z bytes a n=>
  simp only [SJ]at u;have L:=gU y a;split at u
  ·rename_i V;rw [V]at L;simp only [aC]at L;obtain⟨i,n,hn,O⟩:=Et u;clear u;have vd:=vX y hn;split at O
   ·rename_i t ht;cases hw:aBc z.length t.w with
    |false=>rw [hw]at O;cases O
    |true=>
     rw [hw]at O;obtain⟨x,P,h2⟩:=HR y.rel O (yZ z);clear O;have hx:=h2 Z ⟨λ_ h=>h,λb ⟨i,W,_⟩=>by rw [Yz]at W;simp at W⟩;cases E:(bZ 0 n&&fits n.toNat bytes)with
     |false=>rw [E]at P;cases P
     |true=>
      rw [E]at P;simp only [aA5,bZ,decide_eq_true_eq]at E;obtain⟨c1,c2⟩:=E;obtain⟨f1,f2⟩:=N2 c2;obtain⟨j,rfl⟩: ∃j:Nat,n=j:=⟨n.toNat,(aCj (Int.le_of_lt c1)).symm⟩;simp only [aCn]at f1 f2;have hj:0<j:=aa
      have ve:=aA8 hw;have G:(aCf j x).length=j:=List.length_replicate;refine⟨_,_,.slice (some (H.next,0)) j j t.w,H.new (.cells (rep z j) false (some (e,true))),_,_,P, ?_,⟨y.new (B:= .seq t (aCf j x)) (cG.rep hx j),(Lu y _ _).more (λi W=>by simp at W)⟩, ?_⟩
      ·simp only [aZ,L,vd,px,f1,f2];rw [show aBS 0 j=true by simpa [aCl]using hj,ve];rfl
      ·have:=RO (s:=s) (Z:=Z) (H:=H.new (.cells (rep z j) false (some (e,true)))) (t:=t) (l:=aCf j x) (ρ:=ρ) (b:=H.next) (ex:=t.w) (.inr rfl);rw [G]at this;exact this
   ·cases O
  ·cases u
 |copy vk d x=>
  simp only [SJ]at u;have L:=gU y d;split at u
  ·rename_i id V;rw [V]at L;split at u
   ·rename_i t l M;cases hw:aBc vk t.w with
    |false=>rw [hw]at u;cases u
    |true=>
     rw [hw]at u;have ve:=aA8 hw;subst ve;obtain⟨l',P,h2,h3⟩:=Y8 y u (gU y x);clear u;have R: ∀a b:Nat,cond (aBD a b) a b=Nat.min a b:=λa b=>by
      rw [bh];by_cases c:a<=b
      ·rw [decide_eq_true c];exact(aBu c).symm
      ·rw [decide_eq_false c,cond_false];exact(Nat.min_eq_right (Nat.le_of_lt (Nat.lt_of_not_le c))).symm
     obtain⟨n,hn⟩: ∃n,n=Nat.min l'.length l.length:=⟨_,rfl⟩;have vf:n<=l'.length:=by rw [hn];exact Nat.min_le_left _ _
     have S:n<=l.length:=by rw [hn];exact Nat.min_le_right _ _
     simp only [<-hn]at P;obtain⟨I,n1,n2⟩:=h3 n vf;have Q:wrote pu s (.copy t.w d x)=[id]:=by simp only [wrote,V]
     have G:(l'.take n++l.drop n).length=l.length:=by rw [aBW,aBL,aBN,aBu vf];omega
     simp only [aC]at L;obtain⟨t',m,g1,F⟩:=L;rw [M]at g1;simp only [vU,aBe,aBk]at g1;obtain⟨rfl,rfl⟩:=g1;have va:I.length=n*t.w:=by rw [n2.1,aBL,aBu vf]
     rcases F with⟨b,ex,F,g3,g4⟩ |⟨F,g3,g4 |⟨b,o,D,el,g4,g5,g6,g7⟩⟩
     ·rcases y.rel.own id _ M with⟨b',T,el,Y,K,q3⟩ |⟨Y,K⟩
      ·rw [F]at Y;cases Y;have vq:=aBi t.w S;have vc:0+I.length<=T.length:=by rw [aBh,q3.1,va];exact vq
       have hw:=E9 (o:=0) (vs:=I) K vc n2.one;have vr:bu T 0 I=I++T.drop (n*t.w):=by
        rw [kx _ _ _ vc,va];simp
       rw [vr]at hw;have vg:=y.put (B':= .seq t (l'.take n++l.drop n)) (cs':=I++T.drop (n*t.w)) (el':=el) M (by simp [vU,G]) F (cG.append n2 (q3.drop n));refine⟨_,_,.int .i64 (aBy n),_,_,_,P, ?_,⟨vg,by rw [Q];exact ads y M F⟩,of_int⟩;simp only [aZ,g3,h2,R,<-hn,n1,hw]
      ·rw [F]at K;cases K
     ·have vh:l=[]:=aBd F;subst vh;simp at S;subst S;have U:I=[]:=aBd (by simpa using va);subst U;have vj:s.put id (.seq t (l'.take 0++ [].drop 0))=s:=by
       show(⟨s.cur,s.mR,hZ s.h id (some (.seq t []))⟩:St)=s;rw [Hu M]
      rw [vj]at P;refine⟨_,_,.int .i64 (aBy 0),H,_,_,P, ?_,⟨y,(Dr.refl Z s).tr _⟩,of_int⟩;simp only [aZ,g4,h2,R,show Nat.min l'.length 0=0 from Nat.min_zero _,n1]
     ·have vh:l=[]:=aBd F;subst vh;simp at S;subst S;have U:I=[]:=aBd (by simpa using va);subst U;have vj:s.put id (.seq t (l'.take 0++ [].drop 0))=s:=by
       show(⟨s.cur,s.mR,hZ s.h id (some (.seq t []))⟩:St)=s;rw [Hu M]
      rw [vj]at P;have vt:bd H (b,o) []=some (H.set b (some (.cells D false el))):=by
       have:=E9 (H:=H) (b:=b) (o:=o) (cs:=D) (vs:=[]) (el:=el) g6 (by simpa using g7) rfl;simpa [bu]using this
      have K: ∀c,(H.set b (some (.cells D false el))).get c=H.get c:=λc=>by
       by_cases E:c=b
       ·subst E;rw [AH.get_set_same,g6]
       ·exact AH.dS _ E
      refine⟨_,_,.int .i64 (aBy 0),H.set b (some (.cells D false el)),_,_,P, ?_,⟨y.same rfl K,⟨λb hz=>⟨hz,K b⟩,aBg _,PF.refl _,F9.refl _,λj _ _ h4=>⟨rfl,rfl,λb _=>K b⟩,.inl (aBg _)⟩⟩,of_int⟩;simp only [aZ,g4,h2,R,show Nat.min l'.length 0=0 from Nat.min_zero _,n1,vt]
   ·cases u
  ·cases u
 |conv c x=>
  cases c with
  |CL=>
   simp only [SJ]at u;split at u
   ·rename_i b hx;have G:(dO b).length=b.length:=by simp [dO]
    refine⟨_,_,.slice (some (H.next,0)) b.length b.length 1,H.new (.cells (b.map λb=> .int .u8 (aBy b.toNat)) false none),_,_,u,by simp only [aZ,Um y hx],⟨y.new (B:= .seq (.int .u8) (dO b)) (ady b),(Lu y _ _).more (λi W=>by simp at W)⟩, ?_⟩;have:=RO (s:=s) (Z:=Z) (H:=H.new (.cells (b.map λb=> .int .u8 (aBy b.toNat)) false none)) (t:= .int .u8) (l:=dO b) (ρ:=ρ) (b:=H.next) (ex:=1) (.inr rfl);rw [G]at this;exact this
   ·cases u
  |_=>simp [SJ]at u
 |Qo t p n=>
  simp only [SJ]at u;have L:=gU y p;split at u
  ·rename_i id i o V;rw [V]at L;split at u
   ·rename_i e l M;have vu:=Et u;clear u;obtain⟨ik,m,hn,u⟩:=vu;have vd:=vX y hn;cases E:(aBc i 0&&aBc o 0&&aBc e t&&bZ 0 m&&dD m (aBy l.length)&&fits m.toNat 1)with
    |false=>rw [E]at u;cases u
    |true=>
     rw [E,cond_true]at u;cases ha:um l with
     |false=>rw [ha]at u;cases u
     |true=>
      rw [ha,cond_true]at u;simp only [aA5,bZ,dD,decide_eq_true_eq,aBz]at E;obtain⟨⟨⟨⟨⟨c1,c2⟩,c3⟩,c4⟩,c5⟩,c6⟩:=E;have c1:=aA8 c1;have c2:=aA8 c2;have c3:=aA8 c3;subst c1;subst c2;subst c3;obtain⟨j,rfl⟩: ∃j:Nat,m=j:=⟨m.toNat,(aCj (Int.le_of_lt c4)).symm⟩;simp only [aCn]at c6 u;obtain⟨f1,f2⟩:=N2 c6;simp only [aC]at L;obtain⟨t',N,b,g1,F,g3,g4⟩:=L;rcases y.rel.own id _ M with⟨b',T,q,Y,K,q3⟩ |⟨Y,K⟩
      ·rw [F]at Y;cases Y;have vv:j<=l.length:=aa
       have Q:wrote pu s (.Qo e p n)=[id]:=by simp only [wrote,V]
       have v4:T.length=l.length:=by have:=q3.1;simpa [Ty.w]using this
       have vw:db H (b,0) j=some (T.take j):=by
        simp only [db,K,aBh];rw [show aBD j T.length=true by simp [aBF];omega];simp
       have vx:um (l.take j)=true:=aBj.2 λd hd=>aBj.1 ha d (List.mem_of_mem_take hd)
       have vz:bytesOf (T.take j)=some (ofBytes (l.take j)):=by
        have P:=q3.take vv;simp only [Ty.w,Nat.mul_one]at P;exact XO P vx
       have vg:=y.aAE (ob:=some (.cells T true (some (e,q)))) F (by rw [M];simp);obtain⟨k1,k2,k3⟩:=y.rel.hi id b (by rw [M];simp) F;refine⟨_,_,.str (ofBytes (l.take j)),H.set b (some (.cells T true (some (e,q)))),_,_,u, ?_,⟨vg, ?_⟩,Vc⟩
       ·simp only [aZ,g4,vd,px,Nat.zero_mul,aCd];rw [show aBc j 0=false by cases h:aBc j 0;rfl;have:=aA8 h;omega,cond_false];simp only [K,vw,vz];rw [show aBc e e=true by simp [aBK],f2];rfl
       ·rw [Q];refine⟨λc hz=>⟨hz,AH.dS _ λe'=>k3 (e'▸hz)⟩,aBg _,PF.ck id _,F9.ck id _,λx P h2 h3=> ?_,.inl ?_⟩
        ·have vl:x≠id:=λe'=>h2 (by simp [e'])
         rw [lZ,if_neg vl]at h3⊢;rw [Ne,ei]at h3;exact⟨sq _ _,rfl,λc v0=>AH.dS _ λe'=>vl (y.rel.inj x id b h3 (by rw [M];simp) (e'▸v0) F)⟩
        ·show s.h.length<=(hZ (dh id s.h) id none).length;rw [LZ,iF];exact aBg _
      ·rw [F]at K;cases K
   ·cases u
  ·cases u
 |call g xs=>
  simp only [SJ]at u;have:=vm y (gU y g) (adf y xs) u;simp only [wrote,hot];exact this
 |_=>simp [SJ]at u
end
section
variable {Hb:AH} {A:Nat->Prop} {ρ:Nat->Option Nat} {Z:Nat->Prop} {H:AH} {h:List (Option LB)} {s:St} {f:AF} {fs:List AF} {α:Type}
structure TC (Z:Nat->Prop) (H:AH) (s:St) (Z':Nat->Prop) (H':AH) (s':St):Prop where
 z: ∀b,Z b->Z' b/\H'.get b=H.get b
 next:H.next<=H'.next
 mR:F9 s.mR s'.mR
theorem TC.refl Z H s:TC Z H s Z H s:=⟨λ_ h=>⟨h,rfl⟩,aBg _,F9.refl _⟩
theorem TC.trans (a:TC Z H s Z' H' s') (b:TC Z' H' s' c d s''):TC Z H s c d s'':=
 ⟨λx h=>by obtain⟨j,k⟩:=a.z x h;obtain⟨l,n⟩:=b.z x j;exact⟨l,by rw [n,k]⟩,aCo a.next b.next,F9.trans a.mR b.mR⟩
theorem Tr.tc (t:Tr c wr ρ Z H s ρ' Z' H' s'):TC Z H s Z' H' s':=⟨t.z,t.next,t.mR⟩
theorem TC.yP (h:s'.mR=s.mR):TC Z H s Z H s':=⟨λ_ h=>⟨h,rfl⟩,aBg _,by rw [h];exact F9.refl _⟩
theorem ayS {cv:Bx α} (u:ala y cv w) (p:SR Hb A ρ Z H s f fs) (a:opL cv ty x op s k=some r):
  ∃lv s' v H' ρ' Z',k lv s'=some r/\dQ w op f H=some (v,H')/\SR Hb A ρ' Z' H' s' f fs/\aC ρ' Z' H' s'.h lv v/\TC Z H s Z' H' s':=by
 cases d:cls op with
 |P=>
  simp only [opL,d]at a;obtain⟨lv,s',v,Z',j,l,⟨n,q⟩,t⟩:=aqA p a;exact⟨lv,s',v,H,ρ,Z',j,by simp only [dQ,d,l],n,t,(q.tr (c:=false) (ρ:=ρ) []).tc⟩
 |R=>
  simp only [opL,d]at a;obtain⟨lv,v,j,l,n⟩:=aw5 p a;exact⟨lv,s,v,H,ρ,Z,j,by simp only [dQ,d,l],p,n,.refl _ _ _⟩
 |A=>
  simp only [opL,d]at a;obtain⟨lv,s',v,b,ρ',Z',j,l,⟨n,q⟩,t⟩:=al6 p a;exact⟨lv,s',v,H.new b,ρ',Z',j,by simp only [dQ,d,l],n,t,q.tc⟩
 |E=>
  simp only [opL,d]at a;obtain⟨lv,s',v,H',ρ',Z',j,l,⟨n,q⟩,t⟩:=aul u p a;exact⟨lv,s',v,H',ρ',Z',j,by simp only [dQ,d,l],n,t,q.tc⟩
theorem aeB (b:SR Hb A ρ Z H s f fs) {d q:St->Option α} (k:afA s x d q=some r):
  ∃c s',f.ev x= .bool c/\SR Hb A ρ Z H s' f fs/\s'.mR=s.mR/\s'.h=s.h/\(∀i,dN s'.cur.r i=dN s.cur.r i)/\s'.cur.n=s.cur.n/\(match c with |true=>d s' |false=>q s')=some r:=by
 unfold afA at k;split at k
 ·rename_i c u;have w:=ajA b u;have l: ∀i,dN (acR s x c).cur.r i=dN s.cur.r i:=λi=>by
   cases x with
   |c v=>rfl
   |t j=>
    show dN ((j,.val .bool c)::s.cur.r) i=_;simp only [dN];cases y:aBc j i with
    |false=>rfl
    |true=>
     have:=aA8 y;subst this;exact u.symm
  have a:(acR s x c).mR=s.mR/\(acR s x c).h=s.h/\(acR s x c).cur.n=s.cur.n:=by cases x<;>exact⟨rfl,rfl,rfl⟩
  have p:SR Hb A ρ Z H (acR s x c) f fs:=by
   refine⟨by rw [a.2.1];exact b.rel,⟨by rw [a.2.2];exact b.cur.1,λi=>by rw [l,a.2.1];exact b.cur.2 i⟩,by rw [a.1,a.2.1];exact b.mR⟩
  refine⟨c,_,w,p,a.1,a.2.1,l,a.2.2, ?_⟩;cases c
  ·exact k
  ·exact k
 ·cases k
theorem Fk {k:St->Option α} (b:re s a lv k=some r) (c:SR Hb A ρ Z H s f fs) (l:aC ρ Z H s.h lv v):
  ∃f' s',f.put a v=some f'/\k s'=some r/\SR Hb A ρ Z H s' f' fs/\((a=none/\f'=f/\s'=s)\/ ∃d,a=some d/\f'=f.p d v/\s'=s.aaG d lv):=by
 cases a with
 |none=>exact⟨f,s,rfl,b,c,.inl ⟨rfl,rfl,rfl⟩⟩
 |some d=>
  simp only [re]at b;cases j:aBS d s.cur.n with
  |false=>rw [j]at b;cases b
  |true=>
   rw [j]at b;refine⟨f.p d v,_,AF.cX f d v ?_,b,c.aaG l,.inr ⟨d,rfl,rfl,rfl⟩⟩;rw [<-c.cur.1];simpa [aCl]using j
theorem Kh {f f':AF} {s s':St} (h:(a=none/\f'=f/\s'=s)\/ ∃d,a=some d/\f'=f.p d v/\s'=s.aaG d lv):s'.mR=s.mR/\s'.h=s.h:=by
 rcases h with⟨_,_,rfl⟩ |⟨d,_,_,rfl⟩<;>exact⟨rfl,rfl⟩
theorem aiW:aC ρ Z H h .und .undef:=by
 simp only [LV.und,aC];exact⟨[],rfl,by simp [ay]⟩
theorem ajX (k:SR Hb A ρ Z H s f fs) {b j a:St->Option α} (c:ah7 s t b j a=some r):(f.get t= .tuple []/\a s=some r)\/afA s (.t t) b j=some r:=by
 unfold ah7 at c;split at c
 ·rename_i n;have d:=k.cur.2 t;rw [n]at d;simp only [aC]at d;obtain⟨l,p,q⟩:=d;cases l with
  |nil=>exact .inl ⟨p,c⟩
  |cons _ _=>simp [ay]at q
 ·exact .inr c
theorem aoK {cv:Bx α} (u:ala pu cv j): ∀ops {ρ} {Z} {H} {s} {f},SR Hb A ρ Z H s f fs->Fg cv ty ops s k=some r->
  ∃s' f' H' ρ' Z',k s'=some r/\bt j ops f H=some (f',H')/\SR Hb A ρ' Z' H' s' f' fs/\TC Z H s Z' H' s'
 | [],ρ,Z,H,s,f,l,d=>⟨s,f,H,ρ,Z,d,rfl,l,.refl _ _ _⟩
 |o::q,ρ,Z,H,s,f,l,d=>by
  have w: ∀ {s:St},SR Hb A ρ Z H s f fs->aT f o.g=true->(opL cv ty o.dst o.op s λv s'=>re s' o.dst v λa=>Fg cv ty q a k)=some r->
    ∃s' f' H' ρ' Z',k s'=some r/\bt j (o::q) f H=some (f',H')/\SR Hb A ρ' Z' H' s' f' fs/\TC Z H s Z' H' s':=λ{s} l F d=>by
   obtain⟨lv,s',v,H',ρ',Z',G,D,I,h4,h5⟩:=ayS u l d;obtain⟨K,L,M,N,O,P⟩:=Fk G I h4;obtain⟨Q,R,S,y,T,U,V,W,Y⟩:=aoK u q O N;exact⟨Q,R,S,y,T,U,by simp only [bt,F,D,M,V],W,h5.trans ((TC.yP (Kh P).1).trans Y)⟩
  have no: ∀ {s:St},SR Hb A ρ Z H s f fs->aT f o.g=false->(re s o.dst .und λa=>Fg cv ty q a k)=some r->
    ∃s' f' H' ρ' Z',k s'=some r/\bt j (o::q) f H=some (f',H')/\SR Hb A ρ' Z' H' s' f' fs/\TC Z H s Z' H' s':=λ{s} l F d=>by
   obtain⟨K,L,M,N,O,P⟩:=Fk (v:= .undef) d l aiW;obtain⟨Q,R,S,y,T,U,V,W,Y⟩:=aoK u q O N;exact⟨Q,R,S,y,T,U,by simp only [bt,F,M,V],W,(TC.yP (Kh P).1).trans Y⟩
  simp only [Fg]at d;split at d
  ·rename_i z;exact w l (by rw [z];rfl) d
  ·rename_i t b z;rcases ajX l d with⟨hu,hd⟩ |d
   ·exact no l (by rw [z];simp [aT,hu]) hd
   obtain⟨c,s',G,D,I,h4,h5,h6,E⟩:=aeB l d;have n:f.get t= .bool c:=G;have p: ∀ {x:St->Prop},(∃a f' H' ρ' Z',k a=some r/\bt j (o::q) f H=some (f',H')/\SR Hb A ρ' Z' H' a f' fs/\TC Z H s' Z' H' a)-> ∃a f' H' ρ' Z',k a=some r/\bt j (o::q) f H=some (f',H')/\SR Hb A ρ' Z' H' a f' fs/\TC Z H s Z' H' a:=λ{_} ⟨L,K,H2,va,Z2,a1,a2,a3,a4⟩=>
    ⟨L,K,H2,va,Z2,a1,a2,a3,(TC.yP I).trans a4⟩
   cases c<;>cases b<;>simp only at E
   ·exact p (x:=λ_=>True) (w D (by rw [z];simp [aT,n]) E)
   ·exact p (x:=λ_=>True) (no D (by rw [z];simp [aT,n]) E)
   ·exact p (x:=λ_=>True) (no D (by rw [z];simp [aT,n]) E)
   ·exact p (x:=λ_=>True) (w D (by rw [z];simp [aT,n]) E)
structure Lvl (d:DS) (Z0:Nat->Prop) (ρ:Nat->Option Nat) (Z:Nat->Prop) (H:AH) (s:St) (f:AF):Prop where
 z0: ∀b,Z0 b->Z b
 ta: ∀i,¬i∈d.ta->aC ρ Z0 H s.h (strip (dN s.cur.r i)) (f.get i)
 cb: ∀id b lvs cs el,id<d.nx-> ¬id∈d.wr->cd s.h id=some (.cells lvs)->ρ id=some b->H.get b=some (.cells cs false el)->ay ρ Z0 H s.h (fk lvs) cs
 sb: ∀id b t l cs el,id<d.nx-> ¬id∈d.wr->cd s.h id=some (.seq t l)->ρ id=some b->H.get b=some (.cells cs false el)->cG Z0 H t l cs
 nx:d.nx<=s.nx\/ ∀id,id<d.nx->id∈d.wr
 mb: ∀id b kl lvs es,id<d.nx-> ¬id∈d.wr->cd s.h id=some (.qW kl lvs)->ρ id=some b->H.get b=some (.map es)->ay ρ Z0 H s.h (fk lvs) (es.map (·.2))
theorem Lvl.start (p:SR Hb A ρ Z H s f fs):Lvl ⟨[],[],s.nx⟩ Z ρ Z H s f:=by
 refine⟨λ_ h=>h,λi _=>(p.cur.2 i).st,λid b lvs v w _ _ j d k=> ?_,λid b t l v w _ _ j d k=> ?_,.inl (aBg _),λid b y lvs z _ _ j d k=> ?_⟩
 ·obtain⟨u,q,r,c,a,n,_⟩:=p.rel.own id _ j;rw [d]at c;cases c;rw [k]at a;cases a;exact ay.st _ n
 ·rcases p.rel.own id _ j with⟨u,q,r,c,a,n⟩ |⟨_,a⟩
  ·rw [d]at c;cases c;rw [k]at a;cases a;exact n
  ·rw [d]at a;cases a
 ·obtain⟨u,x,c,a,_,n⟩:=p.rel.own id _ j;rw [d]at c;cases c;rw [k]at a;cases a;exact ay.st _ n
theorem aa0: ∀ {r} {i},iB (dN r i)=true->i∈GV r
 | [],i,h=>by simp [dN,iB]at h
 |(j,v)::r,i,h=>by
  simp only [dN]at h;simp only [GV];cases a:aBc j i with
  |true=>
   rw [a,cond_true]at h;have:=aA8 a;rw [h];simp [this]
  |false=>
   rw [a,cond_false]at h;have b:=aa0 h;cases iB v
   ·exact b
   ·simp [b]
theorem Lvl.tr (l:Lvl d Z0 ρ Z H s f) (t:Tr c wr ρ Z H s ρ' Z' H' s'):Lvl ⟨cond c (GV s.cur.r++d.ta) d.ta,wr++d.wr,d.nx⟩ Z0 ρ' Z' H' s' f:=by
 have m:Mv (λ_=>True) ρ Z0 H s.h ρ' Z0 H' s'.h:=⟨λb G=>⟨G,(t.z b (l.z0 b G)).2⟩,λid x v _=>absurd trivial v⟩;have y: ∀id,id<d.nx-> ¬id∈wr++d.wr->cd s'.h id≠none-> ¬id∈d.wr/\GD (cd s'.h id)=GD (cd s.h id)/\ρ' id=ρ id/\ ∀b,ρ id=some b->H'.get b=H.get b:=λid n p Q=>by
  simp only [aBZ,not_or]at p;have I:id<s.nx:=by
   rcases l.nx with h |h
   ·exact aB4 n h
   ·exact absurd (h id n) p.2
  exact⟨p.2,t.un id I p.1 Q⟩
 refine⟨λb G=>(t.z b (l.z0 b G)).1,λi P=> ?_,λid b lvs K L n p v q w=> ?_,λid b R S K L n p v q w=> ?_, ?_,λid b U lvs T n p v q w=> ?_⟩
 ·have M: ¬i∈d.ta:=λh=>P (by cases c<;>simp [h])
  rcases t.cur i with⟨n,p⟩ |⟨n,_⟩
  ·subst n;exact absurd (by simp [aa0 p]) P
  ·rw [n];exact(l.ta i M).mv m _ (λid j=>by rw [agR]at j;simp at j)
 ·obtain⟨D,a,E,F⟩:=y id n p (by rw [v];simp);rw [E]at q;rw [F b q]at w;rw [v]at a;cases k:cd s.h id with
  |none=>rw [k]at a;simp [GD]at a
  |some B=>
   rw [k]at a;cases B with
   |seq t l=>simp [GD]at a
   |buf e l=>simp [GD]at a
   |qW _ _=>simp [GD]at a
   |KU _ _=>simp [GD]at a
   |loop _ _ _ _ _ _=>simp [GD]at a
   |cells u=>
    simp only [GD,aBe,LB.cells.injEq]at a;rw [a];exact ay.mv m _ (λid j=>by rw [wK]at j;simp at j) (l.cb id b u K L n D k q w)
 ·obtain⟨D,a,E,F⟩:=y id n p (by rw [v];simp);rw [E]at q;rw [F b q]at w;rw [v]at a;cases k:cd s.h id with
  |none=>rw [k]at a;simp [GD]at a
  |some B=>
   rw [k]at a;cases B with
   |cells l=>simp [GD]at a
   |buf e l=>simp [GD]at a
   |qW _ _=>simp [GD]at a
   |KU _ _=>simp [GD]at a
   |loop _ _ _ _ _ _=>simp [GD]at a
   |seq V W=>
    simp only [GD,aBe]at a;rw [<-a]at k;exact(l.sb id b R S K L n D k q w).mono m.z
 ·rcases l.nx with h |h
  ·rcases t.nx with N |N
   ·exact .inl (aCo h N)
   ·exact .inr λid j=>by simp only [aBZ];exact .inl (N id (aB4 j h))
  ·exact .inr λid j=>by simp only [aBZ];exact .inr (h id j)
 ·obtain⟨D,a,E,F⟩:=y id n p (by rw [v];simp);rw [E]at q;rw [F b q]at w;rw [v]at a;cases k:cd s.h id with
  |none=>rw [k]at a;simp [GD]at a
  |some B=>
   rw [k]at a;cases B with
   |seq t l=>simp [GD]at a
   |buf e l=>simp [GD]at a
   |cells _=>simp [GD]at a
   |KU _ _=>simp [GD]at a
   |loop _ _ _ _ _ _=>simp [GD]at a
   |qW O u=>
    simp only [GD,aBe,LB.qW.injEq]at a;rw [a.2];exact ay.mv m _ (λid j=>by rw [wK]at j;simp at j) (l.mb id b O u T n D k q w)
theorem Lvl.wr0 (l:Lvl d Z0 ρ Z H s f) (t:Tr false [] ρ Z H s ρ' Z' H' s'):Lvl d Z0 ρ' Z' H' s' f:=l.tr t
theorem Lvl.set (l:Lvl d Z0 ρ Z H s f) (h:(a=none/\f'=f/\s'=s)\/ ∃d,a=some d/\f'=f.p d v/\s'=s.aaG d lv) (c:t=false->aC ρ Z0 H s.h (strip lv) v):
  Lvl (d.ra t a) Z0 ρ Z H s' f':=by
 rcases h with⟨rfl,rfl,rfl⟩ |⟨i,rfl,rfl,rfl⟩
 ·refine⟨l.z0,λi k=>l.ta i λh=>k ?_,l.cb,l.sb,l.nx,l.mb⟩;cases t<;>simpa [DS.ra,aod]using h
 ·refine⟨l.z0,λj b=> ?_,l.cb,l.sb,l.nx,l.mb⟩;show aC ρ Z0 H s.h (strip (dN ((i,lv)::s.cur.r) j)) ((f.p i v).get j);simp only [dN];by_cases e:j=i
  ·subst e;rw [show aBc j j=true by simp [aBK],cond_true,AF.aft];cases t with
   |false=>exact c rfl
   |true=>exact absurd (by simp [DS.ra,aod]) b
  ·rw [show aBc i j=false from beq_false (λh=>e h.symm),cond_false,AF.adF _ _ _ _ e];refine l.ta j λh=>b ?_
   cases t<;>simp [DS.ra,aod,h]
theorem L0 (l:Lvl d Z0 ρ Z H s f) (k:d.hit op=false): ∀x∈sV op,aC ρ Z0 H s.h (strip (dN s.cur.r x)) (f.get x):=by
 have j: ∀(m l:List Nat),axs l m=false-> ∀x∈l,¬x∈m:=by
  intro m l;induction l with
  |nil=>intro _ x a;simp at a
  |cons i is n=>
   intro b x a;simp only [axs]at b;cases c:Ps i m with
   |true=>rw [c]at b;cases b
   |false=>
    rw [c]at b;rcases List.mem_cons.1 a with rfl |a
    ·intro p;rw [tx.2 p]at c;cases c
    ·exact n b x a
 intro x a;exact l.ta x (j d.ta (sV op) k x a)
theorem Rc x (a: ∀i∈yK x,aC ρ Z0 H s.h (strip (dN s.cur.r i)) (f.get i)):aC ρ Z0 H s.h (strip (oS s.cur x)) (f.ev x):=by
 cases x with
 |t i=>exact a i (by simp [yK])
 |c v=>exact(Nt v).st
theorem Ii: ∀ {l} {i} {x},Q3 l i=some x->Q3 (fk l) i=some (strip x)
 | [],i,x,h=>by simp [Q3]at h
 |v::vs,0,x,h=>by simp [Q3]at h;subst h;simp [fk,Q3]
 |v::vs,i+1,x,h=>by simp only [Q3]at h;simp only [fk,Q3];exact Ii h
theorem Ke: ∀n l,fk (l.drop n)=(fk l).drop n
 |0,l=>ab
 |n+1,[]=>by simp [fk]
 |n+1,v::vs=>by simp [fk,Ke n vs]
theorem Kp: ∀n l,fk (l.take n)=(fk l).take n
 |0,l=>by simp [fk]
 |n+1,[]=>by simp [fk]
 |n+1,v::vs=>by simp [fk,Kp n vs]
theorem aho (q:MZ Z H t.w (λx c=>eC Z H t x c) l a) (j:l[n]? =some x):
  ∃b o cap ex,a= .slice (some (b,o)) l.length cap ex/\aC ρ Z H h (.iX (aE t x) 0) (.ptr (some (b,o+n*t.w))):=by
 have k:=(List.getElem?_eq_some_iff.1 j).1;rcases q with⟨rfl,_⟩ |⟨b,o,cap,ex,d,r,u,D,E,v,y,F,z⟩
 ·simp at j
 ·refine⟨b,o,cap,ex,u, ?_⟩;simp only [aC];have p:o+n*t.w+t.w<=d.length:=by
   have:=aBi t.w (show n+1<=l.length from k);rw [aCm]at this;omega
  refine⟨b,o+n*t.w,d,r,ab,v,y,by rw [lE];exact p, ?_⟩;rw [lE];exact kE t (z n x j)
theorem azd (W:SR Hb A ρ Z H s f fs) {k:LV->St->Option α} (hp:pas op=true) (d:mU op s k=some r):
  ∃lv v,k lv s=some r/\aw op f=some v/\aC ρ Z H s.h lv v/\ ∀Z0,(∀x∈sV op,aC ρ Z0 H s.h (strip (dN s.cur.r x)) (f.get x))->aC ρ Z0 H s.h (strip lv) v:=by
 cases op with
 |mv x=>exact⟨_,_,d,rfl,gU W x,λZ0 h=>Rc x (by simpa [sV]using h)⟩
 |fld I n ag x=>
  simp only [mU]at d;split at d
  ·rename_i cs u;have q:=gU W x;rw [u]at q;simp only [aC]at q;obtain⟨l',e,q⟩:=q;have st: ∀Z0,(∀y∈sV (.fld I n ag x),aC ρ Z0 H s.h (strip (dN s.cur.r y)) (f.get y))->ay ρ Z0 H s.h (fk cs) l':=λZ0 O=>by
    have:=Rc (ρ:=ρ) (H:=H) (s:=s) (f:=f) (Z0:=Z0) x (by simpa [sV]using O);rw [u,e]at this;simp only [strip,aC]at this;obtain⟨l2,Y,D⟩:=this;cases Y;exact D
   cases ag with
   |true=>
    obtain⟨z,D⟩:=EI d;refine⟨_,.agg ((l'.drop I).take n),D, ?_, ?_,λZ0 O=> ?_⟩
    ·simp only [aw,e,Bn,<-q.len,z];rfl
    ·simp only [aC];exact⟨_,rfl,ay.take n (ay.drop I q)⟩
    ·simp only [strip,aC,Kp,Ke];exact⟨_,rfl,ay.take n (ay.drop I (st Z0 O))⟩
   |false=>
    obtain⟨v,z,D⟩:=uR d;obtain⟨a,Q,h4⟩:=q.nth z;refine⟨v,a,D,by simp only [aw,e,Bn];exact Q,h4,λZ0 O=> ?_⟩;obtain⟨a2,g3,g4⟩:=(st Z0 O).nth (Ii z);rw [Q]at g3;cases g3;exact g4
  ·cases d
 |ext x i=>
  simp only [mU]at d;split at d
  ·rename_i vs u;have q:=gU W x;rw [u]at q;simp only [aC]at q;obtain⟨l',e,q⟩:=q;obtain⟨v,z,D⟩:=uR d;obtain⟨a,Q,h4⟩:=q.nth z;refine⟨v,a,D,by simp only [aw,e];exact Q,h4,λZ0 O=> ?_⟩;have:=Rc (ρ:=ρ) (H:=H) (s:=s) (f:=f) (Z0:=Z0) x (by simpa [sV]using O);rw [u,e]at this;simp only [strip,aC]at this;obtain⟨l2,Y,hs⟩:=this;cases Y;obtain⟨a2,g3,g4⟩:=hs.nth (Ii z);rw [Q]at g3;cases g3;exact g4
  ·cases d
 |AL E x i=>
  simp only [mU]at d;have vg:=Et d;clear d;obtain⟨ik,n,hi,d⟩:=vg;have va:=vX W hi;have q:=gU W x;have vd: ∀ {t:Ty} {l:List t.Den} {v:LV},oS s.cur x=v->(∀(Z1:Nat->Prop),aC ρ Z1 H s.h (strip v) (f.ev x)->MZ Z1 H t.w (λx c=>eC Z1 H t x c) l (f.ev x))->aC ρ Z H s.h (strip v) (f.ev x)->E=t.w->((dW l n).bind λx=>k (.iX (aE t x) 0) s)=some r->
    ∃lv v,k lv s=some r/\aw (.AL E x i) f=some v/\aC ρ Z H s.h lv v/\ ∀Z0,(∀y∈sV (.AL E x i),aC ρ Z0 H s.h (strip (dN s.cur.r y)) (f.get y))->aC ρ Z0 H s.h (strip lv) v:=λ{t l v} hv V vh R ve=>by
   clear d;rw [aB9]at ve;obtain⟨y,hy,d⟩:=ve;obtain⟨m,rfl,hm,P⟩:=ZX hy;obtain⟨b,o,vl,ex,e,z⟩:=aho (ρ:=ρ) (h:=s.h) (V Z vh) hm;refine⟨_,.ptr (some (b,o+m*t.w)),d, ?_,z,λZ0 O=> ?_⟩
   ·simp only [aw,va,e,px,ba,R];rw [show aBS m l.length=true by simpa [aCl]using P];rfl
   ·have F:=Rc (ρ:=ρ) (H:=H) (s:=s) (f:=f) (Z0:=Z0) x (λj hj=>O j (by simp [sV,hj]));rw [hv]at F;obtain⟨b2,o2,vk,vm,Y,D⟩:=aho (ρ:=ρ) (h:=s.h) (V Z0 F) hm;rw [e]at Y;simp only [AV.slice.injEq,aBe,aBk]at Y;obtain⟨⟨rfl,rfl⟩,_,_,_⟩:=Y;exact D.st
  split at d
  ·rename_i t l u;cases K:aBc E t.w with
   |false=>rw [K]at d;cases d
   |true=>
    rw [K,cond_true]at d;refine vd u (λZ1 F=> ?_) (by rw [u]at q;exact q.st) (aA8 K) d;simp only [strip,aC]at F;obtain⟨v,e,F⟩:=F;cases e;exact F
  ·rename_i t l u;cases K:aBc E t.w with
   |false=>rw [K]at d;cases d
   |true=>
    rw [K,cond_true]at d;refine vd u (λZ1 F=> ?_) (by rw [u]at q;exact q.st) (aA8 K) d;simp only [strip]at F;obtain⟨v,e,F⟩:=DF F;cases e;exact F
  ·rename_i id u;rw [u]at q;split at d
   ·rename_i t l vc;cases K:aBc E t.w with
    |false=>rw [K]at d;cases d
    |true=>
     rw [K,cond_true]at d;have R:=aA8 K;cases G:C4 n l.length with
     |false=>rw [G]at d;cases d
     |true=>
      rw [G]at d;simp only [C4,dD,bZ,aA5,decide_eq_true_eq]at G;obtain⟨j,rfl⟩: ∃j:Nat,n=j:=⟨n.toNat,(aCj G.1).symm⟩;have P:j<l.length:=aa
      simp only [aC]at q;obtain⟨t',m,z,D⟩:=q;have L:=z;rw [vc]at L;simp only [vU,aBe,aBk]at L;obtain⟨rfl,rfl⟩:=L;rcases D with⟨b,ex,T,g2,g3⟩ |⟨T,_⟩
      ·refine⟨_,.ptr (some (b,j*t.w)),d, ?_, ?_,λZ0 _=>by simp [strip,aC]⟩
       ·simp only [aw,va,g2,px,ba,aBh,R];rw [show aBS j l.length=true by simpa [aCl]using P];rfl
       ·simp only [aC];exact⟨t,l.length,b,z,T,by simpa using P,ab⟩
      ·omega
   ·cases d
  ·rename_i id vf n0 u;rw [u]at q;split at d
   ·rename_i t l vc;cases K:aBc E t.w with
    |false=>rw [K]at d;cases d
    |true=>
     rw [K,cond_true]at d;have R:=aA8 K;cases G:(dD 0 n&&bZ n n0)with
     |false=>rw [G]at d;cases d
     |true=>
      rw [G]at d;simp only [dD,bZ,aA5,decide_eq_true_eq]at G;simp only [aC]at q;obtain⟨t',N,z,⟨p1,p2,p3⟩,D⟩:=q;have L:=z;rw [vc]at L;simp only [vU,aBe,aBk]at L;obtain⟨rfl,rfl⟩:=L;obtain⟨j,rfl⟩: ∃j:Nat,n=j:=⟨n.toNat,(aCj G.1).symm⟩;obtain⟨a,rfl⟩: ∃a:Nat,vf=a:=⟨vf.toNat,aa⟩;obtain⟨m,rfl⟩: ∃a:Nat,n0=a:=⟨n0.toNat,aa⟩;have P:j<m:=aa
      rcases D with⟨b,ex,T,g2,g3⟩ |⟨T,_⟩
      ·refine⟨_,.ptr (some (b,a*t.w+j*t.w)),d, ?_, ?_,λZ0 _=>by simp [strip,aC]⟩
       ·simp only [aw,va,g2,px,ba,R,aCn];rw [show aBS j m=true by simpa [aCl]using P];rfl
       ·simp only [aC];refine⟨t,l.length,b,z,T,aa, ?_⟩;rw [show((a:Int)+(j:Int)).toNat=a+j by omega,Nat.add_mul,aCd]
      ·omega
   ·cases d
  ·cases d
 |qF I x=>
  simp only [mU]at d;have q:=gU W x;split at d
  ·rename_i id o u;rw [u]at q;simp only [aC]at q;obtain⟨m,b,z,D,Q⟩:=q;refine⟨_,.ptr (some (b,o+I)),d,by simp only [aw,Q,ba], ?_,λZ0 _=>by simp [strip,aC]⟩;simp only [aC];exact⟨m,b,z,D,rfl⟩
  ·rename_i id i o u;rw [u]at q;simp only [aC]at q;obtain⟨t,n,b,z,D,Q,h4⟩:=q;refine⟨_,.ptr (some (b,i*t.w+(o+I))),d,by simp only [aw,h4,ba,Nat.add_assoc], ?_,λZ0 _=>by simp [strip,aC]⟩;simp only [aC];exact⟨t,n,b,z,D,Q,rfl⟩
  ·rename_i cs o u;rw [u]at q;simp only [aC]at q;obtain⟨b,p,S,el,z,D⟩:=q;refine⟨_,.ptr (some (b,p+(o+I))),d,by simp only [aw,z,ba,Nat.add_assoc], ?_,λZ0 O=> ?_⟩
   ·simp only [aC];exact⟨b,p,S,el,rfl,D⟩
   ·have:=Rc (ρ:=ρ) (H:=H) (s:=s) (f:=f) (Z0:=Z0) x (by simpa [sV]using O);rw [u,z]at this;simp only [strip,aC]at this⊢;obtain⟨b2,p2,U,vj,T,g2⟩:=this;simp only [AV.ptr.injEq,aBe,aBk]at T;obtain⟨rfl,T⟩:=T;have:p2=p:=aa
    subst this;exact⟨b,p2,U,vj,rfl,g2⟩
  ·cases d
 |GN x=>
  simp only [mU]at d;have q:=gU W x;have F: ∀Z0,(∀y∈sV (.GN x),aC ρ Z0 H s.h (strip (dN s.cur.r y)) (f.get y))->aC ρ Z0 H s.h (strip (oS s.cur x)) (f.ev x):=λZ0 O=>Rc x (by simpa [sV]using O)
  split at d
  ·rename_i id o u;rw [u]at q F;have M:=q;simp only [aC]at q;obtain⟨m,b,z,D,Q⟩:=q;exact⟨_,f.ev x,d,by simp only [aw,Q],M,F⟩
  ·rename_i id i o u;rw [u]at q F;have M:=q;simp only [aC]at q;obtain⟨t,n,b,z,D,Q,h4⟩:=q;exact⟨_,f.ev x,d,by simp only [aw,h4],M,F⟩
  ·rename_i cs o u;rw [u]at q F;have M:=q;simp only [aC]at q;obtain⟨b,p,S,el,z,D⟩:=q;exact⟨_,f.ev x,d,by simp only [aw,z],M,F⟩
  ·rename_i g a b u;rw [u]at q F;have M:=q;simp only [aC]at q;obtain⟨a',b',z,D⟩:=q;exact⟨_,f.ev x,d,by simp only [aw,z],M,F⟩
  ·cases d
 |_=>simp [pas]at hp
end
section
variable {Hb:AH} {A:Nat->Prop} {ρ:Nat->Option Nat} {Z:Nat->Prop} {H:AH} {h:List (Option LB)} {s:St} {f:AF} {fs:List AF} {α:Type}
theorem RA {d:DS} {id} (a:(aBS id d.nx&& !Ps id d.wr)=true):id<d.nx/\ ¬id∈d.wr:=by
 simp only [aA5,aCb,aCl]at a;exact⟨a.1,λb=>by rw [tx.2 b]at a;cases a.2⟩
theorem atY (Q:SR Hb A ρ Z H s f fs) {k:LV->Option α} (q:EU op s k=some r):
  ∃lv v,k lv=some r/\aR op f H=some v/\aC ρ Z H s.h lv v/\ ∀d Z0,Lvl d Z0 ρ Z H s f->d.hit op=false->AY d s op=true->aC ρ Z0 H s.h (strip lv) v:=by
 cases op with
 |ng a=>
  simp only [EU]at q;have D:=gU Q a;split at q
  ·rename_i id o E;rw [E]at D;split at q
   ·rename_i M G;obtain⟨b,aCL,T,U,h2,h3⟩:=oq Q G;simp only [aC]at D;obtain⟨m,b',I,F,N⟩:=D;rw [U]at F;cases F;obtain⟨v,L,R⟩:=uR q;obtain⟨a',h6,h7⟩:=h3.nth L;refine⟨v,a',R,by simp only [aR,N,h2];exact h6,h7,λd Z0 O hh K=> ?_⟩;simp only [AY,E]at K;obtain⟨Y,w2⟩:=RA K;obtain⟨a2,V,p5⟩:=(O.cb id b M aCL T Y w2 G U h2).nth (Ii L);rw [h6]at V;cases V;exact p5
   ·cases q
  ·rename_i id i o E;rw [E]at D;split at q
   ·rename_i t l G;simp only [aB9]at q;obtain⟨x,S,q⟩:=q;obtain⟨v,L,R⟩:=uR q;simp only [aC]at D;obtain⟨t',n,b,I,F,N,g4⟩:=D;rw [G]at I;simp only [vU,aBe,aBk]at I;obtain⟨rfl,rfl⟩:=I;rcases Q.rel.own id _ G with⟨b',M,T,W,P,q3⟩ |⟨W,P⟩
    ·rw [F]at W;cases W;have hc:=q3.2 i x S;obtain⟨a',h6,h7⟩:=(kE (ρ:=ρ) (h:=s.h) t hc).nth L;have vc:=WK L;rw [lE]at vc;refine⟨v,a',R,by simp only [aR,g4,P];exact Bh vc h6,h7,λd Z0 O hh K=> ?_⟩;simp only [AY,E]at K;obtain⟨Y,w2⟩:=RA K;obtain⟨a2,V,p5⟩:=(kE (ρ:=ρ) (h:=s.h) t ((O.sb id b t l M T Y w2 G F P).2 i x S)).nth L;rw [h6]at V;cases V;exact p5.st
    ·rw [F]at P;cases P
   ·cases q
  ·rename_i M o E;rw [E]at D;simp only [aC]at D;obtain⟨b,p,u,T,I,F,N,g4,g5⟩:=D;obtain⟨v,L,R⟩:=uR q;obtain⟨a',h6,h7⟩:=g5.nth L;refine⟨v,a',R,by simp only [aR,I,N];exact Bh (WK L) h6,h7,λd Z0 O hh K=> ?_⟩;have hz:=Rc (ρ:=ρ) (H:=H) (s:=s) (f:=f) (Z0:=Z0) a (by simpa [sV]using L0 O hh);rw [E,I]at hz;simp only [strip,aC]at hz;obtain⟨b2,p2,va,vd,e1,e2,e3,e4,e5⟩:=hz;simp only [AV.ptr.injEq,aBe,aBk]at e1;obtain⟨rfl,e1⟩:=e1;have:p2=p:=aa
   subst this;rw [N]at e3;simp only [aBe,AB.cells.injEq]at e3;obtain⟨rfl,_,_⟩:=e3;rw [IG]at e5;obtain⟨a2,V,p5⟩:=e5.nth (Ii L);rw [h6]at V;cases V;exact p5
  ·cases q
 |yS n a=>
  simp only [EU]at q;have D:=gU Q a;split at q
  ·rename_i id o E;rw [E]at D;split at q
   ·rename_i M G;obtain⟨b,aCL,T,U,h2,h3⟩:=oq Q G;simp only [aC]at D;obtain⟨m,b',I,F,N⟩:=D;rw [U]at F;cases F;obtain⟨L,R⟩:=EI q;refine⟨_,.agg ((aCL.drop o).take n),R, ?_, ?_,λd Z0 O hh K=> ?_⟩
    ·simp only [aR,N,db,h2,<-h3.len,L];rfl
    ·simp only [aC];exact⟨_,rfl,ay.take n (ay.drop o h3)⟩
    ·simp only [AY,E]at K;obtain⟨Y,w2⟩:=RA K;simp only [strip,aC,Kp,Ke];exact⟨_,rfl,ay.take n (ay.drop o (O.cb id b M aCL T Y w2 G U h2))⟩
   ·cases q
  ·rename_i id i o E;rw [E]at D;split at q
   ·rename_i t l G;simp only [aB9]at q;obtain⟨x,S,q⟩:=q;obtain⟨L,R⟩:=EI q;rw [lE]at L;have ve:o+n<=t.w:=by simpa [aBF]using L
    simp only [aC]at D;obtain⟨t',m,b,I,F,N,g4⟩:=D;rw [G]at I;simp only [vU,aBe,aBk]at I;obtain⟨rfl,rfl⟩:=I;rcases Q.rel.own id _ G with⟨b',M,T,W,P,q3⟩ |⟨W,P⟩
    ·rw [F]at W;cases W;have hc:=q3.2 i x S;have vg:i*t.w+t.w<=M.length:=by
      rw [q3.1];have:=aBi t.w (show i+1<=l.length from N);rw [aCm]at this;exact this
     have e:(M.drop (i*t.w+o)).take n=((((M.drop (i*t.w)).take t.w)).drop o).take n:=by
      rw [aB8,aBY,aB0,aBu aa]
     refine⟨_,.agg ((M.drop (i*t.w+o)).take n),R, ?_, ?_,λd Z0 O hh K=> ?_⟩
     ·simp only [aR,g4,db,P];rw [show aBD (i*t.w+o+n) M.length=true by simp [aBF];omega];rfl
     ·simp only [aC];refine⟨_,rfl, ?_⟩;rw [e];exact ay.take n (ay.drop o (kE t hc))
     ·simp only [AY,E]at K;obtain⟨Y,w2⟩:=RA K;have hz:=(kE (ρ:=ρ) (h:=s.h) t ((O.sb id b t l M T Y w2 G F P).2 i x S));refine aC.st _ ?_;simp only [aC];refine⟨_,rfl, ?_⟩;rw [e];exact ay.take n (ay.drop o hz)
    ·rw [F]at P;cases P
   ·cases q
  ·rename_i M o E;rw [E]at D;simp only [aC]at D;obtain⟨b,p,u,T,I,F,N,g4,g5⟩:=D;obtain⟨L,R⟩:=EI q;have ve:o+n<=M.length:=by simpa [aBF]using L
   have e:(u.drop (p+o)).take n=(((u.drop p).take M.length).drop o).take n:=by
    rw [aB8,aBY,aB0,aBu aa]
   refine⟨_,.agg ((u.drop (p+o)).take n),R, ?_, ?_,λd Z0 O hh K=> ?_⟩
   ·simp only [aR,I,db,N];rw [show aBD (p+o+n) u.length=true by simp [aBF];omega];rfl
   ·simp only [aC];refine⟨_,rfl, ?_⟩;rw [e];exact ay.take n (ay.drop o g5)
   ·have hz:=Rc (ρ:=ρ) (H:=H) (s:=s) (f:=f) (Z0:=Z0) a (by simpa [sV]using L0 O hh);rw [E,I]at hz;simp only [strip,aC]at hz;obtain⟨b2,p2,va,vd,e1,e2,e3,e4,e5⟩:=hz;simp only [AV.ptr.injEq,aBe,aBk]at e1;obtain⟨rfl,e1⟩:=e1;have:p2=p:=aa
    subst this;rw [N]at e3;simp only [aBe,AB.cells.injEq]at e3;obtain⟨rfl,_,_⟩:=e3;rw [IG]at e5;simp only [strip,aC,Kp,Ke];refine⟨_,rfl, ?_⟩;rw [e];exact ay.take n (ay.drop o e5)
  ·cases q
 |conv c x=>
  cases c with
  |bytes=>
   simp only [EU]at q;have D:=gU Q x;obtain⟨l,U,h2⟩:=EZ Q.rel q D;cases ha:um l with
   |false=>rw [ha]at U;cases U
   |true=>
    rw [ha]at U;obtain⟨v,e,h3⟩:=h2 (λ_=>True) ⟨λ_ _=>trivial,λ_ _=>trivial⟩;cases e;refine⟨_,.str (ofBytes l),U, ?_,Vc,λ_ _ _ _ _=>by simp only [strip];exact Vc⟩;rcases h3 with⟨rfl,e⟩ |⟨b,o,vh,ex,u,T,e,F,N,g4,g5,g6,g7⟩
    ·simp only [aR,e];rfl
    ·have K:cG (λ_=>True) H (.int .u8) l ((u.drop o).take l.length):=by
      simp only [Ty.w]at g6 g7;refine⟨by rw [aBL,aBN];simp [Ty.w];omega,λj y hy=> ?_⟩;have:=g7 j y hy;have hj:j<l.length:=(List.getElem?_eq_some_iff.1 hy).1;simp only [Ty.w]at this⊢;rw [aB8,aBY,aB0,aBu aa];simpa using this
     have G:=XO K ha;simp only [aR,e,db,g5];simp only [Ty.w]at g6;rw [show aBD (o+l.length) u.length=true by simp [aBF];omega];simp only [cond_true,G]
  |_=>simp [EU]at q
 |look z ok ks m x=>
  simp only [EU]at q;have D:=gU Q m;split at q
  ·rename_i id i n he E;rw [he]at D;split at q
   ·rename_i kl vs G;cases hc:(!ks&&IntKind.same i .u8)with
    |false=>rw [hc]at q;cases q
    |true=>
     rw [hc,cond_true]at q;simp only [aA5,aCb]at hc;obtain⟨rfl,hi⟩:=hc;have hi:=IntKind.dG hi;subst hi;have vf:=vX Q E;obtain⟨b,es,I,F,N,g4⟩:=ajd Q G;simp only [aC]at D;obtain⟨_,b',_,W,P⟩:=D;rw [I]at W;cases W;obtain⟨lv,v,p1,p2,p3,V⟩:=adQ (Nt z) N g4 q;refine⟨lv,v,p1, ?_,p3,λd Z0 O hh K=> ?_⟩
     ·simp only [aR,P,F,vf,C7,cond_true];exact p2
     ·simp only [AY,he]at K;obtain⟨Y,w2⟩:=RA K;exact V Z0 (Nt z).st (O.mb id b kl vs es Y w2 G I F)
   ·cases q
  ·cases q
 |_=>simp [EU]at q
theorem ZD.tr (l:Lvl d Z0 ρ Z H s f) (t:Tr c wr ρ Z H s ρ' Z' H' s') (a:ZD d ρ Z0 s.h H v):ZD ⟨cond c (GV s.cur.r++d.ta) d.ta,wr++d.wr,d.nx⟩ ρ' Z0 s'.h H' v:=by
 refine⟨λb q=>by rw [(t.z b (l.z0 b q)).2];exact a.1 b q,λid b k j u n=> ?_⟩;simp only [aBZ,not_or]at j;have p:id<s.nx:=by
  rcases l.nx with h |h
  ·exact aB4 k h
  ·exact absurd (h id k) j.2
 obtain⟨w,x,y⟩:=t.un id p j.1 u;rw [x]at n;rw [y b n];exact a.2 id b k j.2 (ac4 u w) n
theorem ag1: ∀ {l},(∀e g,(e,g)∈l->aR op f g=some v)->bJ op f v m l=true
 | [],_=>rfl
 |(e,g)::l,h=>by
  simp only [bJ,h e g ab,AV.aV,Bool.true_and];cases Nat.testBit m e with
  |true=>rfl
  |false=>exact ag1 λe g a=>h e g (by simp [a])
structure HI (d0 d1:DS) (Z0 Z1:Nat->Prop) (ρ:Nat->Option Nat) (Z:Nat->Prop) (H:AH) (s:St) (f:AF) (ev:Nat) (aBs:List (Nat×AH)):Prop where
 l0:Lvl d0 Z0 ρ Z H s f
 l1:Lvl d1 Z1 ρ Z H s f
 hd: ∃g aBx,aBs=(ev,g)::aBx/\ZD d1 ρ Z1 s.h H g
 all: ∀e g,(e,g)∈aBs->ZD d0 ρ Z0 s.h H g
theorem apG (a:ail lv=true) (b:aC ρ Z H h lv v):aC ρ Z0 H h (strip lv) v:=by
 cases lv with
 |val t x=>cases t<;>first |(simp [ail]at a;done) |(simpa [strip,aC,eC]using b)
 |p6=>simp [strip,aC]
 |_=>simp [ail]at a
theorem N8 {cv:Bx α} (S:ala W cv Y): ∀vd {ρ} {Z Z0 T} {H} {s} {f} {u z} {L} {a},
  SR Hb A ρ Z H s f fs->HI u z Z0 T ρ Z H s f L a->EX cv W ty ops vd s u z L k=some r->
  ∃s' f' H' ρ' Z',k s'=some r/\cW Y ops vd f H a=some (f',H')/\SR Hb A ρ' Z' H' s' f' fs/\TC Z H s Z' H' s'
 | [],ρ,Z,Z0,T,H,s,f,u,z,L,a,M,p,w=>⟨s,f,H,ρ,Z,w,rfl,M,.refl _ _ _⟩
 |(i,m)::n,ρ,Z,Z0,T,H,s,f,u,z,L,a,M,p,w=>by
  simp only [EX]at w;split at w
  ·cases w
  ·rename_i o ho;have ve: ∀ {s:St},SR Hb A ρ Z H s f fs->HI u z Z0 T ρ Z H s f L a->aT f o.g=true->
     (match cls o.op with
      | .P=>
       match pas o.op with
       |true=>mU o.op s λv s'=>re s' o.dst v λq=>EX cv W ty ops n q (u.ra (u.hit o.op) o.dst) (z.ra (z.hit o.op) o.dst) L k
       |false=>mU o.op s λv s'=>re s' o.dst v λq=>EX cv W ty ops n q (u.ra (!ail v) o.dst) (z.ra (!ail v) o.dst) L k
      | .R=>
       cond (!z.hit o.op&&AY z s o.op&&(Nat.testBit m L ||(!u.hit o.op&&AY u s o.op))) (EU o.op s λv=>re s o.dst v λq=>EX cv W ty ops n q (u.ra (!(!u.hit o.op&&AY u s o.op)) o.dst) z L k) none
      | .A=>UO ty o.dst o.op s λv s'=>re s' o.dst v λq=>EX cv W ty ops n q (u.ra true o.dst) (z.ra true o.dst) L k
      | .E=>SJ cv ty o.dst o.op s λv s'=>re s' o.dst v λq=>EX cv W ty ops n q ⟨aod o.dst++cond (hot W s o.op) (GV s.cur.r++u.ta) u.ta,wrote W s o.op++u.wr,u.nx⟩ ⟨[],[],q.nx⟩ i k)=some r->
     ∃s' f' H' ρ' Z',k s'=some r/\cW Y ops ((i,m)::n) f H a=some (f',H')/\SR Hb A ρ' Z' H' s' f' fs/\TC Z H s Z' H' s':=λ{s} M p hw w=>by
    cases hc:cls o.op with
    |P=>
     rw [hc]at w;simp only at w;cases hp:pas o.op with
     |true=>
      rw [hp]at w;simp only at w;obtain⟨lv,v,h1,U,h3,D⟩:=azd M hp w;obtain⟨O,N,g1,g2,V,K⟩:=Fk h1 M h3;obtain⟨e1,Q⟩:=Kh K;have x:HI (u.ra (u.hit o.op) o.dst) (z.ra (z.hit o.op) o.dst) Z0 T ρ Z H N O L a:=by
       refine⟨p.l0.set K λht=>D Z0 (L0 p.l0 ht),p.l1.set K λht=>D T (L0 p.l1 ht), ?_,λe g y=>by rw [Q];exact p.all e g y⟩;obtain⟨g,j,F,G⟩:=p.hd;exact⟨g,j,F,by rw [Q];exact G⟩
      obtain⟨s3,f3,H3,I,Z3,F,G,q3,q4⟩:=N8 S n V x g2;refine⟨s3,f3,H3,I,Z3,F, ?_,q3,(TC.yP e1).trans q4⟩;simp only [cW,ho,hw,hc,U,g1,G]
     |false=>
      rw [hp]at w;simp only at w;obtain⟨lv,s',v,Z',h1,U,⟨h3,D⟩,h5⟩:=aqA M w;obtain⟨O,N,g1,g2,V,K⟩:=Fk h1 h3 h5;obtain⟨e1,Q⟩:=Kh K;have ht:=D.tr (c:=false) (ρ:=ρ) (H:=H) [];have x:HI (u.ra (!ail lv) o.dst) (z.ra (!ail lv) o.dst) Z0 T ρ Z' H N O L a:=by
       refine⟨(p.l0.wr0 ht).set K λhs=>apG (by simpa using hs) h5,(p.l1.wr0 ht).set K λhs=>apG (by simpa using hs) h5, ?_,λe g y=>by rw [Q];exact(p.all e g y).tr p.l0 ht⟩;obtain⟨g,j,F,G⟩:=p.hd;exact⟨g,j,F,by rw [Q];exact G.tr p.l1 ht⟩
      obtain⟨s3,f3,H3,I,Z3,F,G,q3,q4⟩:=N8 S n V x g2;refine⟨s3,f3,H3,I,Z3,F, ?_,q3,ht.tc.trans ((TC.yP e1).trans q4)⟩;simp only [cW,ho,hw,hc,U,g1,G]
    |R=>
     rw [hc]at w;simp only at w;cases hq:(!z.hit o.op&&AY z s o.op&&(Nat.testBit m L ||(!u.hit o.op&&AY u s o.op)))with
     |false=>rw [hq]at w;cases w
     |true=>
      rw [hq]at w;simp only [aA5,aCb,Bool.or_eq_true]at hq;obtain⟨⟨w1,w2⟩,w3⟩:=hq;obtain⟨lv,v,h1,U,h3,D⟩:=atY M w;obtain⟨O,N,g1,g2,V,K⟩:=Fk h1 M h3;obtain⟨e1,Q⟩:=Kh K;have x:HI (u.ra (!(!u.hit o.op&&AY u s o.op)) o.dst) z Z0 T ρ Z H N O L a:=by
       have vf:Lvl (z.ra false o.dst) T ρ Z H N O:=p.l1.set K λ_=>D z T p.l1 w1 w2
       refine⟨p.l0.set K λht=> ?_,vf, ?_,λe g y=>by rw [Q];exact p.all e g y⟩
       ·have vg:(!u.hit o.op&&AY u s o.op)=true:=by simpa using ht
        simp only [aA5,aCb]at vg;exact D u Z0 p.l0 vg.1 vg.2
       ·obtain⟨g,j,F,G⟩:=p.hd;exact⟨g,j,F,by rw [Q];exact G⟩
      obtain⟨s3,f3,H3,I,Z3,F,G,q3,q4⟩:=N8 S n V x g2;refine⟨s3,f3,H3,I,Z3,F, ?_,q3,(TC.yP e1).trans q4⟩;obtain⟨g,j,rfl,vk⟩:=p.hd;have y:aR o.op f g=some v:=by rw [aoV M w2 (L0 p.l1 w1) vk];exact U
      have vl:bJ o.op f v m ((L,g)::j)=true:=by
       rcases w3 with w3 |w3
       ·simp only [bJ,y,AV.aV,Bool.true_and,w3,cond_true]
       ·refine ag1 λe g' vm=> ?_
        rw [aoV M w3.2 (L0 p.l0 w3.1) (p.all e g' vm)];exact U
      simp only [cW,ho,hw,hc,y,vl,cond_true,g1,G]
    |A=>
     rw [hc]at w;simp only at w;obtain⟨lv,s',v,b,ρ',Z',h1,U,⟨h3,D⟩,h5⟩:=al6 M w;obtain⟨O,N,g1,g2,V,K⟩:=Fk h1 h3 h5;obtain⟨e1,Q⟩:=Kh K;have x:HI (u.ra true o.dst) (z.ra true o.dst) Z0 T ρ' Z' (H.new b) N O L a:=by
      refine⟨(p.l0.wr0 D).set (t:=true) K (λhs=>(by cases hs)),(p.l1.wr0 D).set (t:=true) K (λhs=>(by cases hs)), ?_,λe g y=>by rw [Q];exact(p.all e g y).tr p.l0 D⟩;obtain⟨g,j,F,G⟩:=p.hd;exact⟨g,j,F,by rw [Q];exact G.tr p.l1 D⟩
     obtain⟨s3,f3,H3,I,Z3,F,G,q3,q4⟩:=N8 S n V x g2;refine⟨s3,f3,H3,I,Z3,F, ?_,q3,D.tc.trans ((TC.yP e1).trans q4)⟩;simp only [cW,ho,hw,hc,U,g1,G]
    |E=>
     rw [hc]at w;simp only at w;obtain⟨lv,s',v,H',ρ',Z',h1,U,⟨h3,D⟩,h5⟩:=aul S M w;obtain⟨O,N,g1,g2,V,K⟩:=Fk h1 h3 h5;obtain⟨e1,Q⟩:=Kh K;have x:HI ⟨aod o.dst++cond (hot W s o.op) (GV s.cur.r++u.ta) u.ta,wrote W s o.op++u.wr,u.nx⟩ ⟨[],[],N.nx⟩ Z0 Z' ρ' Z' H' N O i ((i,H')::a):=by
      have vh:=(p.l0.tr D).set (t:=true) K λhs=>by cases hs
      refine⟨vh,Lvl.start V,⟨H',a,rfl,λ_ _=>rfl,λ_ _ _ _ _ _=>rfl⟩,λe g y=> ?_⟩;rw [Q];rcases List.mem_cons.1 y with y |y
      ·cases y;exact⟨λ_ _=>rfl,λ_ _ _ _ _ _=>rfl⟩
      ·exact(p.all e g y).tr p.l0 D
     obtain⟨s3,f3,H3,I,Z3,F,G,q3,q4⟩:=N8 S n V x g2;refine⟨s3,f3,H3,I,Z3,F, ?_,q3,D.tc.trans ((TC.yP e1).trans q4)⟩;simp only [cW,ho,hw,hc,U,g1,G]
   have no: ∀ {s:St},SR Hb A ρ Z H s f fs->HI u z Z0 T ρ Z H s f L a->aT f o.g=false->(re s o.dst .und λq=>EX cv W ty ops n q u z L k)=some r->
     ∃s' f' H' ρ' Z',k s'=some r/\cW Y ops ((i,m)::n) f H a=some (f',H')/\SR Hb A ρ' Z' H' s' f' fs/\TC Z H s Z' H' s':=λ{s} M p hw w=>by
    obtain⟨O,N,g1,g2,V,K⟩:=Fk (v:= .undef) w M aiW;obtain⟨e1,Q⟩:=Kh K;have x:HI u z Z0 T ρ Z H N O L a:=by
     have vh:Lvl (u.ra false o.dst) Z0 ρ Z H N O:=p.l0.set K λ_=>aiW.st
     have vf:Lvl (z.ra false o.dst) T ρ Z H N O:=p.l1.set K λ_=>aiW.st
     refine⟨vh,vf, ?_,λe g y=>by rw [Q];exact p.all e g y⟩;obtain⟨g,j,F,G⟩:=p.hd;exact⟨g,j,F,by rw [Q];exact G⟩
    obtain⟨s3,f3,H3,I,Z3,F,G,q3,q4⟩:=N8 S n V x g2;refine⟨s3,f3,H3,I,Z3,F, ?_,q3,(TC.yP e1).trans q4⟩;simp only [cW,ho,hw,g1,G]
   split at w
   ·rename_i y;exact ve M p (by rw [y];rfl) w
   ·rename_i t b y;rcases ajX M w with⟨hu,hd⟩ |w
    ·exact no M p (by rw [y];simp [aT,hu]) hd
    obtain⟨c,s',h1,U,h3,D,h5,h6,h7⟩:=aeB M w;have va:f.get t= .bool c:=h1;have vj: ∀ {d:DS} {Z0:Nat->Prop},Lvl d Z0 ρ Z H s f->Lvl d Z0 ρ Z H s' f:=λ{d Z0} l=>
     ⟨l.z0,λi p=>by rw [h5,D];exact l.ta i p,λid b lvs cs el a1 a2 a3 a4 a5=>by rw [D]at a3⊢;exact l.cb id b lvs cs el a1 a2 a3 a4 a5,λid b t l' cs el a1 a2 a3 a4 a5=>by rw [D]at a3;exact l.sb id b t l' cs el a1 a2 a3 a4 a5,by unfold St.nx;rw [D];exact l.nx,λid b kl lvs es a1 a2 a3 a4 a5=>by rw [D]at a3⊢;exact l.mb id b kl lvs es a1 a2 a3 a4 a5⟩
    have x:HI u z Z0 T ρ Z H s' f L a:=by
     refine⟨vj p.l0,vj p.l1, ?_,λe g y=>by rw [D];exact p.all e g y⟩;obtain⟨g,j,F,G⟩:=p.hd;exact⟨g,j,F,by rw [D];exact G⟩
    have vc:(∃q f' H' ρ' Z',k q=some r/\cW Y ops ((i,m)::n) f H a=some (f',H')/\SR Hb A ρ' Z' H' q f' fs/\TC Z H s' Z' H' q)-> ∃q f' H' ρ' Z',k q=some r/\cW Y ops ((i,m)::n) f H a=some (f',H')/\SR Hb A ρ' Z' H' q f' fs/\TC Z H s Z' H' q:=λ⟨N,O,H2,vn,Z2,a1,a2,a3,a4⟩=>
     ⟨N,O,H2,vn,Z2,a1,a2,a3,(TC.yP h3).trans a4⟩
    cases c<;>cases b<;>simp only at h7
    ·exact vc (ve U x (by rw [y];simp [aT,va]) h7)
    ·exact vc (no U x (by rw [y];simp [aT,va]) h7)
    ·exact vc (no U x (by rw [y];simp [aT,va]) h7)
    ·exact vc (ve U x (by rw [y];simp [aT,va]) h7)
end
section
variable {Hb:AH} {A:Nat->Prop} {ρ ρ':Nat->Option Nat} {Z Z':Nat->Prop} {H H':AH} {h h':List (Option LB)} {s:St} {f:AF} {fs:List AF} {α:Type}
theorem VZ i w: ∀v,(Ml i w v).length=v.length
 | []=>rfl
 |v::vs=>by simp [Ml,VZ i w vs]
mutual
theorem aC.fz {i:Nat} {w:LV} (m:Mv (· =i) ρ Z H h ρ' Z' H' h') (hw: ∀a,aC ρ Z H h (.own i) a->aC ρ' Z' H' h' w a) (hp: ∀lo n a,aC ρ Z H h (.part i lo n) a->aC ρ' Z' H' h' (partOf lo n w) a): ∀(v:LV) {a:AV},aC ρ Z H h v a->aC ρ' Z' H' h' (MS i w v) a
 | .p6,_,hr=>by simp [MS,aC]
 | .val t x,_,hr=>by simp only [MS];exact aC.mv m _ (λid hid=>by simp [jX]at hid) hr
 | .tight t l,_,hr=>by simp only [MS];exact aC.mv m _ (λid hid=>by simp [jX]at hid) hr
 | .nil,_,hr=>by simp only [MS];exact aC.mv m _ (λid hid=>by simp [jX]at hid) hr
 | .nilFunc,_,hr=>by simp only [MS];exact aC.mv m _ (λid hid=>by simp [jX]at hid) hr
 | .own id,_,hr=>by
  simp only [MS];cases hb:aBc id i with
  |true=>have:=aA8 hb;subst this;exact hw _ hr
  |false=>exact aC.mv m _ (λj hj=>by simp [jX]at hj;subst hj;intro e;rw [e]at hb;simp [aBK]at hb) hr
 | .part id lo n,_,hr=>by
  simp only [MS];cases hb:aBc id i with
  |true=>have:=aA8 hb;subst this;exact hp _ _ _ hr
  |false=>exact aC.mv m _ (λj hj=>by simp [jX]at hj;subst hj;intro e;rw [e]at hb;simp [aBK]at hb) hr
 | .oG id,_,hr=>by
  simp only [MS];cases hb:aBc id i with
  |true=>simp [aC]
  |false=>exact aC.mv m _ (λj hj=>by simp [jX]at hj;subst hj;intro e;rw [e]at hb;simp [aBK]at hb) hr
 | .buf id,_,hr=>by
  simp only [MS];cases hb:aBc id i with
  |true=>simp [aC]
  |false=>exact aC.mv m _ (λj hj=>by simp [jX]at hj;subst hj;intro e;rw [e]at hb;simp [aBK]at hb) hr
 | .ptr id o,_,hr=>by
  simp only [MS];cases hb:aBc id i with
  |true=>simp [aC]
  |false=>exact aC.mv m _ (λj hj=>by simp [jX]at hj;subst hj;intro e;rw [e]at hb;simp [aBK]at hb) hr
 | .xO id k o,_,hr=>by
  simp only [MS];cases hb:aBc id i with
  |true=>simp [aC]
  |false=>exact aC.mv m _ (λj hj=>by simp [jX]at hj;subst hj;intro e;rw [e]at hb;simp [aBK]at hb) hr
 | .yield id,_,hr=>by
  simp only [MS];cases hb:aBc id i with
  |true=>simp [aC]
  |false=>exact aC.mv m _ (λj hj=>by simp [jX]at hj;subst hj;intro e;rw [e]at hb;simp [aBK]at hb) hr
 | .ET id,_,hr=>by
  simp only [MS];cases hb:aBc id i with
  |true=>simp [aC]
  |false=>exact aC.mv m _ (λj hj=>by simp [jX]at hj;subst hj;intro e;rw [e]at hb;simp [aBK]at hb) hr
 | .iX cs off,_,hr=>by
  simp only [MS,aC]at hr⊢;obtain⟨b,o,cells,el,h1,h2,h3,h4,h5⟩:=hr;exact⟨b,o,cells,el,h1,(m.z b h2).1,by rw [(m.z b h2).2];exact h3,by rw [VZ];exact h4,by rw [VZ];exact ay.fz m hw hp cs h5⟩
 | .func g x y,_,hr=>by
  simp only [MS,aC]at hr⊢;obtain⟨a',b',h1,h2,h3⟩:=hr;exact⟨a',b',h1,ay.fz m hw hp x h2,ay.fz m hw hp y h3⟩
 | .agg l,_,hr=>by
  simp only [MS,aC]at hr⊢;obtain⟨l',h1,h2⟩:=hr;exact⟨l',h1,ay.fz m hw hp l h2⟩
 | .tuple l,_,hr=>by
  simp only [MS,aC]at hr⊢;obtain⟨l',h1,h2⟩:=hr;exact⟨l',h1,ay.fz m hw hp l h2⟩
theorem ay.fz {i:Nat} {w:LV} (m:Mv (· =i) ρ Z H h ρ' Z' H' h') (hw: ∀a,aC ρ Z H h (.own i) a->aC ρ' Z' H' h' w a) (hp: ∀lo n a,aC ρ Z H h (.part i lo n) a->aC ρ' Z' H' h' (partOf lo n w) a): ∀(v:List LV) {a:List AV},ay ρ Z H h v a->ay ρ' Z' H' h' (Ml i w v) a
 | [],[],_=>by simp [Ml,ay]
 |v::vs,a::aCL,hr=>by
  simp only [Ml,ay]at hr⊢;exact⟨aC.fz m hw hp v hr.1,ay.fz m hw hp vs hr.2⟩
 | [],_::_,hr=>by simp [ay]at hr
 |_::_,[],hr=>by simp [ay]at hr
end
theorem MT i w: ∀r j,dN (ad3 i w r) j=MS i w (dN r j)
 | [],j=>rfl
 |(k,v)::r,j=>by
  simp only [ad3,dN];cases aBc k j
  ·exact MT i w r j
  ·rfl
theorem CX.fz (m:Mv (· =i) ρ Z H h ρ' Z' H' h') (c: ∀a,aC ρ Z H h (.own i) a->aC ρ' Z' H' h' w a) (d: ∀lo n a,aC ρ Z H h (.part i lo n) a->aC ρ' Z' H' h' (partOf lo n w) a) {f} (b:CX ρ Z H h f g):CX ρ' Z' H' h' (ar0 i w f) g:=
 ⟨b.1,λj=>by show aC ρ' Z' H' h' (dN (ad3 i w f.r) j) (g.get j);rw [MT];exact aC.fz m c d _ (b.2 j)⟩
theorem iL.fz (m:Mv (· =i) ρ Z H h ρ' Z' H' h') (c: ∀a,aC ρ Z H h (.own i) a->aC ρ' Z' H' h' w a) (d: ∀lo n a,aC ρ Z H h (.part i lo n) a->aC ρ' Z' H' h' (partOf lo n w) a): ∀ {f} {g},iL ρ Z H h f g->iL ρ' Z' H' h' (ajY i w f) g
 | [],[],_=>trivial
 |f::fs,g::k,b=>⟨⟨b.1.1,λj=>by show aC ρ' Z' H' h' (dN (ad3 i w f.r) j) (g.get j);rw [MT];exact aC.fz m c d _ (b.1.2 j)⟩,iL.fz m c d b.2⟩
 | [],_::_,b=>by simp [iL]at b
 |_::_,[],b=>by simp [iL]at b
mutual
theorem ajb (i:Nat) (w:LV): ∀v:LV,iB v=false->strip (MS i w v)=strip v/\iB (MS i w v)=false
 | .p6,_ | .val _ _,_ | .tight _ _,_ | .nil,_ | .nilFunc,_=>by simp [MS,strip,iB]
 | .own id,h=>by simp [iB]at h
 | .part id lo n,h=>by simp [iB]at h
 | .oG id,_=>by simp only [MS];cases aBc id i<;>simp [strip,iB]
 | .buf id,_=>by simp only [MS];cases aBc id i<;>simp [strip,iB]
 | .ptr id o,_=>by simp only [MS];cases aBc id i<;>simp [strip,iB]
 | .xO id j o,_=>by simp only [MS];cases aBc id i<;>simp [strip,iB]
 | .yield id,_=>by simp only [MS];cases aBc id i<;>simp [strip,iB]
 | .ET id,_=>by simp only [MS];cases aBc id i<;>simp [strip,iB]
 | .iX cs o,h=>by simp only [iB]at h;obtain⟨h1,h2⟩:=JK i w cs h;simp [MS,strip,iB,h1,h2]
 | .func g a b,h=>by
  simp only [iB,aCi]at h;obtain⟨h1,h2⟩:=JK i w a h.1;obtain⟨h3,h4⟩:=JK i w b h.2;simp [MS,strip,iB,h1,h2,h3,h4]
 | .agg l,h=>by simp only [iB]at h;obtain⟨h1,h2⟩:=JK i w l h;simp [MS,strip,iB,h1,h2]
 | .tuple l,h=>by simp only [iB]at h;obtain⟨h1,h2⟩:=JK i w l h;simp [MS,strip,iB,h1,h2]
theorem JK (i:Nat) (w:LV): ∀v:List LV,Gn v=false->fk (Ml i w v)=fk v/\Gn (Ml i w v)=false
 | [],_=>by simp [Ml,fk,Gn]
 |v::vs,h=>by
  simp only [Gn,aCi]at h;obtain⟨h1,h2⟩:=ajb i w v h.1;obtain⟨h3,h4⟩:=JK i w vs h.2;simp [Ml,fk,Gn,h1,h2,h3,h4]
end
theorem PF.MS i w f:PF true f (ar0 i w f):=λj=>by
 cases a:iB (dN f.r j)with
 |true=>simp_all
 |false=>
  refine .inr ?_;show strip (dN (ad3 i w f.r) j)=_/\(_->iB (dN (ad3 i w f.r) j)=false);rw [MT];exact⟨(ajb i w _ a).1,λ_=>(ajb i w _ a).2⟩
theorem F9.MS i w: ∀fs,F9 fs (ajY i w fs)
 | []=>trivial
 |f::fs=>⟨PF.MS i w f,F9.MS i w fs⟩
theorem ahQ i w: ∀h j,cd (Gj i w h) j=NQ i w (cd h j)
 | [],j=>rfl
 |c::h,0=>rfl
 |c::h,j+1=>by simp [Gj,cd,ahQ i w h j]
theorem Zg i w: ∀h,(Gj i w h).length=h.length
 | []=>rfl
 |c::h=>by simp [Gj,Zg i w h]
theorem am7 (b:oE [w]=false): ∀ {lv},oE (Ml i w lv)=true->oE lv=true
 | [],h=>by simp [Ml,oE]at h
 |v::vs,h=>by
  have a: ∀l,oE (w::l)=false:=λl=>by cases w<;>simp_all [oE]
  cases v<;>simp only [Ml,MS]at h<;>first |rfl |(simp [oE]at h;done) |skip
  all_goals (simp only [cond_eq_ite]at h;split at h<;>first |(rw [a]at h;cases h) |(simp [oE]at h;done) |(unfold partOf at h;split at h<;>simp [oE]at h))
theorem awN i w b:vU (NQ i w b)=vU b:=by
 rcases b with _ |b
 ·rfl
 ·cases b with
  |seq t l=>rfl
  |buf e l=>rfl
  |cells a=>simp [NQ,vU,VZ]
  |qW c vs=>rfl
  |KU t l=>rfl
  |loop _ _ _ _ _ _=>rfl
theorem L7:NQ i w b=none↔b=none:=by
 rcases b with _ |b
 ·simp [NQ]
 ·cases b<;>simp [NQ]
theorem agN i w: ∀r,T1 r=false->T1 (ad3 i w r)=false
 | [],_=>rfl
 |(j,v)::r,h=>by
  simp only [T1,aCi]at h;simp only [ad3,T1,aCi];exact⟨(ajb i w v h.1).2,agN i w r h.2⟩
theorem aa4 i: ∀r,T1 r=false->T1 (K3 i r)=false
 | [],_=>rfl
 |(j,v)::r,h=>by
  simp only [T1,aCi]at h;simp only [K3,T1,aCi];exact⟨Ve i v h.1,aa4 i r h.2⟩
theorem aw1 (d:XN b=false):GD (NQ i w b)=GD b/\XN (NQ i w b)=false:=by
 rcases b with _ |b
 ·exact⟨rfl,rfl⟩
 ·cases b with
  |seq t l=>exact⟨rfl,rfl⟩
  |buf e l=>exact⟨rfl,rfl⟩
  |cells j=>
   obtain⟨k,n⟩:=JK i w j d;simp [NQ,GD,XN,k,n]
  |qW p j=>
   obtain⟨k,n⟩:=JK i w j d;simp [NQ,GD,XN,k,n]
  |KU t l=>exact⟨rfl,rfl⟩
  |loop q r u v a c=>
   exact⟨rfl,agN i w _ d⟩
theorem DV (d:XN b=false):XN (jF i b)=false:=by
 rcases b with _ |b
 ·rfl
 ·cases b with
  |seq t l=>rfl
  |buf e l=>rfl
  |cells j=>simp only [jF]at d⊢;exact sI i j d
  |qW k j=>simp only [jF]at d⊢;exact sI i j d
  |KU t l=>rfl
  |loop n p q r a c=>simp only [jF]at d⊢;exact aa4 i _ d
theorem SR.freeze (v:SR Hb A ρ Z H s f fs) i:SR Hb A ρ (λb=>Z b\/(ρ i=some b/\cd s.h i≠none)) H (s.freeze i) f fs/\
  PF true s.cur (s.freeze i).cur/\F9 s.mR (s.freeze i).mR/\(s.freeze i).nx=s.nx/\ ∀j,cd (s.freeze i).h j≠none->j≠i/\cd s.h j≠none/\(XN (cd s.h j)=false->GD (cd (s.freeze i).h j)=GD (cd s.h j)/\XN (cd (s.freeze i).h j)=false):=by
 cases F:cd s.h i with
 |none=>
  have e:s.freeze i=s.drop i:=by simp only [St.freeze,F]
  have u:=Dr.drop Z s i (Z':=Z) λ_ h=>h
  refine⟨by rw [e];have h:=v.drop i;rw [F]at h;exact h,by rw [e];exact u.cur.up,by rw [e];exact u.mR,by rw [e];exact u.nx,λj p=> ?_⟩;rw [e,lZ]at p⊢;by_cases c:j=i
  ·simp_all
  ·rw [if_neg c]at p⊢;rw [Ne,ei]at p;exact⟨c,p,λq=>⟨sq i _,DV q⟩⟩
 |some B=>
  cases B with
  |buf _ _=>
   have e:s.freeze i=s.drop i:=by simp only [St.freeze,F]
   have u:=Dr.drop Z s i (Z':=Z) λ_ h=>h
   refine⟨by rw [e];have h:=v.drop i;rw [F]at h;exact h,by rw [e];exact u.cur.up,by rw [e];exact u.mR,by rw [e];exact u.nx,λj p=> ?_⟩;rw [e,lZ]at p⊢;by_cases c:j=i
   ·simp_all
   ·rw [if_neg c]at p⊢;rw [Ne,ei]at p;exact⟨c,p,λq=>⟨sq i _,DV q⟩⟩
  |cells N=>
   have e:s.freeze i=s.drop i:=by simp only [St.freeze,F]
   have u:=Dr.drop Z s i (Z':=Z) λ_ h=>h
   refine⟨by rw [e];have h:=v.drop i;rw [F]at h;exact h,by rw [e];exact u.cur.up,by rw [e];exact u.mR,by rw [e];exact u.nx,λj p=> ?_⟩;rw [e,lZ]at p⊢;by_cases c:j=i
   ·simp_all
   ·rw [if_neg c]at p⊢;rw [Ne,ei]at p;exact⟨c,p,λq=>⟨sq i _,DV q⟩⟩
  |loop _ _ _ _ _ _=>
   have e:s.freeze i=s.drop i:=by simp only [St.freeze,F]
   have u:=Dr.drop Z s i (Z':=Z) λ_ h=>h
   refine⟨by rw [e];have h:=v.drop i;rw [F]at h;exact h,by rw [e];exact u.cur.up,by rw [e];exact u.mR,by rw [e];exact u.nx,λj p=> ?_⟩;rw [e,lZ]at p⊢;by_cases c:j=i
   ·simp_all
   ·rw [if_neg c]at p⊢;rw [Ne,ei]at p;exact⟨c,p,λq=>⟨sq i _,DV q⟩⟩
  |qW _ _=>
   have e:s.freeze i=s.drop i:=by simp only [St.freeze,F]
   have u:=Dr.drop Z s i (Z':=Z) λ_ h=>h
   refine⟨by rw [e];have h:=v.drop i;rw [F]at h;exact h,by rw [e];exact u.cur.up,by rw [e];exact u.mR,by rw [e];exact u.nx,λj p=> ?_⟩;rw [e,lZ]at p⊢;by_cases c:j=i
   ·simp_all
   ·rw [if_neg c]at p⊢;rw [Ne,ei]at p;exact⟨c,p,λq=>⟨sq i _,DV q⟩⟩
  |KU _ _=>
   have e:s.freeze i=s.drop i:=by simp only [St.freeze,F]
   have u:=Dr.drop Z s i (Z':=Z) λ_ h=>h
   refine⟨by rw [e];have h:=v.drop i;rw [F]at h;exact h,by rw [e];exact u.cur.up,by rw [e];exact u.mR,by rw [e];exact u.nx,λj p=> ?_⟩;rw [e,lZ]at p⊢;by_cases c:j=i
   ·simp_all
   ·rw [if_neg c]at p⊢;rw [Ne,ei]at p;exact⟨c,p,λq=>⟨sq i _,DV q⟩⟩
  |seq t l=>
   have e:s.freeze i=⟨ar0 i (.val (.list t) l) s.cur,ajY i (.val (.list t) l) s.mR,hZ (Gj i (.val (.list t) l) s.h) i none⟩:=by simp only [St.freeze,F]
   rw [<-F];obtain⟨w,K⟩: ∃w:LV,w= .val (.list t) l:=⟨_,rfl⟩;have I: ∀id,cd (hZ (Gj i w s.h) i none) id=if id=i then none else NQ i w (cd s.h id):=λid=>by
    rw [jq];by_cases c:id=i
    ·rw [if_pos ⟨c,by rw [Zg];exact ot F⟩,if_pos c]
    ·rw [if_neg (λh=>c h.1),if_neg c,ahQ]
   have m:Mv (· =i) ρ Z H s.h ρ (λb=>Z b\/(ρ i=some b/\cd s.h i≠none)) H (hZ (Gj i w s.h) i none):=
    ⟨λb E=>⟨.inl E,rfl⟩,λid x R Y=>⟨by rw [I id,if_neg R,awN];exact Y,rfl⟩⟩
   have O: ∀a,aC ρ Z H s.h (.own i) a->aC ρ (λb=>Z b\/(ρ i=some b/\cd s.h i≠none)) H (hZ (Gj i w s.h) i none) w a:=λa S=>by
    rw [K];refine⟨a,rfl,ada v.rel F S ⟨λb E=> .inl E,λb L=> ?_⟩⟩;obtain⟨j,p,y,D⟩:=L;simp_all
   have P: ∀T n a,aC ρ Z H s.h (.part i T n) a->aC ρ (λb=>Z b\/(ρ i=some b/\cd s.h i≠none)) H (hZ (Gj i w s.h) i none) (partOf T n w) a:=λT n a S=>by
    rw [K];refine⟨a,rfl,ahh v.rel F S ⟨λb E=> .inl E,λb L=> ?_⟩⟩;obtain⟨j,p,y,D⟩:=L;simp_all
   rw [e,<-K];refine⟨⟨⟨v.rel.gQ,λid B d=> ?_,λid b d R=> ?_,λj k b p U y D=> ?_,λb E=> ?_,λb E=> ?_⟩,⟨v.cur.1,λj=> ?_⟩,iL.fz m O P v.mR⟩,PF.MS i w _,F9.MS i w _, ?_,λj p=> ?_⟩
   ·change cd (hZ (Gj i w s.h) i none) id=some B at d;rw [I id]at d;by_cases c:id=i
    ·simp_all
    ·rw [if_neg c]at d;cases M:cd s.h id with
     |none=>rw [M]at d;simp [NQ]at d
     |some W=>
      rw [M]at d;have q:=v.rel.own id W M;cases W with
      |seq t' l'=>
       simp only [NQ,aBe]at d;subst d;rcases q with⟨b,N,Q,y,D,G⟩ |q
       ·exact .inl ⟨b,N,Q,y,D,G.mono m.z⟩
       ·exact .inr q
      |buf e' l'=>
       simp only [NQ,aBe]at d;subst d;rcases q with⟨b,N,Q,y,D,G⟩ |q
       ·exact .inl ⟨b,N,Q,y,D,G.mono m.z⟩
       ·exact .inr q
      |cells lv=>
       simp only [NQ,aBe]at d;subst d;obtain⟨b,N,Q,y,D,G⟩:=q;exact⟨b,N,Q,y,D,ay.fz m O P lv G.1,λh=>G.2 (am7 (by rw [K];rfl) h)⟩
      |qW ks vs=>
       simp only [NQ,aBe]at d;subst d;obtain⟨b,V,y,D,G,h4⟩:=q;exact⟨b,V,y,D,G,ay.fz m O P vs h4⟩
      |KU t l=>
       simp only [NQ,aBe]at d;subst d;obtain⟨b,V,y,D,G⟩:=q;exact⟨b,V,y,D,G.mono m.z⟩
      |loop st pd fr ps a c=>
       simp only [NQ,aBe]at d;subst d;obtain⟨b,g,y,D,G⟩:=q;exact⟨b,g,y,D,CX.fz m O P G⟩
   ·change cd (hZ (Gj i w s.h) i none) id≠none at d;rw [I id]at d;by_cases c:id=i
    ·simp_all
    ·rw [if_neg c,Ne,L7]at d;obtain⟨g1,g2,g3⟩:=v.rel.hi id b d R;exact⟨g1,g2,λE=>E.elim g3 λE=>c (v.rel.inj id i b d E.2 R E.1)⟩
   ·change cd (hZ (Gj i w s.h) i none) j≠none at p;rw [I]at p U;by_cases c:j=i
    ·simp_all
    ·by_cases c':k=i
     ·simp_all
     ·rw [if_neg c,Ne,L7]at p;rw [if_neg c',Ne,L7]at U;exact v.rel.inj j k b p U y D
   ·rcases E with E |⟨y,D⟩
    ·exact v.rel.G9 b E
    ·exact(v.rel.hi i b D y).2.1
   ·rcases E with E |⟨y,D⟩
    ·exact v.rel.VH b E
    ·exact .inr (v.rel.hi i b D y).1
   ·show aC _ _ _ _ (dN (ad3 i w s.cur.r) j) (f.get j);rw [MT];exact aC.fz m O P _ (v.cur.2 j)
   ·show(hZ (Gj i w s.h) i none).length=s.h.length;rw [LZ,Zg]
   ·change cd (hZ (Gj i w s.h) i none) j≠none at p;rw [I]at p⊢;by_cases c:j=i
    ·simp_all
    ·rw [if_neg c]at p⊢;rw [Ne,L7]at p;exact⟨c,p,λq=>aw1 q⟩
theorem SR.qc: ∀is {s} {Z},SR Hb A ρ Z H s f fs->(∀i∈is,i∈wr)->(∀j,XN (cd s.h j)=true->j∈wr)->
  ∃Z',SR Hb A ρ Z' H (qc is s) f fs/\Tr true wr ρ Z H s ρ Z' H (qc is s)/\(qc is s).nx=s.nx/\ ∀b,alj ρ s.h is b->Z' b
 | [],s,Z,n,_,_=>⟨Z,n,(Dr.refl Z s).tr wr,rfl,λb ⟨i,p,_⟩=>by simp at p⟩
 |i::is,s,Z,n,p,M=>by
  obtain⟨w,x,y,q,N⟩:=n.freeze i;have r: ∀j,XN (cd (s.freeze i).h j)=true->j∈wr:=λj d=>by
   cases O:XN (cd s.h j)with
   |true=>simp_all
   |false=>
    have D:cd (s.freeze i).h j≠none:=λe=>by rw [e]at d;cases d
    simp_all
  obtain⟨Z',E,u,F,G⟩:=SR.qc is w (λj d=>p j (by simp [d])) r;have I:Tr true wr ρ Z H s ρ (λb=>Z b\/(ρ i=some b/\cd s.h i≠none)) H (s.freeze i):=by
   refine⟨λb K=>⟨.inl K,rfl⟩,aBg _,x,y,λj _ d L=> ?_,.inl (Nat.le_of_eq q.symm)⟩;grind
  refine⟨Z',E,I.trans u (Nat.le_of_eq q.symm),F.trans q,λb ⟨j,d,v,a⟩=> ?_⟩;by_cases c:j=i
  ·subst c;exact(u.z b (.inr ⟨v,a⟩)).1
  ·refine G b ⟨j,by simpa [c]using d,v,λe=> ?_⟩;have:cd (s.freeze i).h j≠none:=by
    cases k:cd s.h i with
    |none=>
     simp only [St.freeze,k];rw [lZ,if_neg c,Ne,ei];exact a
    |some B=>
     cases B with
     |cells P=>
      simp only [St.freeze,k];rw [lZ,if_neg c,Ne,ei];exact a
     |buf _ _=>
      simp only [St.freeze,k];rw [lZ,if_neg c,Ne,ei];exact a
     |loop _ _ _ _ _ _=>
      simp only [St.freeze,k];rw [lZ,if_neg c,Ne,ei];exact a
     |qW _ _=>
      simp only [St.freeze,k];rw [lZ,if_neg c,Ne,ei];exact a
     |KU _ _=>
      simp only [St.freeze,k];rw [lZ,if_neg c,Ne,ei];exact a
     |seq t l=>
      simp only [St.freeze,k];rw [jq,if_neg (λh=>c h.1),ahQ,Ne,L7];exact a
   simp_all
theorem aaY: ∀ {h} {i j},XN (cd h j)=true->i+j∈RT h i
 | [],i,j,a=>by simp [cd,XN]at a
 |b::h,i,0,a=>by
  simp only [cd]at a;simp [RT,a]
 |b::h,i,j+1,a=>by
  simp only [cd]at a;have c:=aaY (i:=i+1) a;simp only [RT];grind
theorem SR.relabel (j:SR Hb A ρ Z H s f fs) {id} (k:cd s.h id=some (.cells cs)) (l:ρ id=some b) (q:H.get b=some (.cells aCL false el)) (r:lvs.length=cs.length) (t:ay ρ Z H s.h lvs aCL) (d:Y2 cs lvs=true):
  SR Hb A ρ Z H (s.put id (.cells lvs)) f fs:=by
 obtain⟨x,u,v,n,p,_,a⟩:=KJ j k;rw [l]at n;cases n;rw [q]at p;cases p;have w:=j.put (B':= .cells lvs) (cs':=aCL) (el':=el) k (by simp [vU,r]) l ⟨t,λh=>a (by simpa [Y2,h]using d)⟩;refine w.same rfl λc=> ?_
 by_cases e:c=b
 ·simp_all
 ·rw [AH.dS _ e]
theorem asA (j:SR Hb A ρ Z H s f fs) {k:LV->St->Option α} (d:coC c v s k=some r) (p:aC ρ Z H s.h v a):
  ∃G s' ρ' Z',k G s'=some r/\SR Hb A ρ' Z' H s' f fs/\aC ρ' Z' H s'.h G a/\Tr true [] ρ Z H s ρ' Z' H s':=by
 cases c with
 |own t=>
  simp only [coC]at d;split at d
  ·simp only [aC]at p;subst p;refine⟨_,_,_,_,d,j.avw t, ?_,ZS j _⟩;simp only [aC];refine⟨t,0, ?_,.inr ⟨rfl,if_pos rfl,.inl trivial⟩⟩;show vU (cd (s.h++ [some (.seq t [])]) s.h.length)=_;rw [km,if_neg (aBT _),aCc];rfl
  ·split at d
   ·rename_i u l q;cases w:Ty.same u t with
    |false=>simp_all
    |true=>rw [w]at d;exact⟨_,s,ρ,Z,d,j,p,(Dr.refl Z s).tr _⟩
   ·grind
  ·cases d
 |part t=>
  simp only [coC]at d;split at d
  ·rename_i id;split at d
   ·rename_i u l q;cases w:Ty.same u t with
    |false=>simp_all
    |true=>
     rw [w]at d;refine⟨_,s,ρ,Z,d,j, ?_,(Dr.refl Z s).tr _⟩;obtain⟨T,n,D,I⟩:=p;have y:=D;rw [q]at y;obtain⟨rfl,rfl⟩:=y;refine⟨u,l.length,D,⟨aa,by simp only [aBz];omega,by simp only [aBz];omega⟩, ?_⟩;simp_all
   ·grind
  ·split at d
   ·rename_i u l q;cases w:Ty.same u t with
    |false=>simp_all
    |true=>rw [w]at d;exact⟨_,s,ρ,Z,d,j,p,(Dr.refl Z s).tr _⟩
   ·grind
  ·exact⟨_,s,ρ,Z,d,j,p,(Dr.refl Z s).tr _⟩
  ·cases d
 |box=>
  simp only [coC]at d;split at d
  ·rename_i id o;split at d
   ·rename_i K q;cases L:Px K with
    |cons _ _=>simp_all
    |nil=>
     rw [L]at d;obtain⟨b,aCL,O,M,P,N⟩:=oq j q;obtain⟨_,U,_,E,F⟩:=p;rw [M]at E;cases E;refine⟨_,_,ρ,_,d,j.drop id, ?_,(Dr.drop Z s id λ_ h=> .inl h).tr _⟩;have Q:=N.len;refine⟨b,0,aCL,(false,O),by rw [F,aBh],.inr ⟨M,by rw [q];simp⟩,P,aa, ?_⟩;rw [List.drop_zero,Q,aCk];exact ay.mv (bad:=λ_=>True) (ρ':=ρ) (H':=H) ⟨λb R=>⟨.inl R,rfl⟩,λid x q _=>absurd trivial q⟩ K (λid z=>by rw [L]at z;simp at z) N
   ·grind
  ·cases d
 |fz t=>
  obtain⟨x,D,I⟩:=EZ j.rel d p;obtain⟨Z',E,F,S⟩:=SR.nu (cP [v]) j;refine⟨_,_,ρ,Z',D,E, ?_,(Dr.nu (cP [v]) s Z F).tr _⟩;exact I Z' ⟨F,S⟩
theorem SR.axS (a:SR Hb A ρ Z H s f fs) (b:aC ρ Z H s.h lv (f.get d)):SR Hb A ρ Z H (s.aaG d lv) f fs:=by
 refine⟨a.rel,⟨a.cur.1,λi=> ?_⟩,a.mR⟩;show aC ρ Z H s.h (dN ((d,lv)::s.cur.r) i) _;simp only [dN];cases c:aBc d i with
 |true=>simp_all
 |false=>exact a.cur.2 i
theorem QG {l:List AV} (h:l[j]? =some a):l.set j a=l:=by
 apply List.ext_getElem?;grind
theorem V8 {k:St->Option α} : ∀rs {s} {ρ} {Z},SR Hb A ρ Z H s f fs->ahk rs s k=some r->
  ∃s' ρ' Z',k s'=some r/\SR Hb A ρ' Z' H s' f fs/\TC Z H s Z' H s'/\s'.cur.n=s.cur.n
 | [],s,ρ,Z,p,l=>⟨s,ρ,Z,l,p,.refl _ _ _,rfl⟩
 |(i,none,c)::rs,s,ρ,Z,p,l=>by
  obtain⟨y,s',ρ',Z',w,u,E,D⟩:=asA p l (p.cur.2 i);obtain⟨F,q,G,I,K,L,M⟩:=V8 rs (u.axS E) w;exact⟨F,q,G,I,K,D.tc.trans ((TC.yP (s:=s') (s':=s'.aaG i y) rfl).trans L),by rw [M];show s'.cur.n=_;rw [u.cur.1,p.cur.1]⟩
 |(i,some j,c)::rs,s,ρ,Z,p,l=>by
  simp only [ahk]at l;have P:=p.cur.2 i;split at l
  ·rename_i cs W;rw [W]at P;obtain⟨l',e,P⟩:=P;obtain⟨v,Q,l⟩:=uR l;obtain⟨a,R,S⟩:=P.nth Q;obtain⟨y,s',ρ',Z',w,u,E,D⟩:=asA p l S;split at w
   ·rename_i t T;have x:=u.cur.2 i;rw [T,e]at x;obtain⟨l2,e2,x⟩:=x;cases e2;have N:=ay.set j x E;rw [QG R]at N;have z:=u.axS (d:=i) (lv:= .agg (Pw t j y)) (by rw [e];simp only [aC];exact⟨_,rfl,N⟩);obtain⟨F,q,G,I,K,L,M⟩:=V8 rs z w;exact⟨F,q,G,I,K,D.tc.trans ((TC.yP (s:=s') (s':=s'.aaG i (.agg (Pw t j y))) rfl).trans L),by rw [M];show s'.cur.n=_;rw [u.cur.1,p.cur.1]⟩
   ·grind
  ·rename_i id o W;split at l
   ·rename_i cs Y;obtain⟨b,aCL,el,q1,q2,q3⟩:=oq p Y;obtain⟨v,Q,l⟩:=uR l;obtain⟨a,R,S⟩:=q3.nth Q;obtain⟨y,s',ρ',Z',w,u,E,D⟩:=asA p l S;split at w
    ·rename_i t O;obtain⟨U,w⟩:=bF w;obtain⟨b',va,vc,p1,p2,p3⟩:=oq u O;have V:=(D.un id (ot Y) ab aj).2.1;rw [V,q1]at p1;cases p1;rw [q2]at p2;cases p2;have N:=ay.set j p3 E;rw [QG R]at N;have z:=u.relabel (lvs:=Pw t j y) O aj q2 (ael _ _ _) N U;obtain⟨F,q,G,I,K,L,M⟩:=V8 rs z w;exact⟨F,q,G,I,K,D.tc.trans ((TC.yP (s:=s') (s':=s'.put id (.cells (Pw t j y))) rfl).trans L),by rw [M];show s'.cur.n=_;rw [u.cur.1,p.cur.1]⟩
    ·grind
   ·grind
  ·cases l
theorem adn: ∀r l i,dN (agH r l) i=dN r i\/dN (agH r l) i= .p6
 |r,[],i=> .inr rfl
 |r,j::l,i=>by
  simp only [agH,dN];cases a:aBc j i with
  |true=>simp_all
  |false=>exact adn r l i
theorem aeM: ∀ {l m},arb l m=true-> ∀i∈l,i∈m
 | [],m,_,i,a=>by simp at a
 |j::l,m,h,i,a=>by
  simp only [arb,aA5]at h;rcases List.mem_cons.1 a with rfl |a
  ·exact tx.1 h.1
  ·exact aeM h.2 i a
theorem agG m: ∀h i j,cd (TD h i m) j=if Ps (i+j) m=true then cd h j else none
 | [],i,j=>by simp [TD,cd]
 |b::h,i,j=>by
  have a:=agG m h (i+1);simp only [TD];split
  ·rename_i d c;cases j with
   |zero=>
    simp only [cd];grind
   |succ j=>
    have:=a j;rw [c,show i+1+j=i+(j+1) by omega]at this;simpa [cd]using this
  ·cases j with
   |zero=>
    simp only [cd];simp_all
   |succ j=>
    simp only [cd];grind
theorem Oy: ∀ {h} {i j} {m},L6 h i m=true->Ps (i+j) m=true-> ∀x∈aoo (cd h j),x∈m
 | [],i,j,m,_,_,x,c=>by simp [cd,aoo]at c
 |b::h,i,0,m,a,d,x,c=>by
  simp only [L6,aA5]at a;rw [aCd]at d;rw [d]at a;exact aeM a.1 x (by simpa [cd]using c)
 |b::h,i,j+1,m,a,d,x,c=>by
  simp only [L6,aA5]at a;exact Oy (i:=i+1) (j:=j) a.2 aj x (by simpa [cd]using c)
theorem Sg: ∀ {r} {i},∀x∈jX (dN r i),x∈aj8 r
 | [],i,x,a=>by simp [dN,jX]at a
 |(j,v)::r,i,x,a=>by
  simp only [dN]at a;simp only [aj8,aBZ];cases b:aBc j i with
  |true=>simp_all
  |false=>rw [b]at a;exact .inr (Sg x a)
theorem iL.mvm (m:Mv bad ρ Z H h ρ' Z' H' h'): ∀ {f} {g},(∀x∈adr f,¬bad x)->iL ρ Z H h f g->iL ρ' Z' H' h' f g
 | [],[],_,_=>trivial
 |f::fs,g::d,c,a=>⟨CX.mv m (λi x b=>c x (by simp only [adr,aBZ];exact .inl (Sg x b))) a.1,iL.mvm m (λx b=>c x (by simp only [adr,aBZ];exact .inr b)) a.2⟩
 | [],_::_,_,a=>by simp [iL]at a
 |_::_,[],_,a=>by simp [iL]at a
theorem az1 (z:SR Hb A ρ Z H s f fs) {k:St->Option α} (M:gcS s k=some r): ∃s',k s'=some r/\SR Hb A ρ Z H s' f fs/\s'.mR=s.mR/\s'.cur.n=s.cur.n:=by
 simp only [gcS]at M;obtain⟨m,T⟩: ∃m,m=akz s.h 0 (akz s.h 0 (aj8 s.cur.r++adr s.mR)):=⟨_,rfl⟩;rw [<-T]at M;cases E:(arb (aj8 s.cur.r++adr s.mR) m&&L6 s.h 0 m)with
 |false=>grind
 |true=>
  rw [E]at M;simp only [aA5]at E;have F:=aeM E.1;have G: ∀j,cd (TD s.h 0 m) j=if j∈m then cd s.h j else none:=λj=>by
   rw [agG,aBh];by_cases e:j∈m
   ·rw [if_pos (tx.2 e),if_pos e]
   ·rw [if_neg (λh=>e (tx.1 h)),if_neg e]
  have I:Mv (λid=> ¬id∈m) ρ Z H s.h ρ Z H (TD s.h 0 m):=⟨λb U=>⟨U,rfl⟩,λid x O v=>⟨by rw [G,if_pos (Classical.not_not.1 O)];exact v,rfl⟩⟩;have d: ∀ {j},cd (TD s.h 0 m) j≠none->j∈m/\cd s.h j≠none:=λ{j} S=>by
   simp_all
  refine⟨_,M,⟨⟨z.rel.gQ,λid B N=> ?_,λid b N O=>z.rel.hi id b (d N).2 O,λi j b V S p q=>z.rel.inj i j b (d V).2 (d S).2 p q,z.rel.G9,z.rel.VH⟩,z.cur.mv I (λi x v=> ?_),iL.mvm I (λx v=> ?_) z.mR⟩,rfl,rfl⟩
  ·have P:cd (TD s.h 0 m) id≠none:=by rw [show cd (TD s.h 0 m) id=some B from N];simp
   obtain⟨e,_⟩:=d P;have y:cd s.h id=some B:=by have:=G id;rw [if_pos e]at this;rw [<-this];exact N
   have w:=z.rel.own id B y;cases B with
   |seq t l=>
    rcases w with⟨b,K,L,p,q,u⟩ |w
    ·exact .inl ⟨b,K,L,p,q,u⟩
    ·exact .inr w
   |buf e l=>
    rcases w with⟨b,K,L,p,q,u⟩ |w
    ·exact .inl ⟨b,K,L,p,q,u⟩
    ·exact .inr w
   |cells Q=>
    obtain⟨b,K,L,p,q,u⟩:=w;refine⟨b,K,L,p,q,ay.mv I Q (λx v D=>D ?_) u.1,u.2⟩;have:=Oy (i:=0) (j:=id) E.2 (by rw [aBh];exact tx.2 e) x;rw [y]at this;exact this (by simpa [aoo]using v)
   |qW Y Q=>
    obtain⟨b,R,p,q,u,W⟩:=w;refine⟨b,R,p,q,u,ay.mv I Q (λx v D=>D ?_) W⟩;have:=Oy (i:=0) (j:=id) E.2 (by rw [aBh];exact tx.2 e) x;rw [y]at this;exact this (by simpa [aoo]using v)
   |KU t l=>
    obtain⟨b,R,p,q,u⟩:=w;exact⟨b,R,p,q,u⟩
   |loop st pd fr ps a c=>
    obtain⟨b,g,p,q,u⟩:=w;refine⟨b,g,p,q,u.mv I (λj x v D=>D ?_)⟩;have:=Oy (i:=0) (j:=id) E.2 (by rw [aBh];exact tx.2 e) x;rw [y]at this;exact this (by simpa [aoo]using Sg x v)
  ·intro D;exact D (F x (by simp only [aBZ];exact .inl (Sg x v)))
  ·simp_all
theorem RH (p:SR Hb A ρ Z H s f fs) {k:St->Option α} (q:iI rs s k=some r):
  ∃s' ρ' Z',k s'=some r/\SR Hb A ρ' Z' H s' f fs/\TC Z H s Z' H s':=by
 obtain⟨a,b,j,t,c,u,y⟩:=V8 rs.co p q;have d:SR Hb A b j H ⟨⟨a.cur.n,agH a.cur.r rs.gQ⟩,a.mR,a.h⟩ f fs:=by
  refine⟨c.rel,⟨c.cur.1,λi=> ?_⟩,c.mR⟩;rcases adn a.cur.r rs.gQ i with e |e
  ·rw [e];exact c.cur.2 i
  ·rw [e];simp [aC]
 obtain⟨l,v,w,x,_⟩:=az1 d t;exact⟨l,b,j,v,w,u.trans (TC.yP (s:=a) (s':=l) x)⟩
end
section
variable {Hb:AH} {A:Nat->Prop} {ρ:Nat->Option Nat} {Z:Nat->Prop} {H:AH} {h:List (Option LB)} {s:St} {f:AF} {fs:List AF} {α:Type}
theorem SR.re (k:SR Hb A ρ Z H s f fs) (p:cd s.h i=some B) (v:vU (some B)=some (none,0)) (q:ρ i=some b) (I:CX ρ Z H s.h fr g):
  SR Hb A ρ Z (H.set b (some (.loop ⟨st,Mu pd,g,ps,a.erase,c.erase⟩))) (s.put i (.loop st pd fr ps a c)) f fs/\TC Z H s Z (H.set b (some (.loop ⟨st,Mu pd,g,ps,a.erase,c.erase⟩))) (s.put i (.loop st pd fr ps a c)):=by
 obtain⟨X,z⟩: ∃X:AB,X= .loop ⟨st,Mu pd,g,ps,a.erase,c.erase⟩:=⟨_,rfl⟩;obtain⟨n,d⟩: ∃n:LB,n= .loop st pd fr ps a c:=⟨_,rfl⟩;rw [<-z,<-d];obtain⟨D,K,E⟩:=k.rel.hi i b (by rw [p];simp) q;have F: ∀c,c≠b->(H.set b (some X)).get c=H.get c:=λc e=>AH.dS _ e
 have G: ∀c,Z c->(H.set b (some X)).get c=H.get c:=λc l=>F c (λe=>E (e▸l))
 have r: ∀id,id≠i->cd (hZ s.h i (some n)) id=cd s.h id:=λid e=>by rw [jq,if_neg (λc=>e c.1)]
 have t:cd (hZ s.h i (some n)) i=some n:=by rw [jq,if_pos ⟨rfl,ot p⟩]
 have m:Mv (λ_=>False) ρ Z H s.h ρ Z (H.set b (some X)) (hZ s.h i (some n)):=by
  refine⟨λc l=>⟨l,G c l⟩,λid x _ w=>⟨?_,rfl⟩⟩;by_cases e:id=i
  ·subst e;rw [t,d];rw [p,v]at w;exact w
  ·rw [r id e];exact w
 refine⟨⟨k.rel.akV m ⟨k.rel.gQ.set D _,aBg _,λ_ _=>rfl,λid c e d j=>F c λL=>e (k.rel.inj id i b d (by rw [p];simp) (L▸j) q),λid c e d j=>(k.rel.hi id c d j).2.2,λM u=> ?_,λc u y=> ?_,λc l=>by simpa using k.rel.G9 c l,k.rel.VH⟩ r,k.cur.mv m (λ_ _ _ h=>h),iL.mv0 m k.mR⟩,⟨λc l=>⟨l,G c l⟩,aBg _,F9.refl _⟩⟩
 ·have:M=n:=by have:=u.symm.trans t;cases this;rfl
  subst this;subst d;exact⟨b,g,q,by rw [AH.get_set_same,z],I.mv m (λ_ _ _ h=>h)⟩
 ·have:c=b:=by have:=y.symm.trans q;cases this;rfl
  subst this;exact⟨D,by simpa using K,E,λid e d j=>e (k.rel.inj id i c d (by rw [p];simp) j q)⟩
theorem SR.aAX (j:SR Hb A ρ Z H s f fs) (y:CX ρ Z H s.h fr g):
  SR Hb A (Mj ρ s.nx (some H.next)) Z (H.new (.loop ⟨st,Mu pd,g,ps,a.erase,c.erase⟩)) (s.new (.loop st pd fr ps a c)) f fs/\TC Z H s Z (H.new (.loop ⟨st,Mu pd,g,ps,a.erase,c.erase⟩)) (s.new (.loop st pd fr ps a c)):=by
 obtain⟨X,v⟩: ∃X:AB,X= .loop ⟨st,Mu pd,g,ps,a.erase,c.erase⟩:=⟨_,rfl⟩;obtain⟨B,k⟩: ∃B:LB,B= .loop st pd fr ps a c:=⟨_,rfl⟩;rw [<-v,<-k];have q: ∀c,Z c->(H.new X).get c=H.get c:=λc b=>AH.eg _ (aCp (j.rel.G9 c b))
 have l: ∀id,id≠s.nx->cd (s.h++ [some B]) id=cd s.h id:=λid e=>by
  rw [km];by_cases c:id<s.h.length
  ·rw [if_pos c]
  ·rw [if_neg c];have z:cd s.h id=none:=by
    cases D:cd s.h id with
    |none=>rfl
    |some B=>exact absurd (ot D) c
   rw [z];obtain⟨d,E⟩: ∃d,id-s.h.length=d+1:=⟨id-s.h.length-1,by have:id≠s.h.length:=e;omega⟩;rw [E];rfl
 have r:cd (s.h++ [some B]) s.nx=some B:=by show cd _ s.h.length=_;rw [km,if_neg (aBT _),aCc];rfl
 have w: ∀id,id≠s.nx->Mj ρ s.nx (some H.next) id=ρ id:=λid e=>if_neg e
 have m:Mv (λ_=>False) ρ Z H s.h (Mj ρ s.nx (some H.next)) Z (H.new X) (s.h++ [some B]):=by
  refine⟨λc b=>⟨b,q c b⟩,λid x _ t=> ?_⟩;have e:id≠s.nx:=λe=>by rw [e,aeo]at t;simp [vU]at t
  exact⟨by rw [l id e];exact t,w id e⟩
 refine⟨⟨j.rel.akV m ⟨j.rel.gQ.ace _,ab,w,λid c e k b=>AH.eg _ (aCp (j.rel.hi id c k b).2.1),λid c e k b=>(j.rel.hi id c k b).2.2,λF n=> ?_,λc n p=> ?_,λc b=>Nat.lt_succ_of_lt (j.rel.G9 c b),j.rel.VH⟩ l,j.cur.mv m (λ_ _ _ h=>h),iL.mv0 m j.mR⟩,⟨λc b=>⟨b,q c b⟩,ab,F9.refl _⟩⟩
 ·have:F=B:=by have:=n.symm.trans r;cases this;rfl
  subst this;subst k;have u:Mj ρ s.nx (some H.next) s.nx=some H.next:=if_pos rfl;rw [u];exact⟨H.next,g,rfl,by rw [v];simp,y.mv m (λ_ _ _ h=>h)⟩
 ·have u:Mj ρ s.nx (some H.next) s.nx=some H.next:=if_pos rfl;rw [u]at p;cases p;exact⟨j.rel.gQ.1,ab,λq=>aBT _ (j.rel.G9 _ q),λid e k b=>aBT _ (j.rel.hi id _ k b).2.1⟩
theorem SR.gone (d:SR Hb A ρ Z H s f fs) (p:cd s.h i=some B) (n:ρ i=some b):SR Hb A ρ Z (H.set b none) (s.drop i) f fs/\TC Z H s Z (H.set b none) (s.drop i):=by
 obtain⟨u,z,v⟩:=d.rel.hi i b (by rw [p];simp) n;have q: ∀c,c≠b->(H.set b none).get c=H.get c:=λc e=>AH.dS _ e
 have r: ∀c,Z c->(H.set b none).get c=H.get c:=λc j=>q c (λe=>v (e▸j))
 have l: ∀id,id≠i->cd (hZ (dh i s.h) i none) id=jF i (cd s.h id):=λid e=>by rw [jq,if_neg (λc=>e c.1),gJ]
 have t:cd (hZ (dh i s.h) i none) i=none:=by
  rw [jq,if_pos ⟨rfl,by rw [iF];exact ot p⟩]
 have m:Mv (· =i) ρ Z H s.h ρ Z (H.set b none) (hZ (dh i s.h) i none):=
  ⟨λc j=>⟨j,r c j⟩,λid x n w=>⟨by rw [l id n,A0];exact w,rfl⟩⟩
 refine⟨⟨d.rel.auJ m ⟨d.rel.gQ.set u _,aBg _,λ_ _=>rfl,λid c e a k=>q c λy=>e (d.rel.inj id i b a (by rw [p];simp) (y▸k) n),λid c e a k=>(d.rel.hi id c a k).2.2,λD a=> ?_,λc a=> ?_,λc j=>by simpa using d.rel.G9 c j,d.rel.VH⟩ l,d.cur.mvp m,iL.mvp m d.mR⟩,⟨λc j=>⟨j,r c j⟩,aBg _,(Dr.drop Z s i (Z':=Z) λ_ h=>h).mR⟩⟩
 ·have:=a.symm.trans t;cases this
 ·exact absurd t a
theorem ate {id} (a:vU (cd h id)=some (none,0)) (b:ρ id=some l):CX ρ Z H h (ghost id) (AF.init [.yield l] 1):=by
 refine⟨rfl,λi=> ?_⟩;rw [AF.Mg];cases i with
 |zero=>
  show aC ρ Z H h (.yield id) (.yield l);simp only [aC];exact⟨0,l,a,b,rfl⟩
 |succ i=>
  show aC ρ Z H h .p6 _;simp [aC]
theorem SR.push (a:SR Hb A ρ Z H s f fs) {id} (b:vU (cd s.h id)=some (none,0)) (c:ρ id=some l):SR Hb A ρ Z H ⟨s.cur,ghost id::s.mR,s.h⟩ f (AF.init [.yield l] 1::fs):=
 ⟨a.rel,a.cur,⟨ate b c,a.mR⟩⟩
theorem Za (j:SR Hb A ρ Z H s f (AF.init [.yield l] 1::fs)) {k:Nat->LoopState->Option AE->LF->List Nat->ia->ia->St->Option α} (c:adE s k=some r):
  ∃F gs id st pd fr ps a b g,s.mR=F::gs/\k id st pd fr ps a b ⟨s.cur,gs,s.h⟩=some r/\cd s.h id=some (.loop st pd fr ps a b)/\ρ id=some l/\H.get l=some (.loop ⟨st,Mu pd,g,ps,a.erase,b.erase⟩)/\CX ρ Z H s.h fr g/\SR Hb A ρ Z H ⟨s.cur,gs,s.h⟩ f fs:=by
 unfold adE at c;split at c
 ·rename_i F gs q;have d:=j.mR;rw [q]at d;split at c
  ·rename_i id n;split at c
   ·rename_i st pd fr ps a b t;have p:=d.1.2 0;rw [n,AF.Mg]at p;simp only [aC]at p;obtain⟨m,u,D,v,x⟩:=p;have e:u=l:=by
     have:AV.yield l= .yield u:=x;cases this;rfl
    subst e;obtain⟨E,g,w,y,z⟩:=j.rel.own id _ t;rw [v]at w;cases w;exact⟨F,gs,id,st,pd,fr,ps,a,b,g,q,c,t,v,y,z,⟨j.rel,j.cur,d.2⟩⟩
   ·cases c
  ·cases c
 ·cases c
theorem ajS {k:List (Nat×LV)->Option α} : ∀ {ps} {d} {aCL} {rg} {g},CX ρ Z H h ⟨n,rg⟩ g->ay ρ Z H h d aCL->alk n rg ps d k=some r->
  ∃c q,k c=some r/\mh g ps aCL=some q/\CX ρ Z H h ⟨n,c⟩ q
 | [],[],[],rg,g,l,_,b=>⟨rg,g,b,rfl,l⟩
 |p::ps,v::vs,a::aCL,rg,g,l,j,b=>by
  simp only [alk]at b;simp only [ay]at j;cases t:aBS p n with
  |false=>rw [t]at b;cases b
  |true=>
   rw [t]at b;have u:CX ρ Z H h ⟨n,(p,v)::rg⟩ (g.p p a):=by
    refine⟨l.1,λi=> ?_⟩;show aC ρ Z H h (dN ((p,v)::rg) i) _;simp only [dN];by_cases e:i=p
    ·subst e;rw [show aBc i i=true by simp [aBK],cond_true,AF.aft];exact j.1
    ·rw [show aBc p i=false from beq_false (λh=>e h.symm),cond_false,AF.adF _ _ _ _ e];exact l.2 i
   obtain⟨c,q,w,x,y⟩:=ajS u j.2 b;refine⟨c,q,w, ?_,y⟩;simp only [mh];rw [AF.cX g p a (by rw [<-l.1];simpa [aCl]using t)];exact x
 | [],_::_,_,_,_,_,_,b=>by cases b
 |_::_,[],_,_,_,_,_,b=>by cases b
 | [],[],_::_,_,_,_,j,_=>by simp [ay]at j
 |_::_,_::_,[],_,_,_,j,_=>by simp [ay]at j
theorem atV {E:Env} {h:AH} {f:AF} {x:AX} {ps:List Nat} {a b:dy} {d:Nat} {k l:List AV} (n:f.ev x= .func d k l):X E (.ou x ps a b) f h=
  match C E d (k++ [.yield h.next]++l) (h.new (.loop ⟨.ready,none,f,ps,a,b⟩))with
  |some (_,c)=>
   match c.get h.next with
   |some (.loop r)=>
    match r.st with
    | .busy=>none
    |_=>match r.Be with
     |none=>some (.normal,f,c.set h.next none)
     |some j=>X E j f (c.set h.next none)
   |_=>none
  |none=>none:=by rw [agj];simp only [nt,n];rfl
end
section
variable {Hb:AH} {A:Nat->Prop} {ρ:Nat->Option Nat} {Z:Nat->Prop} {H:AH} {h:List (Option LB)} {s:St} {f:AF} {fs:List AF} {α:Type}
def aqu (E:Env) (c:dy) (Hb:AH) (A:Nat->Prop) (Z:Nat->Prop) (H:AH) (s:St) (f:AF) (fs:List AF) (k:KL α) (r:α):Prop:=
 ∃e a j b d l,k e a=some r/\X E c f H=some (e,j,b)/\SR Hb A d l b a j fs/\TC Z H s l b a
theorem aoQ {b:ia} {B:St->KL α->Option α}
  (v: ∀ {ρ} {Z} {H} {s} {f} {k} {r},SR Hb A ρ Z H s f fs->B s k=some r->aqu E b.erase Hb A Z H s f fs k r):
  ∀n {ρ} {Z} {H} {s} {f} {k} {r},SR Hb A ρ Z H s f fs->rb n B (iI rs) s k=some r->aqu E (.loop b.erase) Hb A Z H s f fs k r
 |0,ρ,Z,H,s,f,k,r,w,j=>by cases j
 |n+1,ρ,Z,H,s,f,k,r,w,j=>by
  have l:B s (λe a=>match e with | .normal=>iI rs a λx=>rb n B (iI rs) x k | .exit i=>k (.exit i) a | .ret=>k .ret a)=some r:=j;obtain⟨e,a,y,z,c,D,d,p,q,t⟩:=v w l;cases e with
  |normal=>
   simp only at d;obtain⟨x,F,U,G,I,K⟩:=RH q d;obtain⟨L,M,N,O,u,P,Q,R,S,T⟩:=aoQ v n I G;exact⟨L,M,N,O,u,P,Q,by rw [Vp,p];exact R,S,t.trans (K.trans T)⟩
  |exit i=>exact⟨_,a,y,z,c,D,d,by rw [Vp,p],q,t⟩
  |ret=>exact⟨_,a,y,z,c,D,d,by rw [Vp,p],q,t⟩
theorem EA {cv:Bx α} (u:ala pu cv (gA (X E) (C E))) K: ∀c {ρ} {Z} {H} {s} {f} {k} {r},SR Hb A ρ Z H s f fs->An cv pu K c s k=some r->aqu E c.erase Hb A Z H s f fs k r
 | .skip,ρ,Z,H,s,f,k,r,n,d=>⟨_,s,f,H,ρ,Z,d,bN,n,.refl _ _ _⟩
 | .fail,ρ,Z,H,s,f,k,r,n,d=>by cases d
 | .region I ty,ρ,Z,H,s,f,k,r,n,d=>by
  simp only [An]at d;obtain⟨N,f',S,O,Z',l,q,t,y⟩:=aoK u I n d;exact⟨_,N,f',S,O,Z',l,by show X E (.region I) f H=_;rw [bj,q],t,y⟩
 | .lN I vc ty,ρ,Z,H,s,f,k,r,n,d=>by
  simp only [An]at d;have hi:HI ⟨[],[],s.nx⟩ ⟨[],[],s.nx⟩ Z Z ρ Z H s f I.length [(I.length,H)]:=by
   refine⟨Lvl.start n,Lvl.start n,⟨H,[],rfl,λ_ _=>rfl,λ_ _ _ _ _ _=>rfl⟩,λe g hg=> ?_⟩;simp at hg;obtain⟨rfl,rfl⟩:=hg;exact⟨λ_ _=>rfl,λ_ _ _ _ _ _=>rfl⟩
  obtain⟨N,f',S,O,Z',l,q,t,y⟩:=N8 u vc n hi d;exact⟨_,N,f',S,O,Z',l,by show X E (.lN I vc) f H=_;rw [aX,q],t,y⟩
 | .seq a b,ρ,Z,H,s,f,k,r,n,d=>by
  simp only [An]at d;obtain⟨e,G,f1,H1,p,L,l,q,t,y⟩:=EA u K a n d;cases e with
  |normal=>
   obtain⟨T,U,V,W,w,Y,P,D,Q,R⟩:=EA u K b t (show An cv pu K b G k=some r from l);exact⟨T,U,V,W,w,Y,P,by show X E (.seq a.erase b.erase) f H=_;rw [cR,q];exact D,Q,y.trans R⟩
  |exit i=>exact⟨_,G,f1,H1,p,L,l,by show X E (.seq a.erase b.erase) f H=_;rw [cR,q],t,y⟩
  |ret=>exact⟨_,G,f1,H1,p,L,l,by show X E (.seq a.erase b.erase) f H=_;rw [cR,q],t,y⟩
 | .cond x a b,ρ,Z,H,s,f,k,r,n,d=>by
  simp only [An]at d;obtain⟨c,N,l,q,t,y,h5,h6,h7⟩:=aeB n d;cases c with
  |true=>
   obtain⟨T,U,V,W,w,Y,P,D,Q,R⟩:=EA u K a q h7;exact⟨T,U,V,W,w,Y,P,by show X E (.cond x a.erase b.erase) f H=_;rw [bC,l];exact D,Q,(TC.yP t).trans R⟩
  |false=>
   obtain⟨T,U,V,W,w,Y,P,D,Q,R⟩:=EA u K b q h7;exact⟨T,U,V,W,w,Y,P,by show X E (.cond x a.erase b.erase) f H=_;rw [bC,l];exact D,Q,(TC.yP t).trans R⟩
 | .block id b,ρ,Z,H,s,f,k,r,n,d=>by
  simp only [An]at d;obtain⟨e,G,f1,H1,p,L,l,q,t,y⟩:=EA u K b n d;cases e with
  |normal=>exact⟨_,G,f1,H1,p,L,l,by show X E (.block id b.erase) f H=_;rw [bx,q],t,y⟩
  |ret=>exact⟨_,G,f1,H1,p,L,l,by show X E (.block id b.erase) f H=_;rw [bx,q],t,y⟩
  |exit i=>
   simp only [k5]at l;cases hb:aBc i id with
   |true=>rw [hb]at l;exact⟨_,G,f1,H1,p,L,l,by show X E (.block id b.erase) f H=_;rw [bx,q];simp only [hb,cond_true],t,y⟩
   |false=>rw [hb]at l;exact⟨_,G,f1,H1,p,L,l,by show X E (.block id b.erase) f H=_;rw [bx,q];simp only [hb,cond_false],t,y⟩
 | .loop rs b,ρ,Z,H,s,f,k,r,n,d=>by
  simp only [An]at d;obtain⟨G,p,L,l,q,t⟩:=RH n d;rw [amg]at l;obtain⟨T,U,V,W,w,Y,P,D,Q,R⟩:=aoQ (b:=b) (rs:=rs) (λ{ρ Z H s f k r} n d=>EA u K b n d) K q l;exact⟨T,U,V,W,w,Y,P,D,Q,t.trans R⟩
 | .exit i rs,ρ,Z,H,s,f,k,r,n,d=>by
  simp only [An]at d;obtain⟨G,p,L,l,q,t⟩:=RH n d;exact⟨_,G,f,H,p,L,l,bQ,q,t⟩
 | .ret rs,ρ,Z,H,s,f,k,r,n,d=>by
  simp only [An]at d;obtain⟨G,p,L,l,q,t⟩:=RH n d;exact⟨_,G,f,H,p,L,l,cV,q,t⟩
 | .canon rs c,ρ,Z,H,s,f,k,r,n,d=>by
  simp only [An]at d;obtain⟨G,p,L,l,q,t⟩:=RH n d;rw [amg]at l;obtain⟨T,U,V,W,w,Y,P,D,Q,R⟩:=EA u K c q l;exact⟨T,U,V,W,w,Y,P,D,Q,t.trans R⟩
 | .ou x M a b,ρ,Z,H,s,f,k,r,n,d=>by
  simp only [An]at d;split at d
  ·rename_i gf xs ys hx;obtain⟨n1,n2⟩:=n.aAX (st:= .ready) (pd:=none) (ps:=M) (a:=a) (c:=b) n.cur;have vh:cd (s.new (.loop .ready none s.cur M a b)).h s.nx=some (.loop .ready none s.cur M a b):=by
    show cd (s.h++ [_]) s.h.length=_;rw [km,if_neg (aBT _),aCc];rfl
   have ve:vU (cd (s.new (.loop .ready none s.cur M a b)).h s.nx)=some (none,0):=by rw [vh];rfl
   have vf:Mj ρ s.nx (some H.next) s.nx=some H.next:=if_pos rfl;have n3:=n1.push ve vf;have va:=gU n1 x;rw [show oS (s.new (.loop .ready none s.cur M a b)).cur x= .func gf xs ys from hx]at va;have ha:ay (Mj ρ s.nx (some H.next)) Z (H.new (.loop ⟨.ready,Mu none,f,M,a.erase,b.erase⟩)) (s.new (.loop .ready none s.cur M a b)).h [.yield s.nx] [.yield H.next]:=by
    simp only [ay,aC];exact⟨⟨0,H.next,ve,vf,rfl⟩,trivial⟩
   obtain⟨lv,N,v,S,O,Z',l,q,⟨t,y⟩,h5⟩:=u n3 va ha d;have vj: ∃ga gb,f.ev x= .func gf ga gb:=by
    simp only [aC]at va;obtain⟨ga,gb,e,_⟩:=va;exact⟨ga,gb,e⟩
   obtain⟨ga,gb,hf⟩:=vj;rw [hf,aL]at q;obtain⟨F,gs,id,st,pd,fr,vm,a',b',g,P,D,Q,R,q5,q6,q7⟩:=Za t l;obtain⟨w1,w2⟩:=q7.gone Q R;have vg:=y.mR;rw [P]at vg;have hp:F9 s.mR gs:=vg.2;have tc:TC Z H s Z' (S.set H.next none) ((⟨N.cur,gs,N.h⟩:St).drop id):=n2.trans ((⟨y.z,y.next,hp⟩:TC Z _ (s.new (.loop .ready none s.cur M a b)) Z' S ⟨N.cur,gs,N.h⟩).trans w2);have vd:st≠ .busy-> ∀e,k e ((⟨N.cur,gs,N.h⟩:St).drop id)=some r->(match Mu pd with |none=>some (.normal,f,S.set H.next none) |some j=>X E j f (S.set H.next none))=some (e,f,S.set H.next none)->aqu E (ia.ou x M a b).erase Hb A Z H s f fs k r:=λvk e vl hX=>by
    refine⟨e,_,f,_,O,Z',vl, ?_,w1,tc⟩;show X E (.ou x M a.erase b.erase) f H=_;rw [atV hf,show H.new (.loop ⟨.ready,none,f,M,a.erase,b.erase⟩)=H.new (.loop ⟨.ready,Mu none,f,M,a.erase,b.erase⟩)from rfl,q];simp only [q5];cases st with
    |busy=>exact absurd rfl vk
    |_=>exact hX
   cases st with
   |busy=>cases D
   |_=>
    cases pd with
    |none=>exact vd ab _ D rfl
    |some e=>
     cases e with
     |normal=>cases D
     |exit i=>exact vd ab _ D bQ
     |ret=>exact vd ab _ D cV
  ·cases d
def Jp:List (Option Nat)->List AV->List AV->Prop
 | [],[],d=>d=[]
 |none::j,a::aCL,d=> ∃b,d=a::b/\Jp j aCL b
 |some n::j,a::aCL,d=> ∃c b,a= .agg c/\c.length=n/\d=c++b/\Jp j aCL b
 |_,_,_=>False
theorem ajh: ∀ {gs} {vs} {aCL},Un gs vs=true->ay ρ Z H h vs aCL-> ∃cs,Jp gs aCL cs/\ay ρ Z H h (fa vs) cs
 | [],[],[],_,_=>⟨[],rfl,by simp [fa,ay]⟩
 |none::gs,v::vs,a::aCL,b,d=>by
  simp only [ay]at d;simp only [Un,aA5]at b;obtain⟨cs,j,k⟩:=ajh b.2 d.2;have r:kp v=[v]:=by cases v<;>first |rfl |(simp at b)
  exact⟨a::cs,⟨cs,rfl,j⟩,by simp only [fa,r,aA7,aA6,ay];exact⟨d.1,k⟩⟩
 |some n::gs,v::vs,a::aCL,b,d=>by
  cases v with
  |agg c=>
   simp only [ay,aC]at d;simp only [Un,aA5]at b;obtain⟨⟨l,rfl,q⟩,p⟩:=d;obtain⟨cs,j,k⟩:=ajh b.2 p;exact⟨l++cs,⟨l,cs,rfl,by rw [<-q.len];exact aA8 b.1,rfl,j⟩,by simp only [fa,kp];exact q.app k⟩
  |_=>simp [Un]at b
 | [],_::_,_,b,_=>by simp [Un]at b
 |none::_,[],_,b,_=>by simp [Un]at b
 |some _::_,[],_,b,_=>by simp [Un]at b
 | [],[],_::_,_,d=>by simp [ay]at d
 |none::_,_::_,[],_,d=>by simp [ay]at d
 |some _::_,_::_,[],_,d=>by simp [ay]at d
def aiO (E:Env) (g:Nat) (a:Spec):Prop:= ∀(A:Nat->Prop) (H:AH) (aCL d:List AV) (x:a.t.Den),(∀b,A b->b<H.next)->Jp a.gs aCL d->eC A H a.t x d->a.pre x=true->
 ∃v c ρ Z,C E g aCL H=some (v,c)/\Rel H A ρ Z c (iq (a.bl x))/\aC ρ Z c (iq (a.bl x)) (a.res x) v
def azZ (E:Env) (g:Nat):Prop:= ∀(H:AH) (b:Nat) (a d:AV) (j:List AV),H.get b=some (.cells (a::d::j) false (some (af2,true)))->(a= .ptr none\/a= .ptr (some (b,0)))->
 ∃c,C E g [.ptr (some (b,0))] H=some (.tuple [],c)/\(c=H\/c=H.set b (some (.cells (.ptr (some (b,0))::d::j) false (some (af2,true)))))
def aN (E:Env) (g:Nat) (a:Spec):Prop:=match a.cc with |true=>azZ E g |false=>aiO E g a
theorem apl: ∀a i,cd (iq a) i=a[i]?
 | [],i=>by simp [iq,cd]
 |b::a,0=>by simp [iq,cd]
 |b::a,i+1=>by simp [iq,cd,apl a i]
structure Sh (n:Nat) (ρ2:Nat->Option Nat) (Z2:Nat->Prop) (H2:AH) (h2:List (Option LB)) (ρ':Nat->Option Nat) (Z':Nat->Prop) (h':List (Option LB)):Prop where
 z: ∀b,Z2 b->Z' b
 sh: ∀i x,vU (cd h2 i)=some x->vU (cd h' (n+i))=some x/\ρ' (n+i)=ρ2 i
mutual
theorem aC.shift {n:Nat} {ρ2 ρ':Nat->Option Nat} {Z2 Z':Nat->Prop} {h2 h':List (Option LB)} (m:Sh n ρ2 Z2 H h2 ρ' Z' h'): ∀(v:LV) {a:AV},okV v=true->aC ρ2 Z2 H h2 v a->aC ρ' Z' H h' (yQ n v) a
 | .p6,_,_,_=>by simp [yQ,aC]
 | .val t x,_,_,hr=>by simp only [yQ,aC]at hr⊢;exact hr.z m.z
 | .nil,_,_,hr=>by simpa only [yQ,aC]using hr
 | .nilFunc,_,_,hr=>by simpa only [yQ,aC]using hr
 | .own id,_,_,hr=>by
  simp only [yQ,aC]at hr⊢;obtain⟨t,k,h1,hx⟩:=hr;obtain⟨g1,g2⟩:=m.sh id _ h1;refine⟨t,k,g1, ?_⟩;rw [g2];rcases hx with hx |⟨q1,q2,q3 |⟨b,o,cells,el,q3,q4,q5,q6⟩⟩
  ·exact .inl hx
  ·exact .inr ⟨q1,q2,.inl q3⟩
  ·exact .inr ⟨q1,q2,.inr ⟨b,o,cells,el,q3,m.z b q4,q5,q6⟩⟩
 | .part id lo k,_,_,hr=>by
  simp only [yQ,aC]at hr⊢;obtain⟨t,N,h1,h0,hx⟩:=hr;obtain⟨g1,g2⟩:=m.sh id _ h1;refine⟨t,N,g1,h0, ?_⟩;rw [g2];rcases hx with hx |⟨q1,q2,q3 |⟨b,o,cells,el,q3,q4,q5,q6⟩⟩
  ·exact .inl hx
  ·exact .inr ⟨q1,q2,.inl q3⟩
  ·exact .inr ⟨q1,q2,.inr ⟨b,o,cells,el,q3,m.z b q4,q5,q6⟩⟩
 | .agg l,_,hf,hr=>by
  simp only [yQ,aC]at hr⊢;obtain⟨l',h1,hx⟩:=hr;exact⟨l',h1,ay.shift m l (by simpa [okV]using hf) hx⟩
 | .tuple l,_,hf,hr=>by
  simp only [yQ,aC]at hr⊢;obtain⟨l',h1,hx⟩:=hr;exact⟨l',h1,ay.shift m l (by simpa [okV]using hf) hx⟩
 | .tight _ _,_,hf,_=>by simp [okV]at hf
 | .ptr _ _,_,hf,_=>by simp [okV]at hf
 | .xO _ _ _,_,hf,_=>by simp [okV]at hf
 | .iX _ _,_,hf,_=>by simp [okV]at hf
 | .func _ _ _,_,hf,_=>by simp [okV]at hf
 | .yield _,_,hf,_=>by simp [okV]at hf
 | .ET _,_,hf,_=>by simp [okV]at hf
theorem ay.shift {n:Nat} {ρ2 ρ':Nat->Option Nat} {Z2 Z':Nat->Prop} {h2 h':List (Option LB)} (m:Sh n ρ2 Z2 H h2 ρ' Z' h'): ∀(v:List LV) {a:List AV},awX v=true->ay ρ2 Z2 H h2 v a->ay ρ' Z' H h' (GA n v) a
 | [],[],_,_=>by simp [GA,ay]
 |v::vs,a::aCL,hf,hr=>by
  simp only [GA,ay]at hr⊢;simp only [awX,aA5]at hf;exact⟨aC.shift m v hf.1 hr.1,ay.shift m vs hf.2 hr.2⟩
 | [],_::_,_,hr=>by simp [ay]at hr
 |_::_,[],_,hr=>by simp [ay]at hr
end
theorem ahy: ∀t {x} {cs},afp t=true->eC Z H t x cs->eC Z' H' t x cs
 | .int _,_,_,_,h=>h
 | .bool,_,_,_,h=>h
 | .str,_,_,_,h=>h
 | .unit,_,_,_,h=>h
 | .CH,_,_,_,h=>h
 | .pair a b,_,_,c,⟨d,j,e,k,l⟩=>by
  simp only [afp,aA5]at c;exact⟨d,j,e,ahy a c.1 k,ahy b c.2 l⟩
 | .list t,_,_,c,_=>by simp [afp]at c
 | .ref t,_,_,c,_=>by simp [afp]at c
mutual
theorem apZ {ρ2 ρ':Nat->Option Nat} {Z2 Z':Nat->Prop} {H2 H':AH} {h2 h':List (Option LB)} (n:Nat): ∀(v:LV) {a:AV},Ff v=true->aC ρ2 Z2 H2 h2 v a->aC ρ' Z' H' h' (yQ n v) a
 | .val t x,_,hf,hr=>by simp only [yQ,aC]at hr⊢;exact ahy t (by simpa [Ff]using hf) hr
 | .nilFunc,_,_,hr=>by simpa only [yQ,aC]using hr
 | .agg l,_,hf,hr=>by
  simp only [yQ,aC]at hr⊢;obtain⟨l',h1,hx⟩:=hr;exact⟨l',h1,acU n l (by simpa [Ff]using hf) hx⟩
 | .tuple l,_,hf,hr=>by
  simp only [yQ,aC]at hr⊢;obtain⟨l',h1,hx⟩:=hr;exact⟨l',h1,acU n l (by simpa [Ff]using hf) hx⟩
 | .p6,_,hf,_=>by simp [Ff]at hf
 | .nil,_,hf,_=>by simp [Ff]at hf
 | .own _,_,hf,_=>by simp [Ff]at hf
 | .part _ _ _,_,hf,_=>by simp [Ff]at hf
 | .tight _ _,_,hf,_=>by simp [Ff]at hf
 | .ptr _ _,_,hf,_=>by simp [Ff]at hf
 | .xO _ _ _,_,hf,_=>by simp [Ff]at hf
 | .iX _ _,_,hf,_=>by simp [Ff]at hf
 | .func _ _ _,_,hf,_=>by simp [Ff]at hf
 | .yield _,_,hf,_=>by simp [Ff]at hf
 | .ET _,_,hf,_=>by simp [Ff]at hf
theorem acU {ρ2 ρ':Nat->Option Nat} {Z2 Z':Nat->Prop} {H2 H':AH} {h2 h':List (Option LB)} (n:Nat): ∀(v:List LV) {a:List AV},ai4 v=true->ay ρ2 Z2 H2 h2 v a->ay ρ' Z' H' h' (GA n v) a
 | [],[],_,_=>by simp [GA,ay]
 |v::vs,a::aCL,hf,hr=>by
  simp only [GA,ay]at hr⊢;simp only [ai4,aA5]at hf;exact⟨apZ n v hf.1 hr.1,acU n vs hf.2 hr.2⟩
 | [],_::_,_,hr=>by simp [ay]at hr
 |_::_,[],_,hr=>by simp [ay]at hr
end
end
section
variable {Hb:AH} {A:Nat->Prop} {ρ:Nat->Option Nat} {Z:Nat->Prop} {H:AH} {h:List (Option LB)} {s:St} {f:AF} {fs:List AF} {α:Type}
theorem Mv.gQ (c:SR Hb A ρ Z H s f fs) (d:jh H H'):Mv (λ_=>False) ρ Z H s.h ρ Z H' s.h:=⟨λb a=>⟨a,d.2 b (c.rel.G9 b a)⟩,λid x _ j=>⟨j,rfl⟩⟩
theorem SR.gQ (a:SR Hb A ρ Z H s f fs) (c:jh H H'):SR Hb A ρ Z H' s f fs:=by
 have m:=Mv.gQ a c;refine⟨⟨a.rel.gQ.trans c,λid B d=>(a.rel.own id B d).mv0 m λb j=>c.2 b (a.rel.hi id b aj j).2.1,λid b d j=> ?_,a.rel.inj,λb k=>aB4 (a.rel.G9 b k) c.1,a.rel.VH⟩,a.cur.mv m (λ_ _ _ h=>h),iL.mv0 m a.mR⟩;obtain⟨l,n,p⟩:=a.rel.hi id b d j;exact⟨l,aB4 n c.1,p⟩
theorem ak9: ∀ {b} {i:Nat} {B},ajy b=true->b[i]? =some B-> ∃t l,B= .seq t l
 | [],i,B,_,c=>by simp at c
 | .seq t l::b,0,B,_,c=>by simp at c;exact⟨t,l,c.symm⟩
 | .seq t l::b,i+1,B,a,c=>ak9 (by simpa [ajy]using a) (by simpa using c)
 | .cells _::b,i,B,a,_=>by simp [ajy]at a
 | .loop _ _ _ _ _ _::b,i,B,a,_=>by simp [ajy]at a
 | .qW _ _::b,i,B,a,_=>by simp [ajy]at a
 | .KU _ _::b,i,B,a,_=>by simp [ajy]at a
theorem arB (vf:aiO E g T) (U:SR Hb A ρ Z H s f fs) {k:LV->St->Option α} (hr:ay ρ Z H s.h p aCL) (hk:afe T p s k=some r):
  EOk (match cP (fa p)with | []=>false |_::_=>true) (anE s.h (cP (fa p))) Hb A ρ Z H s f fs k r (C E g aCL H):=by
 simp only [afe]at hk;cases hg:Un T.gs p with
 |false=>simp_all
 |true=>
  rw [hg]at hk;obtain⟨cs,vg,vk⟩:=ajh hg hr;obtain⟨x,S,h2⟩:=adx U.rel hk vk;cases hp:T.pre x with
  |false=>simp_all
  |true=>
   rw [hp]at S;split at S
   ·rename_i hf;simp only [aA5]at hf;have Y:T.bl x=[]:=by
     cases D:T.bl x with
     |nil=>rfl
     |cons b bs=>rw [D]at hf;simp [avq]at hf
    obtain⟨v,H',va,Z2,q1,w,q3⟩:=vf (λb=>b<H.next) H aCL cs x (λ_ h=>h) vg (h2 _ ⟨λb q=>U.rel.G9 b q,λb ⟨i,_,N,G⟩=>(U.rel.hi i b G N).2.1⟩ (λ_ i b N G=>(U.rel.hi i b G N).2.1)) hp;simp only [ack,Y,iq,aBb]at S;refine⟨_,s,v,H',ρ,Z,S,q1,⟨U.gQ w.gQ,⟨λb q=>⟨q,w.gQ.2 b (U.rel.G9 b q)⟩,w.gQ.1,PF.refl _,F9.refl _,λid _ _ D=>⟨rfl,rfl,λb vc=>w.gQ.2 b (U.rel.hi id b D vc).2.1⟩,.inl (aBg _)⟩⟩, ?_⟩;exact apZ s.nx _ hf.1 q3
   ·cases ho:(okV (T.res x)&&ajy (T.bl x)&&J5 T.t)with
    |false=>simp_all
    |true=>
     rw [ho]at S;simp only [aA5]at ho;obtain⟨ho,vl⟩:=ho;simp only [ack]at S;obtain⟨Z1,d,vd,vh,ve⟩: ∃Z',SR Hb A ρ Z' H (qc (cP (fa p)) s) f fs/\Tr (match cP (fa p)with | []=>false |_::_=>true) (anE s.h (cP (fa p))) ρ Z H s ρ Z' H (qc (cP (fa p)) s)/\(qc (cP (fa p)) s).nx=s.nx/\ ∀b,alj ρ s.h (cP (fa p)) b->Z' b:=by
      cases hl:cP (fa p)with
      |nil=>exact⟨Z,U,(Dr.refl Z s).tr _,rfl,λb ⟨i,V,_⟩=>by simp at V⟩
      |cons i is=>
       refine SR.qc (wr:=anE s.h (i::is)) (i::is) U (λj O=> ?_) (λj O=> ?_)
       ·simp only [anE,aBZ];exact .inr O
       ·have:=aaY (i:=0) O;rw [aBh]at this;simp only [anE,aBZ];exact .inl this
     obtain⟨u,vm⟩: ∃u,u=qc (cP (fa p)) s:=⟨_,rfl⟩;rw [<-vm]at d vd vh S;obtain⟨v,H',va,Z2,q1,w,q3⟩:=vf Z1 H aCL cs x d.rel.G9 vg (h2 _ ⟨λb q=>(vd.z b q).1,ve⟩ (λe=>by rw [vl]at e;cases e)) hp;obtain⟨I,Y⟩: ∃I,I=T.bl x:=⟨_,rfl⟩;rw [<-Y]at S ho w q3;obtain⟨n,hn⟩: ∃n,n=u.nx:=⟨_,rfl⟩;have vn:n=u.h.length:=hn;rw [<-hn]at S;have F: ∀id,id<n->cd (u.h++iq I) id=cd u.h id:=λid Q=>by rw [km,if_pos aa]
     have K: ∀i,cd (u.h++iq I) (n+i)=cd (iq I) i:=λi=>by rw [km,if_neg aa,show n+i-u.h.length=i by omega]
     let W:Nat->Option Nat:=λid=>if id<n then ρ id else va (id-n)
     have L: ∀id,id<n->W id=ρ id:=λid Q=>if_pos Q
     have M: ∀i,W (n+i)=va i:=λi=>by show(if n+i<n then _ else _)=_;rw [if_neg aa,show n+i-n=i by omega]
     have vp: ∀ {id B},cd u.h id=some B->id<n:=λ{id B} D=>by rw [vn];exact ot D
     have a: ∀id,id<n\/ ∃i,id=n+i:=λid=>by
      by_cases c:id<n
      ·omega
      ·exact .inr ⟨id-n,aa⟩
     have m:Mv (λ_=>False) ρ Z1 H u.h W (λb=>Z1 b\/Z2 b) H' (u.h++iq I):=by
      refine⟨λb q=>⟨.inl q,w.gQ.2 b (d.rel.G9 b q)⟩,λid y _ hy=> ?_⟩;have Q:id<n:=by
       cases D:cd u.h id with
       |none=>rw [D]at hy;simp [vU]at hy
       |some B=>simp_all
      simp_all
     have zh: ∀b,Z2 b->Z1 b\/H.next<=b:=w.VH;refine⟨_,⟨u.cur,u.mR,u.h++iq I⟩,v,H',W,λb=>Z1 b\/Z2 b,S,q1,⟨⟨⟨d.rel.gQ.trans w.gQ,λid B P=> ?_,λid b P D=> ?_,λi j b V O N G=> ?_,λb q=> ?_,λb q=> ?_⟩,d.cur.mv m (λ_ _ _ h=>h),iL.mv0 m d.mR⟩, ?_⟩, ?_⟩
     ·change cd (u.h++iq I) id=some B at P;rcases a id with c |⟨i,rfl⟩
      ·rw [F id c]at P;rw [L id c];exact(d.rel.own id B P).mv0 m λb D=>w.gQ.2 b (d.rel.hi id b aj D).2.1
      ·rw [K]at P;rw [M];have vj:=P;rw [apl]at vj;obtain⟨t,l,rfl⟩:=ak9 ho.2 vj;rcases w.own i _ P with⟨b,vo,el,N,G,e3⟩ |e
       ·exact .inl ⟨b,vo,el,N,G,e3.mono λb q=>⟨.inr q,rfl⟩⟩
       ·exact .inr e
     ·change cd (u.h++iq I) id≠none at P;rcases a id with c |⟨i,rfl⟩
      ·rw [F id c]at P;rw [L id c]at D;obtain⟨g1,g2,g3⟩:=d.rel.hi id b P D;refine⟨g1,aB4 g2 w.gQ.1,λq=>q.elim g3 λq=>(zh b q).elim g3 λq=>aa⟩
      ·rw [K]at P;rw [M]at D;obtain⟨g1,g2,g3⟩:=w.hi i b P D;refine⟨aCo d.rel.gQ.1 g1,g2,λq=>q.elim (λq=> ?_) g3⟩;have:=d.rel.G9 b q;omega
     ·change cd (u.h++iq I) i≠none at V;rcases a i with c |⟨i',rfl⟩
      ·rw [F i c]at V;rw [L i c]at N;rcases a j with c' |⟨j',rfl⟩
       ·rw [F j c']at O;rw [L j c']at G;exact d.rel.inj i j b V O N G
       ·rw [K]at O;rw [M]at G;have:=(d.rel.hi i b V N).2.1;have:=(w.hi j' b O G).1;omega
      ·rw [K]at V;rw [M]at N;rcases a j with c' |⟨j',rfl⟩
       ·rw [F j c']at O;rw [L j c']at G;have:=(d.rel.hi j b O G).2.1;have:=(w.hi i' b V N).1;omega
       ·rw [K]at O;rw [M]at G;rw [w.inj i' j' b V O N G]
     ·rcases q with q |q
      ·exact aB4 (d.rel.G9 b q) w.gQ.1
      ·exact w.G9 b q
     ·rcases q with q |q
      ·exact d.rel.VH b q
      ·exact(zh b q).elim (d.rel.VH b) λq=> .inr (aCo d.rel.gQ.1 q)
     ·refine vd.trans (s'':=⟨u.cur,u.mR,u.h++iq I⟩) ⟨λb q=>m.z b q,w.gQ.1,PF.refl _,F9.refl _,λid Q _ D=> ?_,.inl ?_⟩ (Nat.le_of_eq vh.symm)
      ·have R:id<n:=by rw [hn];exact Q
       rw [F id R]at D;exact⟨by show GD (cd (u.h++iq I) id)=_;rw [F id R],L id R,λb vc=>w.gQ.2 b (d.rel.hi id b D vc).2.1⟩
      ·show u.h.length<=(u.h++iq I).length;simp_all
     ·exact aC.shift ⟨λb q=> .inr q,λi y hy=>⟨by rw [K];exact hy,M i⟩⟩ _ ho.1 q3
theorem MQ: ∀ {n i},i<n->i∈upto n
 |0,i,h=>aa
 |n+1,i,h=>by
  simp only [upto,List.mem_cons];by_cases e:i=n
  ·exact .inl e
  ·exact .inr (MQ aa)
theorem ahm: ∀ {vs} {aCL} n i,ay ρ Z H h vs aCL->aC ρ Z H h (dN (anX vs n) (n+i)) ((aCL[i]?).getD .undef)
 | [],[],n,i,_=>by simp [anX,dN,aC]
 |v::vs,a::aCL,n,0,b=>by
  simp only [ay]at b;simp only [anX,dN,aCd];rw [show aBc n n=true by simp [aBK]];simpa using b.1
 |v::vs,a::aCL,n,i+1,b=>by
  simp only [ay]at b;simp only [anX,dN];rw [show aBc n (n+(i+1))=false from beq_false aa,cond_false,show n+(i+1)=n+1+i by omega];simpa using ahm (n+1) i b.2
 | [],_::_,_,_,b=>by simp [ay]at b
 |_::_,[],_,_,b=>by simp [ay]at b
theorem ato (b:SR Hb A ρ Z H s f fs) F (c:ay ρ Z H s.h a aCL):SR Hb A ρ Z H (enter F a s) (AF.init aCL F.n) (f::fs):=by
 refine⟨b.rel,⟨?_,λi=> ?_⟩,⟨b.cur,b.mR⟩⟩
 ·show Nat.max a.length F.n=max aCL.length F.n;rw [c.len]
 ·show aC ρ Z H s.h (dN (anX a 0) i) _;rw [AF.Mg];have:=ahm 0 i c;rwa [aBh]at this
theorem ayN (d:SR Hb A ρ Z H s f fs) {k:LV->Option α} (a:axj s x k=some r): ∃lv v,k lv=some r/\mE f H x=some v/\aC ρ Z H s.h lv v:=by
 cases x with
 |t i=>exact⟨_,_,a,rfl,d.cur.2 i⟩
 |c1 i=>
  simp only [axj]at a;have c:=d.cur.2 i;split at a
  ·rename_i id o p;rw [p]at c;split at a
   ·rename_i E q;obtain⟨b,aCL,F,u,w,l⟩:=oq d q;simp only [aC]at c;obtain⟨m,G,I,j,y⟩:=c;rw [u]at j;cases j;obtain⟨v,z,D⟩:=uR a;obtain⟨K,L,M⟩:=l.nth z;exact⟨v,K,D,by simp only [mE,y,w];exact L,M⟩
   ·cases a
  ·cases a
 |cN i n=>
  simp only [axj]at a;have c:=d.cur.2 i;split at a
  ·rename_i id o p;rw [p]at c;split at a
   ·rename_i E q;obtain⟨b,aCL,F,u,w,l⟩:=oq d q;simp only [aC]at c;obtain⟨m,G,I,j,y⟩:=c;rw [u]at j;cases j;obtain⟨z,D⟩:=EI a;refine⟨_,.agg ((aCL.drop o).take n),D, ?_, ?_⟩
    ·simp only [mE,y,db,w,<-l.len,z];rfl
    ·simp only [aC];exact⟨_,rfl,ay.take n (ay.drop o l)⟩
   ·cases a
  ·cases a
theorem apL (b:SR Hb A ρ Z H s f fs): ∀ {xs} {k:List LV->Option α} {r},akl s xs k=some r-> ∃lvs vs,k lvs=some r/\fp f H xs=some vs/\ay ρ Z H s.h lvs vs
 | [],k,r,a=>⟨[],[],a,rfl,by simp [ay]⟩
 |x::xs,k,r,a=>by
  simp only [akl]at a;obtain⟨c,v,d,j,l⟩:=ayN b a;obtain⟨lvs,vs,n,p,q⟩:=apL b d;exact⟨c::lvs,v::vs,n,by simp only [fp,j,p],by simp only [ay];exact⟨l,q⟩⟩
def V7:List AV->AV
 | [v]=>v
 |l=> .tuple l
theorem agT: ∀ {lvs} {vs},ay ρ Z H h lvs vs->aC ρ Z H h (single lvs) (V7 vs)
 | [],[],_=>by simp [single,V7,aC,ay]
 | [v],[a],c=>by simp only [ay]at c;exact c.1
 |v::w::vs,a::b::aCL,c=>by simp only [single,V7,aC];exact⟨_,rfl,c⟩
 | [],_::_,c=>by simp [ay]at c
 |_::_,[],c=>by simp [ay]at c
 | [_],_::_::_,c=>by simp [ay]at c
 |_::_::_,[_],c=>by simp [ay]at c
theorem ahl {cv:Bx α} (y:ala V cv (gA (X E) (C E))) (W:eD E g F.erase) (Y:SR Hb A ρ Z H s f fs) (hr:ay ρ Z H s.h t aCL)
  (D:An cv V K F.body (enter F t s) (eF F k)=some r):EOk true (upto s.nx) Hb A ρ Z H s f fs k r (C E g aCL H):=by
 obtain⟨e,p,f',b,c,G,I,S,L,M⟩:=EA y K F.body (ato Y F hr) D;have u:(akl p F.res λvs=>match p.mR with | []=>none |f::fs=>k (single vs) ⟨f,fs,p.h⟩)=some r->(∃q,X E F.body.erase (AF.init aCL F.n) H=some q/\gY F.erase q=(fp f' b F.res).bind λl=>match l with | [v]=>some (v,b) |l=>some (.tuple l,b))->EOk true (upto s.nx) Hb A ρ Z H s f fs k r (C E g aCL H):=λD hq=>by
  obtain⟨lvs,vs,N,g2,g3⟩:=apL L D;obtain⟨q,O,P⟩:=hq;have hc:C E g aCL H=some (V7 vs,b):=by
   rw [W.C];show(X E F.body.erase (AF.init aCL F.n) H).bind (gY F.erase)=_;rw [O,aCq,P,g2,aCq]
   match vs with
   | []=>rfl
   | [v]=>rfl
   |v::w::vs=>rfl
  have a:=M.mR;have x:=L.mR;split at N
  ·cases N
  ·rename_i Q d R;rw [R]at a x;have T:PF true s.cur Q/\F9 s.mR d:=a;have U:CX c G b p.h Q f/\iL c G b p.h d fs:=x;refine⟨_,⟨Q,d,p.h⟩,V7 vs,b,c,G,N,hc,⟨⟨L.rel,U.1,U.2⟩,⟨M.z,M.next,T.1,T.2,λid j hn=>absurd (MQ j) hn,.inr λid j=>MQ j⟩⟩,agT g3⟩
 cases e with
 |exit i=>cases I
 |normal=>exact u I ⟨_,S,rfl⟩
 |ret=>exact u I ⟨_,S,rfl⟩
structure ar5 (E:Env) (S:Nat->Option Spec) (L:Nat->Option LFn):Prop where
 sp: ∀g sp,S g=some sp->aN E g sp
 fn: ∀g F,L g=some F->eD E g F.erase
theorem asB {cv:Bx α} (M:ala pu cv (gA (X E) (C E))) (V:SR Hb A ρ Z H s f fs) (hr:ay ρ Z H s.h N aCL)
  {id} (hB:cd s.h id=some (.loop .ready pd fr ps a b)) (hl:ρ id=some l) (hH:H.get l=some (.loop ⟨.ready,Mu pd,g,ps,a.erase,b.erase⟩)) (hF:CX ρ Z H s.h fr g)
  (hk:(alk fr.n fr.r ps N λrg=>An cv pu K a ⟨⟨fr.n,rg⟩,ghost id::s.cur::s.mR,s.h⟩ (ahI (An cv pu K b) k))=some r):EOk true (upto s.nx) Hb A ρ Z H s f fs k r (gA (X E) (C E) (.yield l) aCL H):=by
 obtain⟨rg,g',h1,h2,h3⟩:=ajS (rg:=fr.r) (n:=fr.n) hF hr hk;have W:vU (cd s.h id)=some (none,0):=by rw [hB];rfl
 have Y:SR Hb A ρ Z H ⟨⟨fr.n,rg⟩,s.cur::s.mR,s.h⟩ g' (f::fs):=⟨V.rel,h3,⟨V.cur,V.mR⟩⟩;have va:=Y.push W hl;obtain⟨e1,s1,f1,H1,vm,Z1,Q,p2,p3,p4⟩:=EA M K a va h1;cases e1 with
 |exit i=>cases Q
 |ret=>cases Q
 |normal=>
  simp only [ahI]at Q;obtain⟨F1,w,p,vc,y,O,D,a1,b1,g1,q1,q2,q3,q4,q5,q6,q7⟩:=Za p3 Q;have t:=p4.mR;rw [q1]at t;have vd:F9 (s.cur::s.mR) w:=t.2;cases vc with
  |ready=>
   obtain⟨w1,w2⟩:=q7.re (st:= .busy) (pd:=y) (ps:=D) (a:=a1) (c:=b1) q3 rfl q4 q6;have ve:cd ((⟨s1.cur,w,s1.h⟩:St).put p (.loop .busy y O D a1 b1)).h p=some (.loop .busy y O D a1 b1):=by
    show cd (hZ s1.h p _) p=_;rw [jq,if_pos ⟨rfl,ot q3⟩]
   have w3:=w1.push (by rw [ve];rfl) q4;obtain⟨e2,s2,f2,R,vf,Z2,t1,t2,t3,t4⟩:=EA M K b w3 q2;unfold amE at t1;obtain⟨F2,G,vg,vn,vo,vh,I,a2,b2,g2,u1,S,u3,u4,u5,u6,u7⟩:=Za t3 t1;have u:=t4.mR;rw [u1]at u;have vj:F9 w G:=u.2;have hp:F9 (s.cur::s.mR) G:=F9.trans vd vj;have tz: ∀x,Z x->Z2 x/\R.get x=H.get x:=λx hz=>by
    obtain⟨c1,c2⟩:=p4.z x hz;obtain⟨c3,c4⟩:=w2.z x c1;obtain⟨c5,c6⟩:=t4.z x c3;exact⟨c5,by rw [c6,c4,c2]⟩
   have tn:H.next<=R.next:=aCo p4.next (aCo w2.next t4.next);cases G with
   |nil=>cases e2<;>cases S
   |cons F L=>
   have d: ∀(T:LoopState) (U:Option AE) (bv:Bool),k (.val .bool bv) ⟨F,L,hZ s2.h vg (some (.loop T U vh I a2 b2))⟩=some r->
     gA (X E) (C E) (.yield l) aCL H=some (.bool bv,R.set l (some (.loop ⟨T,Mu U,g2,I,a2.erase,b2.erase⟩)))->EOk true (upto s.nx) Hb A ρ Z H s f fs k r (gA (X E) (C E) (.yield l) aCL H):=λT U bv vk hc=>by
    obtain⟨v1,v2⟩:=u7.re (st:=T) (pd:=U) (ps:=I) (a:=a2) (c:=b2) u3 rfl u4 u6;have vl:=v1.mR;have v:CX _ _ _ _ F f/\iL _ _ _ _ L fs:=vl;have P:PF true s.cur F/\F9 s.mR L:=hp;refine⟨_,_,_,_,vf,Z2,vk,hc,⟨⟨v1.rel,v.1,v.2⟩,⟨λx hz=> ?_,aCo tn v2.next,P.1,P.2,λi hi hn=>absurd (MQ hi) hn,.inr λi hi=>MQ hi⟩⟩, ?_⟩
    ·obtain⟨c1,c2⟩:=tz x hz;obtain⟨c3,c4⟩:=v2.z x c1;exact⟨c3,by rw [c4,c2]⟩
    ·simp only [aC,eC]
   have j: ∀q,IS l (e2,f2,R)=some q->gA (X E) (C E) (.yield l) aCL H=some q:=λq hq=>by
    rw [abh];simp only [FP,hH,aCq,h2,p2,aiM,q5];exact(congrArg (λo=>Option.bind o (IS l)) t2).trans hq
   cases e2 with
   |normal=>exact d .ready none true S (j _ (by simp only [IS,FP,u5,aCq];rfl))
   |exit i=>exact d .done (some (.exit i)) false S (j _ (by simp only [IS,FP,u5,aCq];rfl))
   |ret=>exact d .done (some .ret) false S (j _ (by simp only [IS,FP,u5,aCq];rfl))
  |_=>cases q2
theorem awP (D:azZ E g) (u:SR Hb A ρ Z H s f fs) {k:LV->St->Option α} (v:ay ρ Z H s.h l aCL) (d:amp l s k=some r):
  EOk true (upto s.nx) Hb A ρ Z H s f fs k r (C E g aCL H):=by
 unfold amp at d;split at d
 ·rename_i id;split at d
  ·rename_i F w x n;cases G:aBc id F with
   |false=>rw [G]at d;cases d
   |true=>
    rw [G,cond_true]at d;have:=aA8 G;subst this;cases aCL with
    |nil=>simp [ay]at v
    |cons a aCL=>
     cases aCL with
     |cons _ _=>simp [ay]at v
     |nil=>
      simp only [ay,aC]at v;obtain⟨⟨m,b,R,p,rfl⟩,_⟩:=v;obtain⟨Y,c,el,M,N,y,q⟩:=KJ u n;rw [p]at M;cases M;rcases c with _ |⟨I,_ |⟨K,c⟩⟩
      ·simp [ay]at y
      ·simp [ay]at y
      ·simp only [ay]at y;obtain⟨z,S⟩:=y;rw [q rfl]at N;have L:I= .ptr none\/I= .ptr (some (b,0)):=by
        simp only [aC]at z;rcases z with z |⟨m',T,e1,O,U⟩
        ·exact .inl z
        ·rw [p]at O;cases O;exact .inr U
       obtain⟨H',P,V⟩:=D H b I K c N L;rcases V with rfl |rfl
       ·exact⟨_,s,.tuple [],_,_,_,d,P,⟨u,(Dr.refl Z s).tr _⟩,by simp [aC,ay]⟩
       ·have j:=u.put (B':= .cells (.oG id::w::x)) (cs':= .ptr (some (b,0))::K::c) (el':=some (af2,true)) n rfl p ⟨by
         simp only [ay];refine⟨?_,S⟩;simp only [aC];exact .inr ⟨_,b,R,p,rfl⟩,λ_=>rfl⟩
        have W:s.put id (.cells (.oG id::w::x))=s:=by
         show(⟨s.cur,s.mR,hZ s.h id (some (.cells (.oG id::w::x)))⟩:St)=s;rw [Hu n]
        have t:Tr true [id] ρ Z H s ρ Z (H.set b (some (.cells (.ptr (some (b,0))::K::c) false (some (af2,true))))) (s.put id (.cells (.oG id::w::x))):=ads u n p;rw [W]at j t;refine⟨_,s,.tuple [],_,_,_,d,P,⟨j,t.more (λi Q=> ?_)⟩,by simp [aC,ay]⟩;simp at Q;subst Q;exact MQ (ot n)
  ·cases d
 ·cases d
theorem adP (w:ar5 E S L) K: ∀d,ala (α:=α) (puS S) (tA S L K d) (gA (X E) (C E))
 |0=>by intro q u v x;cases x
 |d+1=>by
  intro q u v x;rename_i Hb A ρ Z H s f fs g T j aCL k r;have c:XB S L K (tA S L K d) g j s k=some r:=x;clear x;cases g with
  |func g a b=>
   simp only [aC]at u;obtain⟨N,O,rfl,y,z⟩:=u;simp only [XB]at c;cases t:S g with
   |some D=>
    rw [t]at c;simp only at c;split at c
    ·cases N with
     |cons _ _=>simp [ay]at y
     |nil=>
      cases O with
      |cons _ _=>simp [ay]at z
      |nil=>
       have n:=w.sp g D t;unfold aN at n;cases p:D.cc with
       |false=>
        rw [p]at c n;have:=arB n q v c;simp only [puS,t,p,aCt,cond_true,aL,aA6,aBb,Bool.not_true];exact this
       |true=>
        rw [p]at c n;have:=awP n q v c;simp only [puS,t,p,aCt,cond_false,aL,aA6,aBb,Bool.not_true];cases cP (fa j)<;>exact this
    ·cases c
   |none=>
    rw [t]at c;simp only at c;split at c
    ·rename_i F P;have:=ahl (adP w K d) (w.fn g F P) q ((y.app v).app z) c;simp only [puS,t,cond_false,aL,aCt];cases cP (fa j)<;>exact this
    ·cases c
  |yield id=>
   simp only [XB]at c;simp only [aC]at u;obtain⟨m,l,U,G,rfl⟩:=u;split at c
   ·rename_i V W Y a b I;obtain⟨l',g,M,Q,R⟩:=q.rel.own id _ I;rw [G]at M;cases M;exact asB (adP w K d) q v I G Q R c
   ·cases c
  |_=>cases c
theorem ati (c: ∀b,A b->b<H.next):SR H A (λ_=>none) A H .empty (AF.init [] 0) []:=by
 refine⟨⟨jh.refl H,λid B d=> ?_,λid b _ a=> ?_,λi j b _ _ a=> ?_,c,λb h=> .inl h⟩,⟨rfl,λi=> ?_⟩,trivial⟩
 ·simp [St.empty,cd]at d
 ·cases a
 ·cases a
 ·simp [St.empty,dN,aC]
theorem Ox: ∀ {gs} {j} {aCL cs},Jp gs aCL cs->ay ρ Z H h j cs->ay ρ Z H h (aI gs j) aCL
 | [],j,[],cs,b,d=>by simp [aI,ay]
 |none::gs,j,a::aCL,cs,b,d=>by
  obtain⟨k,rfl,b⟩:=b;cases j with
  |nil=>simp [ay]at d
  |cons l j=>
   simp only [ay]at d;simp only [aI,ay];exact⟨d.1,Ox b d.2⟩
 |some n::gs,j,a::aCL,cs,b,d=>by
  obtain⟨c,k,rfl,r,rfl,b⟩:=b;have p:=ay.take n d;have q:=ay.drop n d;rw [List.take_append_of_le_length aa,List.take_of_length_le (l:=c) aa]at p;rw [List.drop_append_of_le_length aa,List.drop_of_length_le (l:=c) aa,aA6]at q;simp only [aI,ay,aC];exact⟨⟨c,rfl,p⟩,Ox b q⟩
 | [],_,_::_,_,b,_=>by simp [Jp]at b
 |none::_,_,[],_,b,_=>by simp [Jp]at b
 |some _::_,_,[],_,b,_=>by simp [Jp]at b
theorem amJ (a:ar5 E S L) (c:eD E g F.erase) {k:LV->St->Option α}
  (j: ∀b,A b->b<H.next) (l:Jp gs aCL cs) (n:eC A H t x cs) (p:asp S L K d F (aI gs (aE t x)) k=some r):
  ∃lv s' v H' ρ' Z',k lv s'=some r/\C E g aCL H=some (v,H')/\SR H A ρ' Z' H' s' (AF.init [] 0) []/\aC ρ' Z' H' s'.h lv v:=by
 have q:=ati (H:=H) j;have u:ay (λ_=>none) A H St.empty.h (aI gs (aE t x)) aCL:=Ox l (kE t n);obtain⟨lv,s',v,H',ρ',Z',w,y,⟨z,_⟩,D⟩:=ahl (adP a K d) c q u p;exact⟨lv,s',v,H',ρ',Z',w,y,z,D⟩
theorem auN (b:aC ρ Z H h lv v) (d:Un gs (aa7 gs lv)=true) (c:gs≠ []): ∃vs,ay ρ Z H h (aa7 gs lv) vs/\v=(match gs with | [_]=>(match vs with | [a]=>a |l=> .tuple l) |_=> .tuple vs):=by
 match gs,c with
 | [g],_=>exact⟨[v],by simp only [aa7,ay];exact⟨b,trivial⟩,rfl⟩
 |g::n::gs,_=>
  cases lv with
  |tuple l=>
   simp only [aC]at b;obtain⟨j,rfl,k⟩:=b;exact⟨j,k,rfl⟩
  |_=>simp only [aa7]at d;cases g<;>simp [Un]at d
theorem afC: ∀ {gs} {aCL cs},Jp gs aCL cs->aCL.length=gs.length
 | [],[],_,_=>rfl
 |none::gs,a::aCL,cs,⟨b,_,h⟩=>by simp [afC h]
 |some n::gs,a::aCL,cs,⟨c,b,_,_,_,h⟩=>by simp [afC h]
 | [],_::_,_,h=>by simp [Jp]at h
 |none::_,[],_,h=>by simp [Jp]at h
 |some _::_,[],_,h=>by simp [Jp]at h
theorem avB (Y:ar5 E S L) (hK:eD E g F.erase) {pre} (q:c≠ [])
  (h: ∀x,pre x=true-> ∃K d,asp S L K d F (aI gs (aE t x)) (aJ c G some)=some (y x)):aN E g (.val gs t c G pre y):=by
 intro A H aCL cs x hA hg hx hp;obtain⟨K,d,hk⟩:=h x hp;obtain⟨W,s',v,I,M,Z',r,h2,p,h4⟩:=amJ Y hK hA hg hx hk;simp only [aJ]at r;cases k:Un c (aa7 c W)with
 |false=>rw [k]at r;cases r
 |true=>
  rw [k]at r;obtain⟨vs,N,hv⟩:=auN h4 k q;obtain⟨va,n,O⟩:=ajh k N;obtain⟨z,l,u⟩:=HR p.rel r O;have P:z=y x:=by simpa using l
  subst P;let D:Nat->Prop:=λb=>Z' b\/alj M s'.h (cP (fa (aa7 c W))) b
  have Q:=u D ⟨λb h=> .inl h,λb h=> .inr h⟩;refine⟨v,I,λ_=>none,D,h2,⟨p.rel.gQ,λid B hB=> ?_,λid b _ R=> ?_,λi j b _ _ R=> ?_,λb l=> ?_,λb l=> ?_⟩, ?_⟩
  ·simp [Spec.val,iq,cd]at hB
  ·cases R
  ·cases R
  ·rcases l with l |⟨i,_,T,U⟩
   ·exact p.rel.G9 b l
   ·exact(p.rel.hi i b U T).2.1
  ·rcases l with l |⟨i,_,T,U⟩
   ·exact p.rel.VH b l
   ·exact .inr (p.rel.hi i b U T).1
  ·have V:=Ox (ρ:=λ_=>none) (Z:=D) (H:=I) (h:=iq []) n (kE G Q);show aC (λ_=>none) D I (iq []) (single (aI c (aE G (y x)))) v;have w:=agT V;have hl:=afC n;rw [hv]
   match c,vs,hl,w with
   | [_],[a],_,w=>exact w
   |_::_::_,_::_::_,_,w=>exact w
   | [],_,_,_=>exact absurd rfl q
theorem au2 (U:ar5 E S L) (V:eD E g F.erase) {pre}
  (h: ∀x,pre x=true-> ∃K d,asp S L K d F (aI gs (aE t x)) (ah8 u some)=some (y x)):aN E g (.own gs t u pre y):=by
 intro A H aCL cs x W Y hx hp;obtain⟨K,d,hk⟩:=h x hp;obtain⟨lv,s',v,D,w,G,k,T,p,I⟩:=amJ U V W Y hx hk;have z: ∀ {id:Nat} {B:LB},cd (iq [.seq u (y x)]) id=some B->id=0/\B= .seq u (y x):=λ{id B} c=>by
  cases id with
  |zero=>simp [iq,cd]at c;exact⟨rfl,c.symm⟩
  |succ id=>simp [iq,cd]at c
 have a: ∀ {id:Nat},cd (iq [.seq u (y x)]) id≠none->id=0:=λ{id} c=>by
  cases id with
  |zero=>rfl
  |succ id=>simp [iq,cd]at c
 unfold ah8 at k;split at k
 ·rename_i id;simp only [y5]at k;split at k
  ·rename_i t' l N;obtain⟨e,k⟩:=FB k;cases e;have M:l=y x:=by simpa using k
   subst M;refine⟨v,D,λ_=>w id,G,T,⟨p.rel.gQ,λq B c=> ?_,λq b c r=> ?_,λi j b O P _ _=> ?_,p.rel.G9,p.rel.VH⟩, ?_⟩
   ·obtain⟨rfl,rfl⟩:=z c;rcases p.rel.own id _ N with⟨b,Q,el,e1,e2,e3⟩ |e
    ·exact .inl ⟨b,Q,el,e1,e2,e3⟩
    ·exact .inr e
   ·exact p.rel.hi id b (by rw [N];simp) r
   ·rw [a O,a P]
   ·simp only [aC]at I;obtain⟨t2,n,R,g2⟩:=I;rw [N]at R;simp only [vU,aBe,aBk]at R;obtain⟨rfl,rfl⟩:=R;show aC (λ_=>w id) G D (iq [.seq _ (y x)]) (.own 0) v;simp only [aC];exact⟨_,_,rfl,g2⟩
  ·cases k
 ·have M:y x=[]:=by
   have:some ([]:List u.Den)=some (y x):=k;simpa using this.symm
  simp only [aC]at I;refine⟨v,D,λ_=>none,G,T,⟨p.rel.gQ,λq B c=> ?_,λq b c r=> ?_,λi j b O P _ _=> ?_,p.rel.G9,p.rel.VH⟩, ?_⟩
  ·obtain⟨rfl,rfl⟩:=z c;exact .inr ⟨M,rfl⟩
  ·cases r
  ·rw [a O,a P]
  ·show aC (λ_=>none) G D (iq [.seq _ (y x)]) (.own 0) v;simp only [aC];exact⟨u,0,by rw [M];rfl,.inr ⟨by trivial,by trivial,.inl I⟩⟩
 ·cases k
theorem aqH (hE:ar5 E S L) (hK:eD E g F.erase) {pre}
  (h: ∀x,pre x=true-> ∃K d,asp S L K d F (aI gs (aE t x)) (acE p some)=some (y x)):aN E g (.part gs t p pre y):=by
 intro A H aCL cs x hA hg hx hp;obtain⟨K,d,hk⟩:=h x hp;obtain⟨lv,s',v,q,D,Z',a,h2,G,z⟩:=amJ hE hK hA hg hx hk;have O: ∀ {id:Nat} {B:LB},cd (iq [.seq p (y x).1]) id=some B->id=0/\B= .seq p (y x).1:=λ{id B} r=>by
  cases id with
  |zero=>simp [iq,cd]at r;exact⟨rfl,r.symm⟩
  |succ id=>simp [iq,cd]at r
 have c: ∀ {id:Nat},cd (iq [.seq p (y x).1]) id≠none->id=0:=λ{id} r=>by
  cases id with
  |zero=>rfl
  |succ id=>simp [iq,cd]at r
 have I: ∀ {id:Nat} {lo n:Int} {l:List p.Den},cd s'.h id=some (.seq p l)->aC D Z' q s'.h (.part id lo n) v->lo=0->(l,n)=y x-> ∃v q ρ Z,C E g aCL H=some (v,q)/\Rel H A ρ Z q (iq [.seq p (y x).1])/\aC ρ Z q (iq [.seq p (y x).1]) (.part 0 0 (y x).2) v:=by
  intro id lo n l u z k hy;subst k;have M:(y x).1=l:=by rw [<-hy]
  have P:(y x).2=n:=by rw [<-hy]
  refine⟨v,q,λ_=>D id,Z',h2,⟨G.rel.gQ,λQ B r=> ?_,λQ b r R=> ?_,λi j b hi hj _ _=> ?_,G.rel.G9,G.rel.VH⟩, ?_⟩
  ·obtain⟨rfl,rfl⟩:=O r;rw [M];rcases G.rel.own id _ u with⟨b,T,el,M,P,e3⟩ |e
   ·exact .inl ⟨b,T,el,M,P,e3⟩
   ·exact .inr e
  ·exact G.rel.hi id b (by rw [u];simp) R
  ·rw [c hi,c hj]
  ·rw [M,P];simp only [aC]at z⊢;obtain⟨t2,N,U,g0,g2⟩:=z;rw [u]at U;simp only [vU,aBe,aBk]at U;obtain⟨rfl,rfl⟩:=U;exact⟨_,_,rfl,g0,g2⟩
 show∃v q ρ Z,C E g aCL H=some (v,q)/\Rel H A ρ Z q (iq [.seq p (y x).1])/\aC ρ Z q (iq [.seq p (y x).1]) (.part 0 0 (y x).2) v;unfold acE at a;split at a
 ·rename_i id lo n;cases k:Int.same lo 0 with
  |false=>rw [k]at a;cases a
  |true=>
   rw [k,cond_true]at a;split at a
   ·rename_i t' l u;obtain⟨e,a⟩:=FB a;cases e;exact I u z (Int.dG k) (by simpa using a)
   ·cases a
 ·rename_i id;simp only [y5]at a;split at a
  ·rename_i t' l u;obtain⟨e,a⟩:=FB a;cases e;have a:(l,aBy l.length)=y x:=by simpa using a
   refine I (lo:=0) u ?_ rfl a;simp only [aC]at z⊢;obtain⟨t',n,p1,p2⟩:=z;have w:=p1;rw [u]at w;simp only [vU,aBe,aBk]at w;obtain⟨rfl,rfl⟩:=w;refine⟨_,l.length,p1,⟨aa,by simp only [aBz];omega,by simp only [aBz];omega⟩, ?_⟩;rcases p2 with⟨b,ex,V,W,Y⟩ |⟨V,W,Y⟩
   ·refine .inl ⟨b,ex,V, ?_,Y⟩;rw [W,show(0:Int).toNat=0 from rfl,Nat.zero_mul,Nat.sub_zero];rfl
   ·exact .inr ⟨V,W,Y⟩
  ·cases a
 ·cases a
end
end Ls
namespace Ls.Lib
open dC
open Go
def zB:List AV:=aCf 256 (.bool false)
noncomputable def axL:List bU:=[⟨some 4,.mv (.c (.int .i64 0)),none⟩]
noncomputable def axw:List bU:=[⟨some 5,.mv (.t 0),none⟩,⟨some 6,.mv (.t 1),none⟩,⟨some 7,.call (.c (.func 121 [] [])) [(.t 5),(.t 6)],none⟩,⟨some 4,.mv (.t 7),none⟩]
noncomputable def axz:dy:=(.seq (.region axL) (.seq (.region axw) .ret))
noncomputable def F82:AFn:=⟨8,[.t 4],axz⟩
noncomputable def axX:List bU:=[⟨some 4,.mv (.c (.bool false)),none⟩]
noncomputable def axO:List bU:=[⟨some 5,.mv (.t 0),none⟩,⟨some 6,.mv (.t 1),none⟩,⟨some 7,.call (.c (.func 83 [] [])) [(.t 5),(.t 6)],none⟩,⟨some 8,.bin .geq (.t 7) (.c (.int .i64 0)),none⟩,⟨some 4,.mv (.t 8),none⟩]
noncomputable def ax2:dy:=(.seq (.region axX) (.seq (.region axO) .ret))
noncomputable def F51:AFn:=⟨9,[.t 4],ax2⟩
noncomputable def ax3:List bU:=[⟨some 4,.mv (.c (.int .i64 0)),none⟩]
noncomputable def axR:List bU:=[⟨some 5,.mv (.t 0),none⟩,⟨some 6,.mv (.t 1),none⟩,⟨some 7,.call (.c (.func 122 [] [])) [(.t 5),(.t 6)],none⟩,⟨some 4,.mv (.t 7),none⟩]
noncomputable def axy:dy:=(.seq (.region ax3) (.seq (.region axR) .ret))
noncomputable def F83:AFn:=⟨8,[.t 4],axy⟩
noncomputable def avx:List bU:=[⟨some 4,.mv (.c (.int .i64 0)),none⟩]
noncomputable def at6:List bU:=[⟨some 5,.mv (.t 0),none⟩,⟨some 6,.mv (.t 1),none⟩,⟨some 7,.call (.c (.func 159 [] [])) [(.t 5),(.t 6)],none⟩,⟨some 4,.mv (.t 7),none⟩]
noncomputable def atd:dy:=(.seq (.region avx) (.seq (.region at6) .ret))
noncomputable def anu:AFn:=⟨8,[.t 4],atd⟩
noncomputable def auW:List bU:=[⟨some 4,.mv (.c (.str [])),none⟩]
noncomputable def anM:List bU:=[⟨some 5,.mv (.t 0),none⟩,⟨some 6,.len .str (.t 5),none⟩,⟨some 7,.bin .gtr (.t 6) (.c (.int .i64 0)),none⟩]
noncomputable def aty:List bU:=[⟨some 8,.mv (.t 1),none⟩,⟨some 9,.mv (.t 0),none⟩,⟨some 10,.Nq (.t 9) (.c (.int .i64 0)),none⟩,⟨some 11,.call (.c (.func 219 [] [])) [(.t 8),(.t 10)],none⟩,⟨some 12,.un .not (.t 11),none⟩]
noncomputable def avk:List bU:=[⟨some 13,.mv (.t 0),none⟩,⟨some 14,.Aw (.t 13) (some (.c (.int .i64 1))) none,none⟩,⟨some 0,.mv (.t 14),none⟩]
noncomputable def auX:dy:=(.seq (.seq (.region aty) (.cond (.t 12) (.exit 0) .skip)) (.region avk))
noncomputable def anK:dy:=(.seq (.seq (.region anM) (.cond (.t 7) .skip (.exit 0))) (.block 1 auX))
noncomputable def atj:dy:=(.loop anK)
noncomputable def aur:List bU:=[⟨some 15,.mv (.t 0),none⟩,⟨some 4,.mv (.t 15),none⟩]
noncomputable def aow:dy:=(.seq (.region auW) (.seq (.block 0 atj) (.seq (.region aur) .ret)))
noncomputable def arl:AFn:=⟨16,[.t 4],aow⟩
noncomputable def auS:List bU:=[⟨some 4,.mv (.c (.str [])),none⟩]
noncomputable def anS:List bU:=[⟨some 5,.mv (.t 0),none⟩,⟨some 6,.len .str (.t 5),none⟩,⟨some 7,.bin .gtr (.t 6) (.c (.int .i64 0)),none⟩]
noncomputable def aun:List bU:=[⟨some 8,.mv (.t 1),none⟩,⟨some 9,.mv (.t 0),none⟩,⟨some 10,.mv (.t 0),none⟩,⟨some 11,.len .str (.t 10),none⟩,⟨some 12,.bin .sub (.t 11) (.c (.int .i64 1)),none⟩,⟨some 13,.Nq (.t 9) (.t 12),none⟩,⟨some 14,.call (.c (.func 219 [] [])) [(.t 8),(.t 13)],none⟩,⟨some 15,.un .not (.t 14),none⟩]
noncomputable def at2:List bU:=[⟨some 16,.mv (.t 0),none⟩,⟨some 17,.mv (.t 0),none⟩,⟨some 18,.len .str (.t 17),none⟩,⟨some 19,.bin .sub (.t 18) (.c (.int .i64 1)),none⟩,⟨some 20,.Aw (.t 16) none (some (.t 19)),none⟩,⟨some 0,.mv (.t 20),none⟩]
noncomputable def atM:dy:=(.seq (.seq (.region aun) (.cond (.t 15) (.exit 0) .skip)) (.region at2))
noncomputable def amT:dy:=(.seq (.seq (.region anS) (.cond (.t 7) .skip (.exit 0))) (.block 1 atM))
noncomputable def auj:dy:=(.loop amT)
noncomputable def atw:List bU:=[⟨some 21,.mv (.t 0),none⟩,⟨some 4,.mv (.t 21),none⟩]
noncomputable def amh:dy:=(.seq (.region auS) (.seq (.block 0 auj) (.seq (.region atw) .ret)))
noncomputable def arz:AFn:=⟨22,[.t 4],amh⟩
noncomputable def auK:List bU:=[⟨some 4,.mv (.c (.bool false)),none⟩]
noncomputable def atD:List bU:=[⟨some 5,.mv (.t 0),none⟩,⟨some 6,.mv (.t 1),none⟩,⟨some 7,.GN (.t 5),none⟩,⟨some 8,.FK 256 1 (.t 7) (.t 6),none⟩,⟨some 9,.ng (.t 8),none⟩,⟨some 4,.mv (.t 9),none⟩]
noncomputable def at7:dy:=(.seq (.region auK) (.seq (.region atD) .ret))
noncomputable def ajo:AFn:=⟨10,[.t 4],at7⟩
noncomputable def auR:List bU:=[⟨some 4,.mv (.c (.str [])),none⟩]
noncomputable def amk:List bU:=[⟨some 7,.mv (.t 0),none⟩,⟨some 8,.bin .eql (.t 7) (.c (.str [])),none⟩,⟨some 9,.mv (.t 8),none⟩,⟨some 10,.mv (.t 1),some (9,false)⟩,⟨some 11,.bin .eql (.t 10) (.c (.str [])),some (9,false)⟩,⟨some 12,.pick (.t 9) (.c (.bool true)) (.t 11),none⟩]
noncomputable def asm:List bU:=[⟨some 13,.mv (.t 0),none⟩,⟨some 4,.mv (.t 13),none⟩]
noncomputable def asj:dy:=(.seq (.region asm) .ret)
noncomputable def auq:List bU:=[⟨some 14,.mv (.t 1),none⟩,⟨some 15,.len .str (.t 14),none⟩,⟨some 16,.bin .eql (.t 15) (.c (.int .i64 1)),none⟩,⟨some 17,.mv (.t 16),none⟩,⟨some 18,.mv (.t 1),some (17,true)⟩,⟨some 19,.Nq (.t 18) (.c (.int .i64 0)),some (17,true)⟩,⟨some 20,.bin .lss (.t 19) (.c (.int .u8 128)),some (17,true)⟩,⟨some 21,.pick (.t 17) (.t 20) (.c (.bool false)),none⟩]
noncomputable def ayY:List bU:=[⟨some 22,.mv (.t 0),none⟩,⟨some 23,.mv (.t 1),none⟩,⟨some 24,.Nq (.t 23) (.c (.int .i64 0)),none⟩,⟨some 25,.call (.c (.func 191 [] [])) [(.t 22),(.t 24)],none⟩,⟨some 26,.mv (.t 1),none⟩,⟨some 27,.Nq (.t 26) (.c (.int .i64 0)),none⟩,⟨some 28,.call (.c (.func 190 [] [])) [(.t 25),(.t 27)],none⟩,⟨some 4,.mv (.t 28),none⟩]
noncomputable def ayP:List (Nat×Nat):=[(0,0),(1,0),(2,2),(3,7),(4,0),(5,16),(6,63),(7,127)]
noncomputable def ayZ:dy:=(.seq (.lN ayY ayP) .ret)
noncomputable def avi:List bU:=[⟨some 30,.mv (.t 1),none⟩,⟨some 31,.call (.c (.func 192 [] [])) [(.t 30)],none⟩,⟨some 29,.mv (.t 31),none⟩,⟨some 32,.ext (.t 29) 0,none⟩,⟨some 33,.ext (.t 29) 1,none⟩,⟨some 5,.alloc 203 zB,none⟩,⟨none,.store 256 (.t 5) (.t 32),none⟩,⟨some 6,.mv (.t 33),none⟩]
noncomputable def aqB:List bU:=[⟨some 34,.mv (.t 6),none⟩]
noncomputable def apb:List bU:=[⟨some 35,.mv (.t 0),none⟩,⟨some 36,.call (.c (.func 194 [] [])) [(.t 35),(.t 5)],none⟩,⟨some 37,.call (.c (.func 193 [] [])) [(.t 36),(.t 5)],none⟩,⟨some 4,.mv (.t 37),none⟩]
noncomputable def ao1:dy:=(.seq (.region apb) .ret)
noncomputable def axf:List bU:=[⟨some 38,.mv (.t 0),none⟩,⟨some 39,.mv (.t 1),none⟩,⟨some 40,.call (.c (.func 196 [] [])) [(.t 38),(.t 39)],none⟩,⟨some 41,.mv (.t 1),none⟩,⟨some 42,.call (.c (.func 195 [] [])) [(.t 40),(.t 41)],none⟩,⟨some 4,.mv (.t 42),none⟩]
noncomputable def aou:dy:=(.seq (.region auR) (.seq (.seq (.region amk) (.cond (.t 12) asj .skip)) (.seq (.seq (.region auq) (.cond (.t 21) ayZ .skip)) (.seq (.seq (.region avi) (.seq (.region aqB) (.cond (.t 34) ao1 .skip))) (.seq (.region axf) .ret)))))
noncomputable def aqF:AFn:=⟨43,[.t 4],aou⟩
noncomputable def atI:List bU:=[⟨some 2,.mv (.c (.slice none 0 0 0)),none⟩]
noncomputable def asW:List bU:=[⟨some 3,.mv (.t 0),none⟩,⟨some 4,.eqv false .sn (.t 3) (.c (.slice none 0 0 0)),none⟩]
noncomputable def axG:List bU:=[⟨some 2,.mv (.c (.slice none 0 0 0)),none⟩]
noncomputable def axT:dy:=(.seq (.region axG) .ret)
noncomputable def axu:List bU:=[⟨some 5,.BG [(.str [])] 0 [],none⟩,⟨some 6,.mv (.t 0),none⟩,⟨some 7,.append 41 [(.str [])] 16 (.t 5) (.t 6),none⟩,⟨some 2,.mv (.t 7),none⟩]
noncomputable def ajW:dy:=(.seq (.region atI) (.seq (.seq (.region asW) (.cond (.t 4) axT .skip)) (.seq (.region axu) .ret)))
noncomputable def F42:AFn:=⟨8,[.t 2],ajW⟩
noncomputable def avE:List bU:=[⟨some 2,.mv (.c (.slice none 0 0 0)),none⟩]
noncomputable def asf:List bU:=[⟨some 3,.mv (.t 0),none⟩,⟨some 4,.eqv false .sn (.t 3) (.c (.slice none 0 0 0)),none⟩]
noncomputable def axA:List bU:=[⟨some 2,.mv (.c (.slice none 0 0 0)),none⟩]
noncomputable def axE:dy:=(.seq (.region axA) .ret)
noncomputable def axQ:List bU:=[⟨some 5,.BG [(.str [])] 0 [],none⟩,⟨some 6,.mv (.t 0),none⟩,⟨some 7,.append 23 [(.str [])] 16 (.t 5) (.t 6),none⟩,⟨some 2,.mv (.t 7),none⟩]
noncomputable def ajJ:dy:=(.seq (.region avE) (.seq (.seq (.region asf) (.cond (.t 4) axE .skip)) (.seq (.region axQ) .ret)))
noncomputable def F93:AFn:=⟨8,[.t 2],ajJ⟩
noncomputable def asU:List bU:=[⟨some 2,.mv (.c (.slice none 0 0 0)),none⟩]
noncomputable def as8:List bU:=[⟨some 3,.mv (.c (.int .i64 0)),none⟩]
noncomputable def atA:List bU:=[⟨some 9,.mv (.t 0),none⟩,⟨some 10,.len .slice (.t 9),none⟩,⟨some 11,.mv (.c (.int .i64 0)),none⟩]
noncomputable def aqn:List bU:=[⟨some 12,.bin .lss (.t 11) (.t 10),none⟩]
noncomputable def axI:List bU:=[⟨some 13,.AL 1 (.t 9) (.t 11),none⟩,⟨some 14,.ng (.t 13),none⟩,⟨some 5,.mv (.t 14),none⟩]
noncomputable def axP:List bU:=[⟨some 15,.mv (.t 3),none⟩,⟨some 16,.mv (.t 5),none⟩,⟨some 17,.len .slice (.t 16),none⟩,⟨some 18,.bin .add (.t 15) (.t 17),none⟩,⟨some 3,.mv (.t 18),none⟩]
noncomputable def axv:List bU:=[⟨some 19,.mv (.t 3),none⟩,⟨some 20,.bin .lss (.t 19) (.c (.int .i64 0)),none⟩]
noncomputable def azu:List bU:=[⟨some 21,.iface 9 (.c (.str [108,101,110,32,111,117,116,32,111,102,32,114,97,110,103,101])),none⟩,⟨none,.fail,none⟩]
noncomputable def az2:dy:=(.region azu)
noncomputable def avI:dy:=(.seq (.region axI) (.seq (.region axP) (.seq (.region axv) (.cond (.t 20) az2 .skip))))
noncomputable def asD:List bU:=[⟨some 22,.bin .add (.t 11) (.c (.int .i64 1)),none⟩,⟨some 11,.mv (.t 22),none⟩]
noncomputable def ajq:dy:=(.seq (.region aqn) (.seq (.cond (.t 12) .skip (.exit 0)) (.seq (.block 1 avI) (.region asD))))
noncomputable def atE:dy:=(.loop ajq)
noncomputable def ana:List bU:=[⟨some 23,.mv (.t 3),none⟩,⟨some 24,.call (.c (.func 48 [] [])) [(.c (.slice none 0 0 0)),(.t 23)],none⟩,⟨some 6,.mv (.t 24),none⟩]
noncomputable def amK:List bU:=[⟨some 25,.mv (.t 0),none⟩,⟨some 26,.len .slice (.t 25),none⟩,⟨some 27,.mv (.c (.int .i64 0)),none⟩]
noncomputable def ahO:List bU:=[⟨some 28,.bin .lss (.t 27) (.t 26),none⟩]
noncomputable def au4:List bU:=[⟨some 29,.AL 1 (.t 25) (.t 27),none⟩,⟨some 30,.ng (.t 29),none⟩,⟨some 8,.mv (.t 30),none⟩]
noncomputable def asH:List bU:=[⟨some 31,.mv (.t 6),none⟩,⟨some 32,.mv (.t 8),none⟩,⟨some 33,.append 23 [(.str [])] 16 (.t 31) (.t 32),none⟩,⟨some 6,.mv (.t 33),none⟩]
noncomputable def avs:dy:=(.seq (.region au4) (.region asH))
noncomputable def auf:List bU:=[⟨some 34,.bin .add (.t 27) (.c (.int .i64 1)),none⟩,⟨some 27,.mv (.t 34),none⟩]
noncomputable def ah2:dy:=(.seq (.region ahO) (.seq (.cond (.t 28) .skip (.exit 2)) (.seq (.block 3 avs) (.region auf))))
noncomputable def asR:dy:=(.loop ah2)
noncomputable def amc:List bU:=[⟨some 35,.mv (.t 6),none⟩,⟨some 2,.mv (.t 35),none⟩]
noncomputable def akN:dy:=(.seq (.region asU) (.seq (.region as8) (.seq (.seq (.region atA) (.block 0 atE)) (.seq (.region ana) (.seq (.seq (.region amK) (.block 2 asR)) (.seq (.region amc) .ret))))))
noncomputable def F25:AFn:=⟨36,[.t 2],akN⟩
noncomputable def axC:List bU:=[⟨some 4,.mv (.c (.slice none 0 0 0)),none⟩]
noncomputable def axH:List bU:=[⟨some 5,.mv (.t 1),none⟩,⟨some 6,.bin .lss (.t 5) (.c (.int .i64 0)),none⟩]
noncomputable def azG:List bU:=[⟨some 7,.iface 9 (.c (.str [99,97,110,110,111,116,32,98,101,32,110,101,103,97,116,105,118,101])),none⟩,⟨none,.fail,none⟩]
noncomputable def azs:dy:=(.region azG)
noncomputable def axF:List bU:=[⟨some 8,.mv (.t 1),none⟩,⟨some 9,.mv (.t 0),none⟩,⟨some 10,.len .cap (.t 9),none⟩,⟨some 11,.mv (.t 0),none⟩,⟨some 12,.len .slice (.t 11),none⟩,⟨some 13,.bin .sub (.t 10) (.t 12),none⟩,⟨some 14,.bin .sub (.t 8) (.t 13),none⟩,⟨some 1,.mv (.t 14),none⟩]
noncomputable def axZ:List bU:=[⟨some 15,.mv (.t 1),none⟩,⟨some 16,.bin .gtr (.t 15) (.c (.int .i64 0)),none⟩]
noncomputable def axB:List bU:=[⟨some 17,.mv (.t 0),none⟩,⟨some 18,.mv (.t 0),none⟩,⟨some 19,.len .cap (.t 18),none⟩,⟨some 20,.slice 1 (.t 17) none (some (.t 19)) none,none⟩,⟨some 21,.mv (.t 1),none⟩,⟨some 22,.sL 23 [(.str [])] 16 (.t 20) (.t 21),none⟩,⟨some 23,.mv (.t 0),none⟩,⟨some 24,.len .slice (.t 23),none⟩,⟨some 25,.slice 1 (.t 22) none (some (.t 24)) none,none⟩,⟨some 0,.mv (.t 25),none⟩]
noncomputable def axx:dy:=(.region axB)
noncomputable def ata:List bU:=[⟨some 26,.mv (.t 0),none⟩,⟨some 4,.mv (.t 26),none⟩]
noncomputable def avc:dy:=(.seq (.region axC) (.seq (.seq (.region axH) (.cond (.t 6) azs .skip)) (.seq (.seq (.region axF) (.seq (.region axZ) (.cond (.t 16) axx .skip))) (.seq (.region ata) .ret))))
noncomputable def F48:AFn:=⟨27,[.t 4],avc⟩
noncomputable def auT:List bU:=[⟨some 4,.mv (.c (.slice none 0 0 0)),none⟩]
noncomputable def as2:List bU:=[⟨some 9,.mv (.t 1),none⟩,⟨some 10,.bin .lss (.t 9) (.c (.int .i64 0)),none⟩]
noncomputable def ayu:List bU:=[⟨some 11,.iface 9 (.c (.str [99,97,110,110,111,116,32,98,101,32,110,101,103,97,116,105,118,101])),none⟩,⟨none,.fail,none⟩]
noncomputable def ays:dy:=(.region ayu)
noncomputable def ast:List bU:=[⟨some 13,.mv (.t 0),none⟩,⟨some 14,.len .slice (.t 13),none⟩,⟨some 15,.conv (.int .u64) (.t 14),none⟩,⟨some 16,.mv (.t 1),none⟩,⟨some 17,.conv (.int .u64) (.t 16),none⟩,⟨some 18,.call (.c (.func 173 [] [])) [(.t 15),(.t 17)],none⟩,⟨some 12,.mv (.t 18),none⟩,⟨some 19,.ext (.t 12) 0,none⟩,⟨some 20,.ext (.t 12) 1,none⟩,⟨some 5,.mv (.t 19),none⟩,⟨some 6,.mv (.t 20),none⟩]
noncomputable def atl:List bU:=[⟨some 21,.mv (.t 5),none⟩,⟨some 22,.bin .gtr (.t 21) (.c (.int .u64 0)),none⟩,⟨some 23,.mv (.t 22),none⟩,⟨some 24,.mv (.t 6),some (23,false)⟩,⟨some 25,.bin .gtr (.t 24) (.c (.int .u64 9223372036854775807)),some (23,false)⟩,⟨some 26,.pick (.t 23) (.c (.bool true)) (.t 25),none⟩]
noncomputable def ay3:List bU:=[⟨some 27,.iface 9 (.c (.str [116,104,101,32,114,101,115,117,108,116,32,111,102,32,40,108,101,110,40,120,41,32,42,32,99,111,117,110,116,41,32,111,118,101,114,102,108,111,119,115])),none⟩,⟨none,.fail,none⟩]
noncomputable def azf:dy:=(.region ay3)
noncomputable def aug:List bU:=[⟨some 28,.mv (.t 6),none⟩,⟨some 29,.conv (.int .i64) (.t 28),none⟩,⟨some 30,.zy [(.str [])] 16 (.t 29) (.t 29),none⟩,⟨some 7,.mv (.t 30),none⟩]
noncomputable def aiR:List bU:=[⟨some 31,.mv (.t 7),none⟩,⟨some 32,.mv (.t 0),none⟩,⟨some 33,.copy 1 (.t 31) (.t 32),none⟩,⟨some 8,.mv (.t 33),none⟩]
noncomputable def Wz:List bU:=[⟨some 34,.mv (.t 8),none⟩,⟨some 35,.mv (.t 7),none⟩,⟨some 36,.len .slice (.t 35),none⟩,⟨some 37,.bin .lss (.t 34) (.t 36),none⟩]
noncomputable def aqq:List bU:=[⟨some 38,.mv (.t 8),none⟩,⟨some 39,.mv (.t 7),none⟩,⟨some 40,.mv (.t 8),none⟩,⟨some 41,.slice 1 (.t 39) (some (.t 40)) none none,none⟩,⟨some 42,.mv (.t 7),none⟩,⟨some 43,.mv (.t 8),none⟩,⟨some 44,.slice 1 (.t 42) none (some (.t 43)) none,none⟩,⟨some 45,.copy 1 (.t 41) (.t 44),none⟩,⟨some 46,.bin .add (.t 38) (.t 45),none⟩,⟨some 8,.mv (.t 46),none⟩]
noncomputable def apf:List (Nat×Nat):=[(1,0),(2,0),(3,6),(4,0),(5,0),(6,48),(7,126),(0,0),(8,255),(9,511)]
noncomputable def aqg:dy:=(.lN aqq apf)
noncomputable def VI:dy:=(.seq (.seq (.region Wz) (.cond (.t 37) .skip (.exit 0))) (.block 1 aqg))
noncomputable def WJ:dy:=(.loop VI)
noncomputable def aih:List bU:=[⟨some 47,.mv (.t 7),none⟩,⟨some 4,.mv (.t 47),none⟩]
noncomputable def amW:dy:=(.seq (.region auT) (.seq (.seq (.region as2) (.cond (.t 10) ays .skip)) (.seq (.region ast) (.seq (.seq (.region atl) (.cond (.t 26) azf .skip)) (.seq (.region aug) (.seq (.region aiR) (.seq (.block 0 WJ) (.seq (.region aih) .ret))))))))
noncomputable def arn:AFn:=⟨48,[.t 4],amW⟩
noncomputable def anC:List bU:=[⟨some 2,.mv (.t 0),none⟩,⟨some 3,.GN (.t 2),none⟩,⟨some 4,.qF 0 (.t 3),none⟩,⟨some 5,.ng (.t 4),none⟩,⟨some 6,.eqv false .ptr (.t 5) (.c (.ptr none)),none⟩]
noncomputable def avF:List bU:=[⟨some 7,.mv (.t 0),none⟩,⟨some 8,.mv (.t 0),none⟩,⟨some 9,.conv .toU (.t 8),none⟩,⟨some 10,.call (.c (.func 227 [] [])) [(.t 9)],none⟩,⟨some 11,.conv (.ofU 182 2) (.t 10),none⟩,⟨some 12,.GN (.t 7),none⟩,⟨some 13,.qF 0 (.t 12),none⟩,⟨none,.store 1 (.t 13) (.t 11),none⟩]
noncomputable def avn:dy:=(.region avF)
noncomputable def auw:List bU:=[⟨some 14,.mv (.t 0),none⟩,⟨some 15,.GN (.t 14),none⟩,⟨some 16,.qF 0 (.t 15),none⟩,⟨some 17,.ng (.t 16),none⟩,⟨some 18,.mv (.t 0),none⟩,⟨some 19,.peq true (.t 17) (.t 18),none⟩]
noncomputable def asZ:dy:=(.seq (.region auw) (.cond (.t 19) .fail .skip))
noncomputable def aey:dy:=(.seq (.region anC) (.cond (.t 6) avn asZ))
noncomputable def arT:AFn:=⟨20,[],aey⟩
noncomputable def aqf (C:dy):dy:=(.seq (.region [⟨some 25,.mv (.t 5),none⟩,⟨some 26,.bin .eql (.t 25) (.c (.int .i64 1)),none⟩,⟨some 24,.mv (.t 26),none⟩]) (.cond (.t 24) (.seq (.region [⟨some 27,.mv (.t 0),none⟩,⟨some 28,.mv (.t 1),none⟩,⟨some 29,.Nq (.t 28) (.c (.int .i64 0)),none⟩,⟨some 30,.call (.c (.func 121 [] [])) [(.t 27),(.t 29)],none⟩,⟨some 4,.mv (.t 30),none⟩]) .ret) C))
noncomputable def asE:List bU:=[⟨some 17,.mv (.t 5),none⟩,⟨some 18,.bin .eql (.t 17) (.c (.int .i64 0)),none⟩,⟨some 19,.mv (.t 18),none⟩,⟨some 20,.mv (.t 1),some (19,false)⟩,⟨some 21,.mv (.t 0),some (19,false)⟩,⟨some 22,.bin .eql (.t 20) (.t 21),some (19,false)⟩,⟨some 23,.pick (.t 19) (.c (.bool true)) (.t 22),none⟩,⟨some 16,.mv (.t 23),none⟩]
noncomputable def ari (C R:dy):AFn:=⟨143,[.t 4],.seq (.region [⟨some 4,.mv (.c (.int .i64 0)),none⟩]) (.seq (.region [⟨some 14,.mv (.t 1),none⟩,⟨some 15,.len .str (.t 14),none⟩,⟨some 5,.mv (.t 15),none⟩]) (.seq (.block 0 (.seq (.region asE) (.cond (.t 16) (.seq (.region [⟨some 4,.mv (.c (.int .i64 0)),none⟩]) .ret) (aqf C)))) R))⟩
end Ls.Lib
namespace Ls
open dC
open Go
def bF {α:Type} {g n:Nat} {a b:α} {r} (h:cond (aBc g n) (some a) r=some b):(g=n/\a=b)\/r=some b:=by
 cases hb:aBc g n with
 |true=>rw [hb]at h;cases h;exact .inl ⟨aA8 hb,rfl⟩
 |false=>rw [hb]at h;exact .inr h
def wrap_i64 (h: -9223372036854775808<=n) (h':n<=9223372036854775807):IntKind.wrap .i64 n=n:=by
 have e:(2:Int)^IntKind.i64.bits=18446744073709551616:=ah
 simp only [IntKind.wrap,IntKind.signed,e];split<;>rename_i hs<;>(try simp [IntKind.bits]at hs)<;>(try simp [IntKind.bits])<;>omega
def ax (h:a<b):bZ a b=true:=by simp [bZ,h]
def az (h: ¬a<b):bZ a b=false:=by simp [bZ,h]
def aF (h:a<=b):dD a b=true:=by simp [dD,h]
def dH (h: ¬a<=b):dD a b=false:=by simp [dD,h]
def aG (h:a=b):Int.same a b=true:=by rw [jm];simp [h]
def av (h:a≠b):Int.same a b=false:=by rw [jm];simp [h]
def bH (l:List β) (i:Nat):dW l i=l[i]? :=by
 simp only [dW];rw [aF aa];simp
def room (n:Nat):Bool:=aBS n 68719476736
def gB (x:List Int):List Int:=(x.reverse.dropWhile λd=>Int.same d 0).reverse
def bp (x:List Int):Bool:=x.all λd=>dD 0 d&&bZ d 1000000000
def au:List Int->Int
 | []=>0
 |d::x=>d+1000000000*au x
def Uh:Nat->Nat->List Int
 |0,_=> []
 |f+1,n=>cond (aBc n 0) [] (((n%1000000000:Nat):Int)::Uh f (n/1000000000))
def b8 (n:Nat):List Int:=Uh n n
def Q6: ∀f g n,n<=f->n<=g->Uh f n=Uh g n
 |0,0,n,h,a=>rfl
 |0,g+1,n,h,a=>by
  have:n=0:=aa
  subst this;rfl
 |f+1,0,n,h,a=>by
  have:n=0:=aa
  subst this;rfl
 |f+1,g+1,n,h,a=>by
  simp only [Uh];by_cases e:n=0
  ·subst e;rfl
  ·rw [Q6 f g (n/1000000000) aa aa]
def AM:b8 0=[]:=rfl
def qq (h:n≠0):b8 n=((n%1000000000:Nat):Int)::b8 (n/1000000000):=by
 obtain⟨m,rfl⟩: ∃m,n=m+1:=⟨n-1,aa⟩;show Uh (m+1) (m+1)=_;have e:aBc (m+1) 0=false:=rfl;rw [Uh,e,cond_false];congr 1;exact Q6 _ _ _ aa (aBg _)
def dU:bp (d::x)=true↔(0<=d/\d<1000000000)/\bp x=true:=by
 simp [bp,dD,bZ]
def bP: ∀ {x},bp x=true->0<=au x
 | [],_=>by simp [au]
 |d::x,h=>by
  obtain⟨⟨b,c⟩,a⟩:=dU.1 h;have:=bP a;simp only [au];omega
def UF d x:gB (d::x)=(match gB x with | []=>cond (Int.same d 0) [] [d] |y=>d::y):=by
 have b: ∀l:List Int,(l++ [d]).dropWhile (λd=>Int.same d 0)=(match l.dropWhile (λd=>Int.same d 0)with | []=>cond (Int.same d 0) [] [d] |y=>y++ [d]):=by
  intro l;induction l with
  |nil=>simp only [aA6,aBR,List.dropWhile_nil];cases Int.same d 0<;>rfl
  |cons a l c=>
   rw [aA7,aBR,aBR];cases Int.same a 0
   ·simp
   ·simpa using c
 simp only [gB,aBX,b];cases h:x.reverse.dropWhile (λd=>Int.same d 0)with
 |nil=>cases Int.same d 0<;>rfl
 |cons a l=>
  simp only [aCs,aBX,aCr,aA6,aCu];cases f:l.reverse++ [a]with
  |nil=>simp at f
  |cons _ _=>rfl
def gj: ∀ {x},bp x=true->gB x=b8 (au x).toNat
 | [],_=>rfl
 |d::x,h=>by
  obtain⟨⟨q,r⟩,c⟩:=dU.1 h;have j:=gj c;have s:=bP c;rw [UF,j];by_cases e:(au x).toNat=0
  ·rw [e,AM];have k:au x=0:=aa
   simp only [au,k];by_cases f:d=0
   ·subst f;rfl
   ·rw [av f,cond_false,qq aa];have a:(d+1000000000*0).toNat%1000000000=d.toNat:=aa
    have b:(d+1000000000*0).toNat/1000000000=0:=aa
    rw [a,b,AM];congr 1;omega
  ·have l:b8 (au x).toNat=(((au x).toNat%1000000000:Nat):Int)::b8 ((au x).toNat/1000000000):=qq e;have p:(match b8 (au x).toNat with | []=>cond (Int.same d 0) [] [d] |y=>d::y)=d::b8 (au x).toNat:=by rw [l]
   rw [p];simp only [au];rw [qq (n:=(d+1000000000*au x).toNat) aa];have a:((d+1000000000*au x).toNat%1000000000:Nat)=d.toNat:=aa
   have b:(d+1000000000*au x).toNat/1000000000=(au x).toNat:=aa
   rw [a,b];congr 1;omega
def ox (h:room n=true):n<68719476736:=by simpa [room,aCl]using h
def dJ (h:bp x=true) {i:Nat} (a:x[i]? =some d):0<=d/\d<1000000000:=by
 have:=aBj.1 h d (List.mem_of_getElem? a);simpa [dD,bZ]using this
def Jv:List Int->Int
 | []=>0
 |d::_=>d
def Dw:Nat->Int->List Int->List Int->List Int
 |0,_,_,_=> []
 |n+1,c,A,B=>((c+Jv A+Jv B)%1000000000)::Dw n ((c+Jv A+Jv B)/1000000000) A.tail B.tail
def tV (h:bp x=true):0<=Jv x/\Jv x<1000000000:=by
 cases x with
 |nil=>simp [Jv]
 |cons d x=>exact(dU.1 h).1
def IF (h:bp x=true):bp x.tail=true:=by
 cases x with
 |nil=>exact h
 |cons d x=>exact(dU.1 h).2
def IM: ∀n c A B,bp (Dw n c A B)=true
 |0,_,_,_=>rfl
 |n+1,c,A,B=>dU.2 ⟨aa,IM n _ _ _⟩
def Wp x:au x=Jv x+1000000000*au x.tail:=by
 cases x with
 |nil=>simp [au,Jv]
 |cons d x=>simp [au,Jv]
def Mr: ∀A B c,bp A=true->bp B=true->B.length<=A.length->0<=c->c<=1->au (Dw (A.length+1) c A B)=c+au A+au B
 | [],B,c,h,b,d,j,k=>by
  have:B=[]:=aCa.1 (by simpa using d);subst this;simp only [aBJ,Dw,au,Jv];omega
 |a::A,B,c,h,b,d,j,k=>by
  obtain⟨n,f⟩:=dU.1 h;have p:=tV b;have l:=Mr A B.tail ((c+a+Jv B)/1000000000) f (IF b) (by simp only [List.length_tail];simp only [aBn]at d;omega) aa aa;rw [aBn,Dw];rw [show Jv (a::A)=a from rfl];simp only [au,List.tail_cons];rw [l,Wp B];omega
def I6:Nat->Int->List Int->List Int->List Int
 |0,_,_,_=> []
 |n+1,c,A,B=>((Jv A-c-Jv B)%1000000000)::I6 n (-((Jv A-c-Jv B)/1000000000)) A.tail B.tail
def Is: ∀n c A B,bp (I6 n c A B)=true
 |0,_,_,_=>rfl
 |n+1,c,A,B=>dU.2 ⟨aa,Is n _ _ _⟩
def Rt: ∀n c A B,(I6 n c A B).length=n
 |0,_,_,_=>rfl
 |n+1,c,A,B=>by simp [I6,Rt n]
def QY: ∀A B c,bp A=true->bp B=true->B.length<=A.length->0<=c->c<=1->au B+c<=au A->au (I6 A.length c A B)=au A-au B-c
 | [],B,c,j,d,f,k,l,b=>by
  have:B=[]:=aCa.1 (by simpa using f);subst this;simp only [au]at b;simp only [aBJ,I6,au];omega
 |a::A,B,c,j,d,f,k,l,b=>by
  obtain⟨p,h⟩:=dU.1 j;have q:=tV d;rw [Wp B]at b⊢;simp only [au]at b;have n:=QY A B.tail (-((a-c-Jv B)/1000000000)) h (IF d) (by simp only [List.length_tail];simp only [aBn]at f;omega) aa aa aa;rw [aBn,I6];rw [show Jv (a::A)=a from rfl];simp only [au,List.tail_cons];rw [n];omega
def jN: ∀x,bp x=true->au x<1000000000^x.length
 | [],_=>by simp [au]
 |d::x,h=>by
  obtain⟨⟨b,c⟩,a⟩:=dU.1 h;have:=jN x a;simp only [au,aBn,aCv];omega
def mq: ∀x d,au (x++ [d])=au x+1000000000^x.length*d
 | [],d=>by simp [au]
 |a::x,d=>by
  rw [aA7];simp only [au,aBn,aCv];rw [mq x d];grind
def mA:bp (x++ [d])=true↔bp x=true/\0<=d/\d<1000000000:=by
 simp [bp,dD,bZ]
def kz (h:bp x=true) n:bp (x.take n)=true:=aBj.2 λd a=>aBj.1 h d (List.mem_of_mem_take a)
def At (h:bp x=true) n:bp (x.drop n)=true:=aBj.2 λd a=>aBj.1 h d (List.mem_of_mem_drop a)
def anq:List Int->List Int->Int
 |x::a,y::b=>cond (Int.same x y) (anq a b) (x-y)
 |_,_=>0
def anj (a b:List Int):Int:=cond (aBc a.length b.length) (anq a.reverse b.reverse) ((a.length:Int)-(b.length:Int))
def awa: ∀n x y,x.length=n->y.length=n->bp x=true->bp y=true->(anq x.reverse y.reverse<0↔au x<au y):=by
 intro n;induction n with
 |zero=>
  intro x y k l _ _;rw [aCa.1 k,aCa.1 l];simp [anq,au]
 |succ n u=>
  intro x y k l v w;rcases aCg x with rfl |⟨p,a,rfl⟩
  ·simp at k
  rcases aCg y with rfl |⟨q,b,rfl⟩
  ·simp at l
  rw [aCh]at*;rw [aCh]at*;obtain⟨c,D⟩:=mA.1 v;obtain⟨d,E⟩:=mA.1 w;have f:p.length=n:=by simpa using k
  have j:q.length=n:=by simpa using l
  have r:=u p q f j c d;have z:=bP c;have A:=bP d;have s:=jN p c;have t:=jN q d;rw [mq,mq,f,j,aCs,aCs];rw [f]at s;rw [j]at t;simp only [aBX,aCr,aA6,aCu,anq];generalize (1000000000:Int)^n=P at*;by_cases e:a=b
  ·subst e;rw [aG rfl,cond_true,r];omega
  ·rw [av e,cond_false];by_cases h:a<b
   ·have:=aB1 (show a+1<=b by omega) (show 0<=P by omega);rw [Int.mul_add,Int.mul_one]at this;omega
   ·have:=aB1 (show b+1<=a by omega) (show 0<=P by omega);rw [Int.mul_add,Int.mul_one]at this;omega
def My (x:List Int):Bool:=match x.reverse with | []=>true |d::_=> !Int.same d 0
def canon (x:List Int):Bool:=bp x&&My x
def oY (h:m<=n):(1000000000:Int)^m<=1000000000^n:=by
 induction h with
 |refl=>exact Int.le_refl _
 |step _ a=>
  rw [aCv];have:(0:Int)<=1000000000^m:=Int.pow_nonneg aa;omega
def tm (h:canon x=true) (a:x≠ []):(1000000000:Int)^(x.length-1)<=au x:=by
 simp only [canon,aA5]at h;obtain⟨b,c⟩:=h;rcases aCg x with rfl |⟨f,d,rfl⟩
 ·exact absurd rfl a
 rw [aCh]at*;obtain⟨j,l⟩:=mA.1 b;have n:=bP j;have p:d≠0:=λe=>by subst e;simp [My,aG]at c
 rw [mq];simp only [aBW,aBn,aBJ,aBh,Nat.add_sub_cancel];have k:(0:Int)<=1000000000^f.length:=Int.pow_nonneg aa;have:=aB1 (show 1<=d by omega) k;omega
def Re (c:canon a=true) (d:canon b=true) (h:a.length<b.length):au a<au b:=by
 have f:=jN a (by simp only [canon,aA5]at c;exact c.1);have j:=tm d (by intro e;subst e;simp at h);have k:=oY (show a.length<=b.length-1 by omega);omega
def aip (d:canon a=true) (c:canon b=true):bZ (anj a b) 0=bZ (au a) (au b):=by
 have f:bp a=true:=by simp only [canon,aA5]at d;exact d.1
 have j:bp b=true:=by simp only [canon,aA5]at c;exact c.1
 simp only [bZ,anj];apply decide_eq_decide.2;by_cases e:a.length=b.length
 ·rw [show aBc a.length b.length=true by rw [e];simp [aBK],cond_true];exact awa b.length a b e rfl f j
 ·rw [show aBc a.length b.length=false by cases c:aBc a.length b.length;rfl;exact absurd (aA8 c) e,cond_false];by_cases h:a.length<b.length
  ·have:=Re d c h;omega
  ·have:=Re c d aa;omega
def cf (x:List Int):Bool:=aBS x.length 1099511627776
def eO (x:List Int):List Int:=gB x
noncomputable def sa:Spec:= .val [none] (.list (.int .i64)) [none] (.list (.int .i64)) cf eO
def eW (x:List Int×List Int):Bool:=(room x.1.length&&room x.2.length)&&(bp x.1&&bp x.2)
def kY (x:List Int×List Int):Int:=anj x.1 x.2
noncomputable def zH:Spec:= .val [none,none] (.pair (.list (.int .i64)) (.list (.int .i64))) [none] (.int .i64) eW kY
def two (a b:List Int):Bool:=(room a.length&&room b.length)&&(bp a&&bp b)
def jY (x:List Int×List Int):Bool:=two x.1 x.2
def j9 (x:List Int×List Int):List Int:=b8 (au x.1+au x.2).toNat
noncomputable def HE:Spec:= .val [none,none] (.pair (.list (.int .i64)) (.list (.int .i64))) [none] (.list (.int .i64)) jY j9
def fH (x:List Int×List Int):Bool:=two x.1 x.2&&(aBD x.2.length x.1.length&&dD (au x.2) (au x.1))
def qK (x:List Int×List Int):List Int:=b8 (au x.1-au x.2).toNat
noncomputable def FW:Spec:= .val [none,none] (.pair (.list (.int .i64)) (.list (.int .i64))) [none] (.list (.int .i64)) fH qK
def fG (x:List Int×Int):Bool:=(room x.1.length&&bp x.1)&&(bZ 0 x.2&&dD x.2 1000000000)
def ju (x:List Int×Int):List Int×Int:=(b8 (au x.1/x.2).toNat,au x.1%x.2)
noncomputable def OS:Spec:= .val [none,none] (.pair (.list (.int .i64)) (.int .i64)) [none,none] (.pair (.list (.int .i64)) (.int .i64)) fG ju
def Ar (x:Bool×List Int):Bool:=true
def oQ (x:Bool×List Int):Int:=match x.2 with | []=>0 |_::_=>cond x.1 (-1) 1
noncomputable def RG:Spec:= .val [some 2] (.pair .bool (.list (.int .i64))) [none] (.int .i64) Ar oQ
def pJ (x:Bool×List Int):Bool:=true
def aS (x:Bool×List Int):Bool×List Int:=(!x.1,x.2)
noncomputable def BY:Spec:= .val [some 2] (.pair .bool (.list (.int .i64))) [some 2] (.pair .bool (.list (.int .i64))) pJ aS
def kN (x:(Bool×List Int)×(Bool×List Int)):Bool:=true
def qX (x:(Bool×List Int)×(Bool×List Int)):Bool:=x.1.1
noncomputable def Cy:Spec:= .val [some 2,some 2] (.pair (.pair .bool (.list (.int .i64))) (.pair .bool (.list (.int .i64)))) [none] .bool kN qX
def kB (x:(Bool×List Int)×(Bool×List Int)):Bool:=two x.1.2 x.2.2
def gN (x:(Bool×List Int)×(Bool×List Int)):Bool:= !(bZ (anj x.1.2 x.2.2) 0==x.1.1)
noncomputable def BK:Spec:= .val [some 2,some 2] (.pair (.pair .bool (.list (.int .i64))) (.pair .bool (.list (.int .i64)))) [none] .bool kB gN
def iA (x:List Int×List Int):Bool:=two x.1 x.2&&(canon x.1&&canon x.2)
def gK (x:List Int×List Int):List Int:=b8 (au x.1-au x.2).natAbs
noncomputable def B2:Spec:= .val [none,none] (.pair (.list (.int .i64)) (.list (.int .i64))) [none] (.list (.int .i64)) iA gK
def dp (x:(Bool×List Int)×(Bool×List Int)):Bool:=two x.1.2 x.2.2&&(canon x.1.2&&canon x.2.2)
def bO (x:(Bool×List Int)×(Bool×List Int)):Bool×List Int:=
 cond (x.1.1==x.2.1) (x.1.1,j9 (x.1.2,x.2.2)) (gN x,gK (x.1.2,x.2.2))
noncomputable def Ef:Spec:= .val [some 2,some 2] (.pair (.pair .bool (.list (.int .i64))) (.pair .bool (.list (.int .i64)))) [some 2] (.pair .bool (.list (.int .i64))) dp bO
end Ls
namespace Ls.bG
open dC
open Go
def gB (x:List Int):List Int:=(x.reverse.dropWhile λd=>Int.same d 0).reverse
def bp (x:List Int):Bool:=x.all λd=>dD 0 d&&bZ d 10
def au:List Int->Int
 | []=>0
 |d::x=>d+10*au x
def Uh:Nat->Nat->List Int
 |0,_=> []
 |f+1,n=>cond (aBc n 0) [] (((n%10:Nat):Int)::Uh f (n/10))
def b8 (n:Nat):List Int:=Uh n n
def Q6: ∀f g n,n<=f->n<=g->Uh f n=Uh g n
 |0,0,n,h,a=>rfl
 |0,g+1,n,h,a=>by
  have:n=0:=aa
  subst this;rfl
 |f+1,0,n,h,a=>by
  have:n=0:=aa
  subst this;rfl
 |f+1,g+1,n,h,a=>by
  simp only [Uh];by_cases e:n=0
  ·subst e;rfl
  ·rw [Q6 f g (n/10) aa aa]
def AM:b8 0=[]:=rfl
def qq (h:n≠0):b8 n=((n%10:Nat):Int)::b8 (n/10):=by
 obtain⟨m,rfl⟩: ∃m,n=m+1:=⟨n-1,aa⟩;show Uh (m+1) (m+1)=_;have e:aBc (m+1) 0=false:=rfl;rw [Uh,e,cond_false];congr 1;exact Q6 _ _ _ aa (aBg _)
def dU:bp (d::x)=true↔(0<=d/\d<10)/\bp x=true:=by
 simp [bp,dD,bZ]
def bP: ∀ {x},bp x=true->0<=au x
 | [],_=>by simp [au]
 |d::x,h=>by
  obtain⟨⟨b,c⟩,a⟩:=dU.1 h;have:=bP a;simp only [au];omega
def UF d x:gB (d::x)=(match gB x with | []=>cond (Int.same d 0) [] [d] |y=>d::y):=by
 have b: ∀l:List Int,(l++ [d]).dropWhile (λd=>Int.same d 0)=(match l.dropWhile (λd=>Int.same d 0)with | []=>cond (Int.same d 0) [] [d] |y=>y++ [d]):=by
  intro l;induction l with
  |nil=>simp only [aA6,aBR,List.dropWhile_nil];cases Int.same d 0<;>rfl
  |cons a l c=>
   rw [aA7,aBR,aBR];cases Int.same a 0
   ·simp
   ·simpa using c
 simp only [gB,aBX,b];cases h:x.reverse.dropWhile (λd=>Int.same d 0)with
 |nil=>cases Int.same d 0<;>rfl
 |cons a l=>
  simp only [aCs,aBX,aCr,aA6,aCu];cases f:l.reverse++ [a]with
  |nil=>simp at f
  |cons _ _=>rfl
def gj: ∀ {x},bp x=true->gB x=b8 (au x).toNat
 | [],_=>rfl
 |d::x,h=>by
  obtain⟨⟨q,r⟩,c⟩:=dU.1 h;have j:=gj c;have s:=bP c;rw [UF,j];by_cases e:(au x).toNat=0
  ·rw [e,AM];have k:au x=0:=aa
   simp only [au,k];by_cases f:d=0
   ·subst f;rfl
   ·rw [av f,cond_false,qq aa];have a:(d+10*0).toNat%10=d.toNat:=aa
    have b:(d+10*0).toNat/10=0:=aa
    rw [a,b,AM];congr 1;omega
  ·have l:b8 (au x).toNat=(((au x).toNat%10:Nat):Int)::b8 ((au x).toNat/10):=qq e;have p:(match b8 (au x).toNat with | []=>cond (Int.same d 0) [] [d] |y=>d::y)=d::b8 (au x).toNat:=by rw [l]
   rw [p];simp only [au];rw [qq (n:=(d+10*au x).toNat) aa];have a:((d+10*au x).toNat%10:Nat)=d.toNat:=aa
   have b:(d+10*au x).toNat/10=(au x).toNat:=aa
   rw [a,b];congr 1;omega
def dJ (h:bp x=true) {i:Nat} (a:x[i]? =some d):0<=d/\d<10:=by
 have:=aBj.1 h d (List.mem_of_getElem? a);simpa [dD,bZ]using this
def Jv:List Int->Int
 | []=>0
 |d::_=>d
def Dw:Nat->Int->List Int->List Int->List Int
 |0,_,_,_=> []
 |n+1,c,A,B=>((c+Jv A+Jv B)%10)::Dw n ((c+Jv A+Jv B)/10) A.tail B.tail
def tV (h:bp x=true):0<=Jv x/\Jv x<10:=by
 cases x with
 |nil=>simp [Jv]
 |cons d x=>exact(dU.1 h).1
def IF (h:bp x=true):bp x.tail=true:=by
 cases x with
 |nil=>exact h
 |cons d x=>exact(dU.1 h).2
def IM: ∀n c A B,bp (Dw n c A B)=true
 |0,_,_,_=>rfl
 |n+1,c,A,B=>dU.2 ⟨aa,IM n _ _ _⟩
def Wp x:au x=Jv x+10*au x.tail:=by
 cases x with
 |nil=>simp [au,Jv]
 |cons d x=>simp [au,Jv]
def Mr: ∀A B c,bp A=true->bp B=true->B.length<=A.length->0<=c->c<=1->au (Dw (A.length+1) c A B)=c+au A+au B
 | [],B,c,h,b,d,j,k=>by
  have:B=[]:=aCa.1 (by simpa using d);subst this;simp only [aBJ,Dw,au,Jv];omega
 |a::A,B,c,h,b,d,j,k=>by
  obtain⟨n,f⟩:=dU.1 h;have p:=tV b;have l:=Mr A B.tail ((c+a+Jv B)/10) f (IF b) (by simp only [List.length_tail];simp only [aBn]at d;omega) aa aa;rw [aBn,Dw];rw [show Jv (a::A)=a from rfl];simp only [au,List.tail_cons];rw [l,Wp B];omega
def I6:Nat->Int->List Int->List Int->List Int
 |0,_,_,_=> []
 |n+1,c,A,B=>((Jv A-c-Jv B)%10)::I6 n (-((Jv A-c-Jv B)/10)) A.tail B.tail
def Is: ∀n c A B,bp (I6 n c A B)=true
 |0,_,_,_=>rfl
 |n+1,c,A,B=>dU.2 ⟨aa,Is n _ _ _⟩
def Rt: ∀n c A B,(I6 n c A B).length=n
 |0,_,_,_=>rfl
 |n+1,c,A,B=>by simp [I6,Rt n]
def ajH: ∀n c A B,(Dw n c A B).length=n
 |0,_,_,_=>rfl
 |n+1,c,A,B=>by simp [Dw,ajH n]
def QY: ∀A B c,bp A=true->bp B=true->B.length<=A.length->0<=c->c<=1->au B+c<=au A->au (I6 A.length c A B)=au A-au B-c
 | [],B,c,j,d,f,k,l,b=>by
  have:B=[]:=aCa.1 (by simpa using f);subst this;simp only [au]at b;simp only [aBJ,I6,au];omega
 |a::A,B,c,j,d,f,k,l,b=>by
  obtain⟨p,h⟩:=dU.1 j;have q:=tV d;rw [Wp B]at b⊢;simp only [au]at b;have n:=QY A B.tail (-((a-c-Jv B)/10)) h (IF d) (by simp only [List.length_tail];simp only [aBn]at f;omega) aa aa aa;rw [aBn,I6];rw [show Jv (a::A)=a from rfl];simp only [au,List.tail_cons];rw [n];omega
def jN: ∀x,bp x=true->au x<10^x.length
 | [],_=>by simp [au]
 |d::x,h=>by
  obtain⟨⟨b,c⟩,a⟩:=dU.1 h;have:=jN x a;simp only [au,aBn,aCv];omega
def mq: ∀x d,au (x++ [d])=au x+10^x.length*d
 | [],d=>by simp [au]
 |a::x,d=>by
  rw [aA7];simp only [au,aBn,aCv];rw [mq x d];grind
def mA:bp (x++ [d])=true↔bp x=true/\0<=d/\d<10:=by
 simp [bp,dD,bZ]
def kz (h:bp x=true) n:bp (x.take n)=true:=aBj.2 λd a=>aBj.1 h d (List.mem_of_mem_take a)
def At (h:bp x=true) n:bp (x.drop n)=true:=aBj.2 λd a=>aBj.1 h d (List.mem_of_mem_drop a)
def My (x:List Int):Bool:=match x.reverse with | []=>true |d::_=> !Int.same d 0
def canon (x:List Int):Bool:=bp x&&My x
def oY (h:m<=n):(10:Int)^m<=10^n:=by
 induction h with
 |refl=>exact Int.le_refl _
 |step _ a=>
  rw [aCv];have:(0:Int)<=10^m:=Int.pow_nonneg aa;omega
def tm (h:canon x=true) (a:x≠ []):(10:Int)^(x.length-1)<=au x:=by
 simp only [canon,aA5]at h;obtain⟨b,c⟩:=h;rcases aCg x with rfl |⟨f,d,rfl⟩
 ·exact absurd rfl a
 rw [aCh]at*;obtain⟨j,l⟩:=mA.1 b;have n:=bP j;have p:d≠0:=λe=>by subst e;simp [My,aG]at c
 rw [mq];simp only [aBW,aBn,aBJ,aBh,Nat.add_sub_cancel];have k:(0:Int)<=10^f.length:=Int.pow_nonneg aa;have:=aB1 (show 1<=d by omega) k;omega
def Re (c:canon a=true) (d:canon b=true) (h:a.length<b.length):au a<au b:=by
 have f:=jN a (by simp only [canon,aA5]at c;exact c.1);have j:=tm d (by intro e;subst e;simp at h);have k:=oY (show a.length<=b.length-1 by omega);omega
end Ls.bG
namespace Ls
open dC
open Go
def N5 b (n:Nat) (h:n<256):b=UInt8.ofNat n↔dB b=n:=by
 constructor
 ·intro e;subst e;simp [dB];omega
 ·intro e;apply UInt8.toNat_inj.1;simp [dB]at e;simp;omega
def aaT b:0<=dB b/\dB b<256:=by
 have:=b.toNat_lt;have e:dB b=(b.toNat:Int):=rfl;have:b.toNat<256:=this;omega
def arE (h:dB a=dB b):a=b:=UInt8.toNat_inj.1 (Int.ofNat.inj h)
def fg (c:UInt8):Bool:=dD 48 (dB c)&&dD (dB c) 57
def CW:List UInt8->Bool
 |c::_=>Int.same (dB c) 45
 | []=>false
def CU (s:List UInt8):List UInt8:=cond (CW s) s.tail s
def jc (s:List UInt8):List Int:=s.reverse.map λc=>dB c-48
def Yf (s:List UInt8):List Int:=jc (CU s)
def JA:List UInt8->Bool
 | []=>false
 |c::t=> !Int.same (dB c) 48&&(c::t).all fg
def isNum (s:List UInt8):Bool:=aD s [48] ||JA (CU s)
def alh (s:List UInt8):Int:=bG.au (Yf s)
def iv (s:List UInt8):Int:=cond (CW s) (-alh s) (alh s)
def chD (d:Int):UInt8:=UInt8.ofNat (48+d).toNat
def ue (n:Nat):List UInt8:=(bG.b8 n).reverse.map chD
def bb (n:Int):List UInt8:=cond (Int.same n 0) [48] (cond (bZ n 0) ([45]++ue n.natAbs) (ue n.natAbs))
def Fz (s:List UInt8):Nat:=(CU s).length
def ct n:bp (b8 n)=true/\au (b8 n)=n/\My (b8 n)=true:=by
 induction n using Nat.strongRecOn with
 |ind n f=>
  by_cases e:n=0
  ·subst e;exact⟨rfl,rfl,rfl⟩
  ·rw [qq e];obtain⟨h,j,b⟩:=f (n/1000000000) aa;refine⟨dU.2 ⟨aa,h⟩, ?_, ?_⟩
   ·simp only [au,j];omega
   ·by_cases c:n/1000000000=0
    ·rw [c,AM];simp only [My,aBX,aCr,aA6];rw [av aa];rfl
    ·rw [qq c]at b⊢;simp only [My,aBX]at b⊢;cases d:((b8 (n/1000000000/1000000000)).reverse++ [((n/1000000000%1000000000:Nat):Int)])with
     |nil=>simp at d
     |cons a l=>rw [d]at b;rw [aA7];exact b
def aaJ (h:My x=true):gB x=x:=by
 rcases aCg x with rfl |⟨b,d,rfl⟩
 ·rfl
 ·rw [aCh]at*;have a:Int.same d 0=false:=by cases e:Int.same d 0<;>simp [My,e]at h⊢
  simp [gB,aBR,a]
def wH (h:canon x=true):b8 (au x).toNat=x:=by
 simp only [canon,aA5]at h;rw [<-gj h.1,aaJ h.2]
def la n:canon (b8 n)=true:=by
 obtain⟨a,_,b⟩:=ct n;simp [canon,a,b]
def tq k:(b8 n).length<=k↔(n:Int)<1000000000^k:=by
 obtain⟨a,b,d⟩:=ct n;constructor
 ·intro h;have:=jN _ a;have:=oY h;omega
 ·intro h;by_cases e:b8 n=[]
  ·simp [e]
  ·have c:=tm (la n) e;rw [b]at c;by_cases f:k<(b8 n).length
   ·have:=oY (show k<=(b8 n).length-1 by omega);omega
   ·omega
end Ls
namespace Ls.bG
open dC
open Go
set_option linter.unusedVariables false
set_option linter.unusedSimpArgs false
def ct n:bp (b8 n)=true/\au (b8 n)=n/\My (b8 n)=true:=by
 induction n using Nat.strongRecOn with
 |ind n f=>
  by_cases e:n=0
  ·subst e;exact⟨rfl,rfl,rfl⟩
  ·rw [qq e];obtain⟨h,j,b⟩:=f (n/10) aa;refine⟨dU.2 ⟨aa,h⟩, ?_, ?_⟩
   ·simp only [au,j];omega
   ·by_cases c:n/10=0
    ·rw [c,AM];simp only [My,aBX,aCr,aA6];rw [av aa];rfl
    ·rw [qq c]at b⊢;simp only [My,aBX]at b⊢;cases d:((b8 (n/10/10)).reverse++ [((n/10%10:Nat):Int)])with
     |nil=>simp at d
     |cons a l=>rw [d]at b;rw [aA7];exact b
def aaJ (h:My x=true):gB x=x:=by
 rcases aCg x with rfl |⟨b,d,rfl⟩
 ·rfl
 ·rw [aCh]at*;have a:Int.same d 0=false:=by cases e:Int.same d 0<;>simp [My,e]at h⊢
  simp [gB,aBR,a]
def wH (h:canon x=true):b8 (au x).toNat=x:=by
 simp only [canon,aA5]at h;rw [<-gj h.1,aaJ h.2]
def la n:canon (b8 n)=true:=by
 obtain⟨a,_,b⟩:=ct n;simp [canon,a,b]
def ahg (h:bp x=true) (a:d∈x):0<=d/\d<10:=by
 have:=aBj.1 h d a;simpa [dD,bZ]using this
def tq k:(b8 n).length<=k↔(n:Int)<10^k:=by
 obtain⟨a,b,d⟩:=ct n;constructor
 ·intro h;have:=jN _ a;have:=oY h;omega
 ·intro h;by_cases e:b8 n=[]
  ·simp [e]
  ·have c:=tm (la n) e;rw [b]at c;by_cases f:k<(b8 n).length
   ·have:=oY (show k<=(b8 n).length-1 by omega);omega
   ·omega
end Ls.bG
namespace Ls
open dC
open Go
set_option linter.unusedVariables false
set_option linter.unusedSimpArgs false
def YV (h:0<=d) (a:d<10):dB (chD d)=48+d:=by
 simp only [dB,chD];simp;omega
def arX (h:fg c=true):chD (dB c-48)=c:=by
 have a:=aaT c;simp only [fg,aA5,dD,decide_eq_true_eq]at h;apply arE;rw [YV aa aa];omega
def HM (h:s.all fg=true):bG.bp (jc s)=true:=by
 simp only [bG.bp,jc,aBj,List.mem_map,List.mem_reverse]at h⊢;rintro d ⟨c,a,rfl⟩;have:=h c a;simp only [fg,aA5,dD,bZ,decide_eq_true_eq]at this⊢;omega
def yl:JA s=true↔s≠ []/\s.all fg=true/\bG.My (jc s)=true:=by
 cases s with
 |nil=>simp [JA]
 |cons c t=>
  simp only [JA,aA5,ne_eq,reduceCtorEq,not_false_eq_true,true_and];have e:bG.My (jc (c::t))= !Int.same (dB c) 48:=by
   simp only [jc,bG.My,aBX,List.map_append,aB7,List.map_nil,aCs,aCr,aA6,aCu];congr 1;rw [jm,jm];rw [Bool.eq_iff_iff];simp only [beq_iff_eq];omega
  rw [e];constructor
  ·rintro⟨a,b⟩;exact⟨b,a⟩
  ·rintro⟨a,b⟩;exact⟨b,a⟩
def aa6 (h:JA s=true):bG.canon (jc s)=true:=by
 obtain⟨_,a,b⟩:=yl.1 h;simp [bG.canon,HM a,b]
def aq6 (h:JA s=true):ue (bG.au (jc s)).toNat=s:=by
 rw [ue,bG.wH (aa6 h)];obtain⟨_,a,_⟩:=yl.1 h;simp only [jc,List.map_reverse,List.reverse_reverse,List.map_map]
 conv=>rhs;rw [<-List.map_id s]
 apply List.map_congr_left;intro c b;simp only [Function.comp,id];exact arX (aBj.1 a c b)
def YA n:jc (ue n)=bG.b8 n:=by
 obtain⟨a,_,_⟩:=bG.ct n;simp only [jc,ue,List.map_reverse,List.reverse_reverse,List.map_map]
 conv=>rhs;rw [<-List.map_id (bG.b8 n)]
 apply List.map_congr_left;intro d b;have:=bG.ahg a b;simp only [Function.comp,id];rw [YV this.1 this.2];omega
def I2 (h:n≠0):JA (ue n)=true:=by
 obtain⟨a,_,b⟩:=bG.ct n;refine yl.2 ⟨?_, ?_,by rw [YA];exact b⟩
 ·intro e;have:bG.b8 n=[]:=by rw [<-YA,e];rfl
  rw [bG.qq h]at this;cases this
 ·simp only [ue,aBj,List.mem_map,List.mem_reverse];rintro c ⟨d,f,rfl⟩;have:=bG.ahg a f;simp only [fg,YV this.1 this.2,dD,aA5,decide_eq_true_eq];omega
def aoY (h:JA s=true):CW s=false:=by
 cases s with
 |nil=>rfl
 |cons c t=>
  have:=(yl.1 h).2.1;have:=aBj.1 this c ab;simp only [fg,aA5,dD,decide_eq_true_eq]at this;show Int.same (dB c) 45=false;exact av aa
def asM (h:JA s=true):CU s=s:=by rw [CU,aoY h];rfl
def aqR:bb 0=[48]:=rfl
def qt (h:0<n):bb n=ue n.natAbs:=by
 rw [bb,av aa,az aa];rfl
def rQ (h:n<0):bb n=[45]++ue n.natAbs:=by
 rw [bb,av aa,ax h];rfl
def M9 n:CW (bb n)=bZ n 0:=by
 by_cases h:n=0
 ·subst h;rfl
 by_cases a:n<0
 ·rw [rQ a,ax a];rfl
 ·rw [qt aa,az a];exact aoY (I2 aa)
def A1 (h:n≠0):CU (bb n)=ue n.natAbs:=by
 by_cases a:n<0
 ·rw [rQ a];rfl
 ·rw [qt aa];exact asM (I2 aa)
def Dj n:isNum (bb n)=true:=by
 by_cases h:n=0
 ·subst h;rfl
 ·rw [isNum,A1 h,I2 aa,Bool.or_true]
def afD (h:n≠0):Yf (bb n)=bG.b8 n.natAbs:=by
 rw [Yf,A1 h,YA]
def agQ n:alh (bb n)=n.natAbs:=by
 by_cases h:n=0
 ·subst h;rfl
 ·rw [alh,afD h];exact(bG.ct _).2.1
def bf n:iv (bb n)=n:=by
 rw [iv,M9,agQ];by_cases h:n<0
 ·rw [ax h,cond_true];omega
 ·rw [az h,cond_false];omega
def ak0 (h:isNum s=true):s=[48]\/JA (CU s)=true:=by
 rw [isNum,Bool.or_eq_true]at h;rcases h with h |h
 ·exact .inl (dZ.1 h)
 ·exact .inr h
def awB (h:JA s=true):0<bG.au (jc s):=by
 have a:=bG.tm (aa6 h) (by
  intro e;have:=(yl.1 h).1;apply this;simpa [jc]using e)
 have:(0:Int)<10^((jc s).length-1):=Int.pow_pos aa;omega
def aq9 (h:isNum s=true):bb (iv s)=s:=by
 rcases ak0 h with rfl |h
 ·rfl
 ·have d:=awB h;have b:=aq6 h;cases a:CW s with
  |true=>
   rw [iv,a,cond_true,alh,Yf,rQ aa];rw [show(-bG.au (jc (CU s))).natAbs=(bG.au (jc (CU s))).toNat by omega,b];cases s with
   |nil=>simp [CW]at a
   |cons c t=>
    have:c=45:=by
     rw [CW]at a;have:=jm (dB c) 45;rw [this]at a;exact(N5 c 45 aa).2 (by simpa using a)
    subst this;rfl
  |false=>
   rw [iv,a,cond_false,alh,Yf,qt d];rw [show(bG.au (jc (CU s))).natAbs=(bG.au (jc (CU s))).toNat by omega,b];rw [CU,a];rfl
def auV (h:bb a=bb b):a=b:=by rw [<-bf a,h,bf]
def tS:isNum s=true↔ ∃n,s=bb n:=⟨λh=>⟨_,(aq9 h).symm⟩,λ⟨n,e⟩=>e▸Dj n⟩
def jl n:bb n≠ []:=by
 by_cases h:n=0
 ·subst h;simp [aqR]
 by_cases a:n<0
 ·rw [rQ a];simp
 ·rw [qt aa];exact(yl.1 (I2 aa)).1
def WU n k:(ue n).length<=k↔(n:Int)<10^k:=by
 rw [ue,List.length_map,List.length_reverse];exact bG.tq k
def auv (a:1<=k):Fz (bb n)<=k↔(n.natAbs:Int)<10^k:=by
 by_cases h:n=0
 ·subst h;have:(10:Int)^1<=10^k:=bG.oY a;simp only [Int.pow_one]at this;constructor
  ·intro _;simp;omega
  ·intro _;show 1<=k;omega
 ·rw [Fz,A1 h];exact WU _ _
def avb n:(bb n).length<=Fz (bb n)+1:=by
 rw [Fz,CU];cases CW (bb n)<;>simp;omega
def xY s:Fz s<=s.length:=by
 rw [Fz,CU];cases CW s<;>simp
def agA a b:aD (bb a) (bb b)=Int.same a b:=by
 rw [jm,Bool.eq_iff_iff,dZ,beq_iff_eq];exact⟨auV,λh=>by rw [h]⟩
def Hn a:aD (bb a) [48]=Int.same a 0:=agA a 0
def Ry a:aD (bb a) [49]=Int.same a 1:=agA a 1
def dL (n:Int):Nat:=Fz (bb n)
def jS (k:Nat) (s:List UInt8):Bool:=isNum s&&aBD (Fz s) k
def ff:jS k s=true↔ ∃n,s=bb n/\dL n<=k:=by
 rw [jS,aA5,tS,aBF];constructor
 ·rintro⟨⟨n,rfl⟩,h⟩;exact⟨n,rfl,h⟩
 ·rintro⟨n,rfl,h⟩;exact⟨⟨n,rfl⟩,h⟩
def cg (h:dL n<=k):jS k (bb n)=true:=ff.2 ⟨n,rfl,h⟩
def JG (hk:1<=k):dL n<=k↔(n.natAbs:Int)<10^k:=auv hk
def NX n:1<=dL n:=by
 by_cases h:n=0
 ·subst h;decide
 ·rw [dL,Fz,A1 h];have:=(yl.1 (I2 (show n.natAbs≠0 by omega))).1;cases hd:ue n.natAbs with
  |nil=>exact absurd hd this
  |cons a b=>simp
def aiF n:(n.natAbs:Int)<10^dL n:=(JG (NX n)).1 (aBg _)
def lY (h:a.natAbs<=b.natAbs):dL a<=dL b:=by
 rw [JG (NX b)];have:=aiF b;omega
def zl a:dL (-a)=dL a:=Nat.le_antisymm (lY aa) (lY aa)
def Eg a:dL (a.natAbs:Int)=dL a:=Nat.le_antisymm (lY aa) (lY aa)
def mG a b:dL (a*b)<=dL a+dL b:=by
 have h1:=NX a;rw [JG aa,Int.natAbs_mul,Int.pow_add];have ha:=aiF a;have hb:=aiF b;rw [Int.natCast_mul];generalize (10:Int)^dL a=P at*;generalize (10:Int)^dL b=Q at*;have h2:(0:Int)<=(a.natAbs:Int):=aa
 have h3:(0:Int)<=(b.natAbs:Int):=aa
 have h4:=aB1 (show(b.natAbs:Int)<=Q by omega) h2;have h5:=Int.mul_lt_mul_of_pos_right ha (show 0<Q by omega);omega
def NR (ha:dL a<=k) (hb:dL b<=k):dL (a+b)<=k+1:=by
 have h1:=NX a;have ha:=(JG aa).1 ha;have hb:=(JG aa).1 hb;rw [JG aa,aCv];omega
def apu (ha:dL a<=k) (hb:dL b<=k):dL (a-b)<=k+1:=by
 rw [Int.sub_eq_add_neg];exact NR ha (by rw [zl];exact hb)
def Ep n:(bb n).length<=dL n+1:=avb n
def RV:(Yf (bb n)).length=dL n:=by simp [Yf,jc,dL,Fz]
def ag6 n:bG.bp (Yf (bb n))=true:=by
 by_cases h:n=0
 ·subst h;decide
 ·rw [afD h];exact(bG.ct _).1
def OC n:bG.au (Yf (bb n))=n.natAbs:=agQ n
def atB n:bG.gB (Yf (bb n))=bG.b8 n.natAbs:=by
 rw [bG.gj (ag6 n),OC];rfl
def aku:bG.b8 n=[]↔n=0:=by
 constructor
 ·intro h;have:=(bG.ct n).2.1;rw [h]at this;simp only [bG.au]at this;omega
 ·rintro rfl;rfl
def ak2 n (h:n≠0):(bG.b8 n.natAbs).length=dL n:=by rw [<-RV,afD h]
def Hr n:(bG.b8 n.natAbs).length<=dL n:=by
 by_cases h:n=0
 ·subst h;show 0<=_;omega
 ·rw [ak2 n h];exact aBg _
def neS:List UInt8->Bool
 | []=>false
 |_::_=>true
def bK (x:List UInt8):Bool:=neS x
def bc (x:List UInt8):Bool:=CW x
def bw (x:List UInt8):Bool:=neS x&&room x.length
def cS (x:List UInt8):Int:=aBy (Fz x)
def uQ (x:List UInt8):Bool:=room x.length
def tN (x:List UInt8):Bool:=isNum x
def gx (x:List UInt8):Bool:=room x.length
def yo (x:List UInt8):Int:=cond (isNum x) (cond (bZ 4096 (aBy (Fz x))) 10 0) 3
def df (x:List UInt8):Int:=yo x
def ez (x:List UInt8):Bool:=jS 34359738368 x
def aM (x:List UInt8):List Int:=Yf x
def cr (x:List Int):Bool:=aBS x.length 1099511627776
def bA (x:List Int):List Int:=bG.gB x
def J0 (a b:List Int):Bool:=(room a.length&&room b.length)&&(bG.bp a&&bG.bp b)
def A7 (n:Int):Int:=cond (bZ n 0) (-1) (cond (Int.same n 0) 0 1)
def eo (x:List Int×List Int):Bool:=J0 x.1 x.2&&(bG.canon x.1&&bG.canon x.2)
def fK (x:List Int×List Int):Int:=A7 (bG.au x.1-bG.au x.2)
def fQ (x:List Int×Bool):Bool:=room x.1.length&&bG.bp x.1
def dY (x:List Int×Bool):List UInt8:=bb (cond x.2 (-bG.au x.1) (bG.au x.1))
def kG (x:List UInt8):Bool:=isNum x
def gC (x:List UInt8):Int:=A7 (iv x)
def gy (x:List UInt8×List UInt8):Bool:=jS 34359738368 x.1&&jS 34359738368 x.2
def ke (x:List UInt8×List UInt8):Int:=A7 (iv x.1-iv x.2)
def iH (x:List UInt8):Bool:=jS 34359738368 x
def eQ (x:List UInt8):List UInt8:=bb (-iv x)
def kV (x:List UInt8):Bool:=jS 34359738368 x
def ki (x:List UInt8):List UInt8:=bb ((iv x).natAbs)
def lD (x:List Int×Int):Bool:=dD 0 x.2
def iQ (x:List Int×Int):Int:=(x.1[x.2.toNat]?).getD 0
def uO (x:List Int×List Int):Bool:=J0 x.1 x.2
def qa (x:List Int×List Int):List Int:=bG.b8 (bG.au x.1+bG.au x.2).toNat
def ep (x:List Int×List Int):Bool:=J0 x.1 x.2&&(aBD x.2.length x.1.length&&dD (bG.au x.2) (bG.au x.1))
def fN (x:List Int×List Int):List Int:=bG.b8 (bG.au x.1-bG.au x.2).toNat
def sO (x:List Int×List Int):Bool:=J0 x.1 x.2
def ml (x:List Int×List Int):List Int:=bG.b8 (bG.au x.1*bG.au x.2).toNat
def jU (x:List UInt8×Int):Bool:=jS 34359738368 x.1
def mg (x:List UInt8×Int):Bool:=dD (aBy (Fz x.1)) x.2
def fD (x:List UInt8):Bool:=jS 18 x
def cJ (x:List UInt8):Int:=iv x
def i18 (n:Int):Bool:=dD (-1000000000000000000) n&&dD n 1000000000000000000
def iy (x:Int):Bool:=i18 x
def iW (x:Int):List UInt8:=bb x
def mr (x:Int×Int):Bool:=(i18 x.1&&i18 x.2)&& !Int.same x.2 0
def oM (x:Int×Int):Int:=Int.fdiv x.1 x.2
def mf (x:List Int×List Int):Bool:=((aBS x.1.length 34359738368&&aBS x.2.length 34359738368)&&(bG.bp x.1&&bG.bp x.2))&&((bG.canon x.1&&bG.canon x.2)&&bZ 0 (bG.au x.2))
def gM (x:List Int×List Int):List Int×List Int:=(bG.b8 (bG.au x.1/bG.au x.2).toNat,bG.b8 (bG.au x.1%bG.au x.2).toNat)
def e9 (x:List UInt8×List UInt8):Bool:=jS 17179869184 x.1&&jS 17179869184 x.2
def eS (x:List UInt8×List UInt8):List UInt8:=bb (iv x.1+iv x.2)
def gV (x:List UInt8×List UInt8):Bool:=jS 17179869184 x.1&&jS 17179869184 x.2
def nO (x:List UInt8×List UInt8):List UInt8:=bb (iv x.1-iv x.2)
def cH (x:List UInt8×List UInt8):Bool:=jS 8589934592 x.1&&jS 8589934592 x.2
def bE (x:List UInt8×List UInt8):List UInt8:=bb (iv x.1*iv x.2)
def ft (x:List UInt8×List UInt8):Bool:=(jS 4294967296 x.1&&jS 4294967296 x.2)&& !Int.same (iv x.2) 0
def ek (x:List UInt8×List UInt8):List UInt8:=bb (Int.fdiv (iv x.1) (iv x.2))
def nB (x:List UInt8×List UInt8):Bool:=(jS 1073741824 x.1&&jS 1073741824 x.2)&& !Int.same (iv x.2) 0
def tF (x:List UInt8×List UInt8):List UInt8:=bb (Int.fmod (iv x.1) (iv x.2))
def fI (x:List UInt8×List UInt8):Bool:=jS 1073741824 x.1&&jS 1073741824 x.2
def eP (x:List UInt8×List UInt8):List UInt8:=bb (Int.gcd (iv x.1) (iv x.2))
noncomputable def Io:Spec:= .val [none] .str [none] (.int .i64) gx df
noncomputable def nT:Spec:= .val [none] .str [none] (.int .i64) bw cS
noncomputable def TO:Spec:= .val [none] .str [none] .bool uQ tN
noncomputable def gZ:Spec:= .val [none] .str [none] .bool bK bc
noncomputable def Hv:Spec:= .val [none,none] (.pair .str .str) [none] (.int .i64) gy ke
noncomputable def Fv:Spec:= .val [none,none] (.pair .str .str) [none] .str fI eP
noncomputable def Ds:Spec:= .val [none] .str [none] .str iH eQ
noncomputable def T0:Spec:= .val [none,none] (.pair .str .str) [none] .str nB tF
noncomputable def rV:Spec:= .val [none,none] (.pair .str .str) [none] .str cH bE
noncomputable def KF:Spec:= .val [none] .str [none] (.int .i64) kG gC
noncomputable def Cw:Spec:= .val [none,none] (.pair (.list (.int .i64)) (.list (.int .i64))) [none] (.int .i64) eo fK
noncomputable def ow:Spec:= .val [none] (.list (.int .i64)) [none] (.list (.int .i64)) cr bA
noncomputable def tj:Spec:= .val [none] .str [none] (.list (.int .i64)) ez aM
noncomputable def Iv:Spec:= .val [none] .str [none] .str kV ki
noncomputable def Nr:Spec:= .val [none,none] (.pair .str .str) [none] .str e9 eS
noncomputable def KR:Spec:= .val [none,none] (.pair .str .str) [none] .str gV nO
noncomputable def HL:Spec:= .val [none,none] (.pair .str .str) [none] .str ft ek
noncomputable def Bv:Spec:= .val [none] (.int .i64) [none] .str iy iW
noncomputable def zY:Spec:= .val [none] .str [none] (.int .i64) fD cJ
noncomputable def EO:Spec:= .val [none,none] (.pair (.list (.int .i64)) .bool) [none] .str fQ dY
noncomputable def Q8:Spec:= .val [none,none] (.pair (.list (.int .i64)) (.list (.int .i64))) [none] (.list (.int .i64)) sO ml
noncomputable def It:Spec:= .val [none,none] (.pair .str (.int .i64)) [none] .bool jU mg
noncomputable def TW:Spec:= .val [none,none] (.pair (.list (.int .i64)) (.list (.int .i64))) [none] (.list (.int .i64)) uO qa
noncomputable def HD:Spec:= .val [none,none] (.pair (.list (.int .i64)) (.list (.int .i64))) [none] (.list (.int .i64)) ep fN
noncomputable def P9:Spec:= .val [none,none] (.pair (.int .i64) (.int .i64)) [none] (.int .i64) mr oM
noncomputable def P3:Spec:= .val [none,none] (.pair (.list (.int .i64)) (.list (.int .i64))) [none,none] (.pair (.list (.int .i64)) (.list (.int .i64))) mf gM
noncomputable def Rq:Spec:= .val [none,none] (.pair (.list (.int .i64)) (.int .i64)) [none] (.int .i64) lD iQ
def vS:List UInt8->Int
 | []=> -1
 |c::t=>cond (Int.same (dB c) 47) 0 (cond (bZ (vS t) 0) (-1) (vS t+1))
def sG (s:List UInt8):List UInt8:=cond (dD 0 (vS s)) (s.take (vS s).toNat) s
def pX (s:List UInt8):List UInt8:=cond (dD 0 (vS s)) (s.drop (vS s+1).toNat) [49]
def E7 (s:List UInt8):Bool:=isNum (sG s)&&(bZ (vS s) 0 ||((isNum (pX s)&&bZ 1 (iv (pX s)))&&aBc (Int.gcd (iv (sG s)) (iv (pX s))) 1))
def cn (x:Rat):List UInt8:=cond (aBc x.den 1) (bb x.num) (bb x.num++([47]++bb x.den))
def nS (s:List UInt8):Rat:=Rat.divInt (iv (sG s)) (iv (pX s))
def aiV (s:List UInt8):Prop:= ∀c∈s,dB c≠47
def aah (h:s.all fg=true):aiV s:=by
 intro c a;have:=aBj.1 h c a;simp only [fg,aA5,dD,decide_eq_true_eq]at this;omega
def afx n:aiV (bb n):=by
 by_cases e:n=0
 ·subst e;exact aah ah
 ·have a:=(yl.1 (I2 (show n.natAbs≠0 by omega))).2.1;by_cases b:n<0
  ·rw [rQ b];intro c d;rcases aBZ.1 d with h |h
   ·simp at h;subst h;decide
   ·exact aah a c h
  ·rw [qt aa];exact aah a
def Vn s: -1<=vS s:=by
 induction s with
 |nil=>decide
 |cons c t b=>
  rw [vS];by_cases e:dB c=47
  ·rw [aG e,cond_true];omega
  ·rw [av e,cond_false];by_cases a:vS t<0
   ·rw [ax a,cond_true];omega
   ·rw [az a,cond_false];omega
def aqK (h:aiV s):vS s= -1:=by
 induction s with
 |nil=>rfl
 |cons c t a=>
  have:=a (λd b=>h d (List.mem_cons_of_mem _ b));rw [vS,av (h c ab),this];rfl
def amX (h:aiV s):vS (s++([47]++t))=s.length:=by
 induction s with
 |nil=>rfl
 |cons c s a=>
  have:=a (λd b=>h d (List.mem_cons_of_mem _ b));rw [aA7,vS,av (h c ab),this,cond_false,az aa,cond_false];simp
def aq7 (h:0<=vS s):s=sG s++([47]++pX s):=by
 have a: ∀s:List UInt8,0<=vS s->s=s.take (vS s).toNat++([47]++s.drop (vS s+1).toNat):=by
  intro s;induction s with
  |nil=>intro h;simp [vS]at h
  |cons c t f=>
   intro h;rw [vS]at h⊢;by_cases e:dB c=47
   ·rw [aG e,cond_true];have:c=47:=(N5 c 47 aa).2 e;subst this;rfl
   ·rw [av e,cond_false]at h⊢;by_cases b:vS t<0
    ·rw [ax b,cond_true]at h;omega
    ·rw [az b,cond_false];have d:0<=vS t:=aa
     obtain⟨n,j⟩:=Int.eq_ofNat_of_zero_le d;have:=f d;rw [j]at this⊢;rw [show((n:Int)+1).toNat=n+1 by omega,show((n:Int)+1+1).toNat=n+1+1 by omega,List.take_succ_cons,List.drop_succ_cons,aA7];rw [show((n:Int)+1).toNat=n+1 by omega,aCn]at this;rw [<-this]
 rw [sG,pX,aF h];exact a s h
def D0 (x:Rat):(aBc x.den 1=true/\x.den=1)\/(aBc x.den 1=false/\x.den≠1):=by
 cases h:aBc x.den 1 with
 |true=>exact .inl ⟨rfl,aA8 h⟩
 |false=>exact .inr ⟨rfl,λe=>by rw [e]at h;cases h⟩
def Wg x:vS (cn x)=cond (aBc x.den 1) (-1) ((bb x.num).length:Int):=by
 rw [cn];rcases D0 x with⟨h,_⟩ |⟨h,_⟩<;>rw [h]
 ·exact aqK (afx _)
 ·exact amX (afx _)
def tX x:sG (cn x)=bb x.num:=by
 rw [sG,Wg,cn];rcases D0 x with⟨h,_⟩ |⟨h,_⟩<;>rw [h]
 ·rfl
 ·rw [cond_false,aF aa,cond_true,aCn,cond_false,List.take_left]
def tZ x:pX (cn x)=bb x.den:=by
 rw [pX,Wg,cn];rcases D0 x with⟨h,e⟩ |⟨h,_⟩<;>rw [h]
 ·rw [e];rfl
 ·rw [cond_false,aF aa,cond_true,cond_false,show(((bb x.num).length:Int)+1).toNat=(bb x.num).length+1 by omega,<-List.append_assoc,show(bb x.num).length+1=(bb x.num++ [47]).length by simp,List.drop_left]
def bX x:nS (cn x)=x:=by
 rw [nS,tX,tZ,bf,bf,Rat.num_divInt_den]
def adD x:E7 (cn x)=true:=by
 rw [E7,tX,tZ,Wg,Dj,Dj,bf,bf,Bool.true_and,Bool.true_and];rcases D0 x with⟨h,e⟩ |⟨h,e⟩<;>rw [h]
 ·rfl
 ·have c:=x.den_nz;have b:Int.gcd x.num x.den=1:=x.reduced;rw [b,ax (a:=1) aa];simp
def Sk:E7 s=true↔ ∃x,s=cn x:=by
 constructor
 ·intro h;rw [E7,aA5,Bool.or_eq_true]at h;obtain⟨k,a⟩:=h;obtain⟨m,b⟩:=tS.1 k;rcases a with a |a
  ·have j:vS s<0:=by simpa [bZ]using a
   refine⟨⟨m,1,aa,Nat.coprime_one_right _⟩, ?_⟩;rw [sG,dH aa,cond_false]at b;rw [b];rfl
  ·rw [aA5,aA5]at a;obtain⟨⟨j,d⟩,f⟩:=a;obtain⟨n,c⟩:=tS.1 j;rw [c,bf]at d f;rw [b,bf]at f;have d:1<n:=by simpa [bZ]using d
   have l:Int.gcd m n=1:=aA8 f;refine⟨⟨m,n.natAbs,aa,l⟩, ?_⟩;have p:0<=vS s:=by
    by_cases e:0<=vS s
    ·exact e
    ·rw [pX,dH e,cond_false]at c;have:iv [49]=iv (bb n):=by rw [c]
     rw [bf]at this;have:(1:Int)=n:=this;omega
   have:=aq7 p;rw [this,b,c];have q:aBc n.natAbs 1=false:=by
    cases e:aBc n.natAbs 1 with
    |false=>rfl
    |true=>have:=aA8 e;omega
   show _=cond (aBc n.natAbs 1) _ _;rw [q,cond_false,show((n.natAbs:Nat):Int)=n by omega]
 ·rintro⟨x,rfl⟩;exact adD x
def auE (h:cn x=cn y):x=y:=by rw [<-bX x,h,bX]
def pj (n:Int):cn n=bb n:=rfl
def RZ a b:aD (cn a) (cn b)=decide (a=b):=by
 rw [Bool.eq_iff_iff,dZ,decide_eq_true_eq];exact⟨auE,λh=>by rw [h]⟩
def yO (k:Nat) (s:List UInt8):Bool:=E7 s&&(aBD (Fz (sG s)) k&&aBD (Fz (pX s)) k)
def Jy (k:Nat) (x:Rat):Prop:=dL x.num<=k/\dL x.den<=k
def hJ:yO k s=true↔ ∃x,s=cn x/\Jy k x:=by
 rw [yO,aA5,aA5,Sk,aBF,aBF];constructor
 ·rintro⟨⟨x,rfl⟩,h⟩;rw [tX,tZ]at h;exact⟨x,rfl,h⟩
 ·rintro⟨x,rfl,h⟩;refine⟨⟨x,rfl⟩, ?_⟩;rw [tX,tZ];exact h
def lj (h:Jy k x):yO k (cn x)=true:=hJ.2 ⟨x,rfl,h⟩
def alK x (h:Jy k x):(cn x).length<=2*k+3:=by
 have a:=Ep x.num;have b:=Ep x.den;obtain⟨c,d⟩:=h;rw [cn];cases aBc x.den 1
 ·simp only [cond_false,aBW,aBn,aBJ];omega
 ·simp only [cond_true];omega
def OF (x y:Rat):Int:=A7 (x.num*y.den-y.num*x.den)
def NS:OF x y<0↔x<y:=by
 rw [Rat.lt_iff,OF,A7];by_cases h:x.num*y.den-y.num*x.den<0
 ·rw [ax h];simp;omega
 ·rw [az h,cond_false];by_cases a:x.num*y.den-y.num*x.den=0
  ·rw [aG a];simp;omega
  ·rw [av a];simp;omega
def XE:0<OF x y↔y<x:=by
 rw [Rat.lt_iff,OF,A7];by_cases h:x.num*y.den-y.num*x.den<0
 ·rw [ax h];simp;omega
 ·rw [az h,cond_false];by_cases a:x.num*y.den-y.num*x.den=0
  ·rw [aG a];simp;omega
  ·rw [av a];simp;omega
def TX (h:b≠0):0<Int.gcd a b:=Nat.pos_of_ne_zero (by rw [Ne,Int.gcd_eq_zero_iff];omega)
def N3 (h:0<n):(Rat.divInt m n).num=m/(Int.gcd m n:Nat)/\((Rat.divInt m n).den:Int)=n/(Int.gcd m n:Nat):=by
 obtain⟨d,rfl⟩:=Int.eq_ofNat_of_zero_le (Int.le_of_lt h);have a:d≠0:=aa
 have e:Rat.divInt m (d:Int)=Rat.normalize m d a:=by
  rw [Rat.divInt_ofNat,Rat.mkRat_def,dif_neg a]
 rw [e,Rat.normalize_eq];exact⟨rfl,by simp [Int.gcd]⟩
def eX (x:List UInt8):Bool:=aBD x.length 1073741823
def dE (x:List UInt8):Bool:=room x.length
def cD (x:List UInt8):Int:=vS x
def dt (x:List UInt8):Bool:=room x.length
def bq (x:List UInt8):List UInt8:=sG x
def b9 (x:List UInt8):Bool:=room x.length
def aP (x:List UInt8):List UInt8:=pX x
def fR (x:List UInt8×List UInt8):Bool:=(jS 1073741823 x.1&&jS 1073741823 x.2)&& !Int.same (iv x.2) 0
def iM (x:List UInt8×List UInt8):List UInt8:=cn (Rat.divInt (iv x.1) (iv x.2))
def fo (x:List UInt8×List UInt8):Bool:=yO 268435456 x.1&&yO 268435456 x.2
def e8 (x:List UInt8×List UInt8):Int:=OF (nS x.1) (nS x.2)
def jn (x:List UInt8×List UInt8):Bool:=yO 268435456 x.1&&yO 268435456 x.2
def iR (x:List UInt8×List UInt8):List UInt8:=cn (nS x.1+nS x.2)
def iC (x:List UInt8×List UInt8):Bool:=yO 268435456 x.1&&yO 268435456 x.2
def eN (x:List UInt8×List UInt8):List UInt8:=cn (nS x.1*nS x.2)
def lx (x:List UInt8):Bool:=(aBS x.length 68719476735&&neS (sG x))&&neS (pX x)
def alT (x:List UInt8):Int:=cond (bZ (aBy (Fz (sG x))) (aBy (Fz (pX x)))) (aBy (Fz (pX x))) (aBy (Fz (sG x)))
def uD (x:List UInt8):Int:=alT x
def oe (x:List UInt8):Bool:=eX x
def qJ (x:List UInt8):Bool:=E7 x
def fm (x:List UInt8):Bool:=eX x
def kv (x:List UInt8):Int:=cond (E7 x) (cond (bZ 4096 (alT x)) 10 0) 3
def eZ (x:List UInt8):Int:=kv x
noncomputable def Ca:Spec:= .val [none] .str [none] (.int .i64) fm eZ
noncomputable def OZ:Spec:= .val [none] .str [none] .bool oe qJ
noncomputable def O1:Spec:= .val [none] .str [none] (.int .i64) lx uD
noncomputable def sX:Spec:= .val [none] .str [none] .str dt bq
noncomputable def r6:Spec:= .val [none] .str [none] (.int .i64) dE cD
noncomputable def nV:Spec:= .val [none] .str [none] .str b9 aP
noncomputable def Cu:Spec:= .val [none,none] (.pair .str .str) [none] (.int .i64) fo e8
noncomputable def K0:Spec:= .val [none,none] (.pair .str .str) [none] .str jn iR
noncomputable def H8:Spec:= .val [none,none] (.pair .str .str) [none] .str iC eN
noncomputable def EB:Spec:= .val [none,none] (.pair .str .str) [none] .str fR iM
def Pm (p s:List UInt8):Bool:=aBD p.length s.length&&aD (s.take p.length) p
def X6 (a b:List UInt8):Bool:=room a.length&&room b.length
def eK (x:List UInt8×List UInt8):Bool:=X6 x.1 x.2
def bV (x:List UInt8×List UInt8):List UInt8×Bool:=cond (Pm x.2 x.1) (x.1.drop x.2.length,true) (x.1,false)
def er (x:List UInt8×List UInt8):Bool:=X6 x.1 x.2
def ib (x:List UInt8×List UInt8):List UInt8:=cond (Pm x.2 x.1) (x.1.drop x.2.length) x.1
def fv (x:List UInt8×List UInt8):Bool:=X6 x.1 x.2
def eL (x:List UInt8×List UInt8):List UInt8×Bool:=cond (Pm x.2 x.1) (x.1.drop x.2.length,true) (x.1,false)
def fc (x:List UInt8×List UInt8):Bool:=X6 x.1 x.2
def fE (x:List UInt8×List UInt8):List UInt8:=cond (Pm x.2 x.1) (x.1.drop x.2.length) x.1
def dz (x:List UInt8×List UInt8):Bool:=X6 x.1 x.2
def di (x:List UInt8×List UInt8):Bool:=Pm x.2 x.1
def A8 (x:List UInt8):Bool:=false
def CY (x:List UInt8):List UInt8:=x
def Ut:List UInt8:=[48,49,50,51,52,53,54,55,56,57]
def agI (s:List UInt8):List UInt8:=(s.reverse.dropWhile fg).reverse.dropWhile fg
def od (x:List UInt8×List UInt8):Bool:=room x.1.length&&aD x.2 Ut
def CN (x:List UInt8×List UInt8):List UInt8:=agI x.1
def pC (x:List UInt8×Int):Bool:=aD x.1 [48]&&(dD 0 x.2&&dD x.2 8)
def om (x:List UInt8×Int):List UInt8:=aCf x.2.toNat 48
def ll (x:Int):Bool:=i18 x
def fV (x:Int):List UInt8:=bb x
def apE (x:List UInt8):Bool:=x.all fg&&(aBS 0 x.length&&aBD x.length 18)
def n5 (x:List UInt8):Bool:=apE x
def BE (x:List UInt8):Int×Unit:=(bG.au (jc x),())
def gH (x:List UInt8):Bool:=apE x
def o5 (x:List UInt8):Int×Unit:=(bG.au (jc x),())
def qG (x:List UInt8×Int×Int):Bool:=false
def mj (x:List UInt8×Int×Int):Int×Unit:=(0,())
def eB (x:List Int×List Int):Bool:=two x.1 x.2
def cw (x:List Int×List Int):List Int×Int:=
 (b8 (au x.1*au x.2).toNat++aCf (x.1.length+x.2.length-(b8 (au x.1*au x.2).toNat).length) 0,aBy (b8 (au x.1*au x.2).toNat).length)
def lX (x:(Bool×List Int)×(Bool×List Int)):Bool:=two x.1.2 x.2.2
def cM (x:(Bool×List Int)×(Bool×List Int)):Bool×List Int:=(!(x.1.1==x.2.1),b8 (au x.1.2*au x.2.2).toNat)
def dq (x:List Int×List Int):Bool:=((aBS x.1.length 1073741824&&aBS x.2.length 1073741824)&&(canon x.1&&canon x.2))&&bZ 0 (au x.2)
def gq (x:List Int×List Int):List Int×List Int:=(b8 (au x.1/au x.2).toNat,b8 (au x.1%au x.2).toNat)
def ui (b:Bool) (v:Int):Int:=cond b (-v) v
def ud (x:Bool×List Int):Int:=ui x.1 (au x.2)
def gz (x:(Bool×List Int)×(Bool×List Int)):Bool:=dq (x.1.2,x.2.2)
def bM (x:(Bool×List Int)×(Bool×List Int)):(Bool×List Int)×(Bool×List Int):=
 ((!(x.1.1==x.2.1),b8 (Int.fdiv (ud x.1) (ud x.2)).natAbs),(x.2.1,b8 (Int.fmod (ud x.1) (ud x.2)).natAbs))
def kg (x:List Int×List Int):Bool:=(aBS x.1.length 1073741824&&aBS x.2.length 1073741824)&&(canon x.1&&canon x.2)
def jW (x:List Int×List Int):List Int:=b8 (Nat.gcd (au x.1).toNat (au x.2).toNat)
def b7 (x:Bool×List Int):Bool:=aBS x.2.length 4294967296&&canon x.2
def cZ (x:Bool×List Int):List UInt8:=bb (ud x)
def jd (x:Bool×List Int):Bool:=aBS x.2.length 4294967296&&canon x.2
def kj (x:Bool×List Int):Int:=cond (Int.same (au x.2) 0) 0 (aBy (dL (au x.2)))
def de (x:Bool×List Int):Bool:=aBS x.2.length 4294967296&&canon x.2
def ajV (n:Int):List UInt8×Int:=cond (bZ 4096 (aBy (dL n))) ([],10) (bb n,0)
def da (x:Bool×List Int):List UInt8×Int:=ajV (ud x)
def my (x:List UInt8):Bool:=jS 8589934592 x
def aba (x:List UInt8):Bool×List Int:=(CW x,b8 (iv x).natAbs)
def mC (x:List UInt8):Bool×List Int:=aba x
def np (x:List UInt8):Bool:=eX x
def l6 (x:List UInt8):Bool:=isNum x
def qH (x:List UInt8):Bool:=eX x
def s4 (x:List UInt8):Int:=aBy (Fz x)
def eV (x:List UInt8):Bool:=eX x
def dR (x:List UInt8):Int:=yo x
def D2 (x:List UInt8×List UInt8):Bool:=eX x.1&&eX x.2
def DH (x:List UInt8×List UInt8):Int:=cond (Int.same (yo x.1) 0) (yo x.2) (yo x.1)
def dj (x:List UInt8×List UInt8):Bool:=D2 x
def aY (x:List UInt8×List UInt8):(Bool×List Int)×(Bool×List Int)×Int:=cond (Int.same (DH x) 0) (aba x.1,aba x.2,0) ((false,[]),(false,[]),DH x)
def l4 (x:List UInt8×List UInt8):Bool:=D2 x
def lp (x:List UInt8×List UInt8):Int×Int:=cond (Int.same (DH x) 0) (A7 (iv x.1-iv x.2),0) (0,DH x)
def sP (x:List UInt8):Bool:=eX x
def r4 (x:List UInt8):Int×Int:=cond (Int.same (yo x) 0) (A7 (iv x),0) (0,yo x)
def uu (x:List UInt8×List UInt8):Bool:=D2 x
def jM (x:List UInt8×List UInt8):List UInt8×Int:=cond (Int.same (DH x) 0) (ajV (iv x.1+iv x.2)) ([],DH x)
def qu (x:List UInt8×List UInt8):Bool:=D2 x
def p9 (x:List UInt8×List UInt8):List UInt8×Int:=cond (Int.same (DH x) 0) (ajV (iv x.1-iv x.2)) ([],DH x)
def jk (x:List UInt8×List UInt8):Bool:=D2 x
def e7 (x:List UInt8×List UInt8):List UInt8×Int:=cond (Int.same (DH x) 0) (ajV (iv x.1*iv x.2)) ([],DH x)
def uH (x:List UInt8):Bool:=eX x
def tM (x:List UInt8):List UInt8×Int:=cond (Int.same (yo x) 0) (ajV (-iv x)) ([],yo x)
def pK (x:List UInt8×List UInt8):Bool:=D2 x
def gP (x:List UInt8×List UInt8):List UInt8×List UInt8×Int:=
 cond (Int.same (DH x) 0) (cond (Int.same (iv x.2) 0) ([],[],19) (bb (Int.fdiv (iv x.1) (iv x.2)),bb (Int.fmod (iv x.1) (iv x.2)),0)) ([],[],DH x)
def qx (x:List UInt8×List UInt8):Bool:=D2 x
def iO (x:List UInt8×List UInt8):List UInt8×Int:=((gP x).1,(gP x).2.2)
def nF (x:List UInt8×List UInt8):Bool:=D2 x
def iV (x:List UInt8×List UInt8):List UInt8×Int:=cond (Int.same (DH x) 0) (bb (Int.gcd (iv x.1) (iv x.2)),0) ([],DH x)
noncomputable def K9:Spec:= .val [none,none] (.pair .str .str) [none,none] (.pair .str (.int .i64)) nF iV
noncomputable def Tw:Spec:= .val [none,none] (.pair .str .str) [none,none] (.pair .str (.int .i64)) qx iO
noncomputable def zg:Spec:= .val [none] .str [none] (.int .i64) eV dR
noncomputable def uh:Spec:= .val [none,none] (.pair .str .str) [none] .str er ib
noncomputable def J1:Spec:= .val [none,none] (.pair .str .str) [none,none] (.pair (.int .i64) (.int .i64)) l4 lp
noncomputable def TG:Spec:= .val [none] .str [none,none] (.pair .str (.int .i64)) uH tM
noncomputable def Lh:Spec:= .val [none,none] (.pair .str .str) [none,none] (.pair .str (.int .i64)) uu jM
noncomputable def pA:Spec:= .val [none,none] (.pair .str .str) [some 2,some 2,none] (.pair (.pair .bool (.list (.int .i64))) (.pair (.pair .bool (.list (.int .i64))) (.int .i64))) dj aY
noncomputable def Mf:Spec:= .val [none,none] (.pair (.list (.int .i64)) (.list (.int .i64))) [none] (.list (.int .i64)) kg jW
noncomputable def pQ:Spec:= .val [some 2] (.pair .bool (.list (.int .i64))) [none] .str b7 cZ
noncomputable def KA:Spec:= .val [none,none] (.pair .str .str) [none,none,none] (.pair .str (.pair .str (.int .i64))) pK gP
noncomputable def Ex:Spec:= .val [none,none] (.pair .str .str) [none,none] (.pair .str (.int .i64)) jk e7
noncomputable def Gd:Spec:= .val [none] .str [none] .bool np l6
noncomputable def MN:Spec:= .val [none] .str [none] (.int .i64) qH s4
noncomputable def oX:Spec:= .val [none,none] (.pair .str .str) [none] .str fc fE
noncomputable def RF:Spec:= .val [none] .str [none,none] (.pair (.int .i64) (.int .i64)) sP r4
noncomputable def Ez:Spec:= .val [none,none] (.pair .str .str) [none,none] (.pair .str (.int .i64)) qu p9
noncomputable def vC:Spec:= .val [some 2] (.pair .bool (.list (.int .i64))) [none,none] (.pair .str (.int .i64)) de da
noncomputable def P7:Spec:= .val [none] .str [some 2] (.pair .bool (.list (.int .i64))) my mC
noncomputable def DN:Spec:= .val [none,none] (.pair (.list (.int .i64)) (.list (.int .i64))) [none,none] (.pair (.list (.int .i64)) (.list (.int .i64))) dq gq
noncomputable def tk:Spec:= .val [none] (.int .i64) [none] .str ll fV
noncomputable def Bb:Spec:= .val [none,none] (.pair .str (.int .i64)) [none] .str pC om
noncomputable def I4:Spec:= .val [some 2,some 2] (.pair (.pair .bool (.list (.int .i64))) (.pair .bool (.list (.int .i64)))) [some 2,some 2] (.pair (.pair .bool (.list (.int .i64))) (.pair .bool (.list (.int .i64)))) gz bM
noncomputable def Kj:Spec:= .val [some 2,some 2] (.pair (.pair .bool (.list (.int .i64))) (.pair .bool (.list (.int .i64)))) [some 2] (.pair .bool (.list (.int .i64))) lX cM
noncomputable def wB:Spec:= .val [none,none] (.pair .str .str) [none,none] (.pair .str .bool) eK bV
noncomputable def FZ:Spec:= .val [none,none] (.pair .str .str) [none] .str od CN
noncomputable def ko:Spec:= .val [none,none] (.pair .str .str) [none] .bool dz di
noncomputable def C9:Spec:= .val [some 2] (.pair .bool (.list (.int .i64))) [none] (.int .i64) jd kj
noncomputable def zj:Spec:= .part [none,none] (.pair (.list (.int .i64)) (.list (.int .i64))) (.int .i64) eB cw
noncomputable def pV:Spec:= .val [none,none] (.pair .str .str) [none,none] (.pair .str .bool) fv eL
noncomputable def sH:Spec:= .val [none] .str [none] .str A8 CY
noncomputable def Ph:Spec:= .val [none] .str [none,none] (.pair (.int .i64) .CH) n5 BE
noncomputable def yT:Spec:= .val [none] .str [none,none] (.pair (.int .i64) .CH) gH o5
noncomputable def tI:Spec:= .val [none,none,none] (.pair .str (.pair (.int .i64) (.int .i64))) [none,none] (.pair (.int .i64) .CH) qG mj
noncomputable def X9:Spec:= .agZ
def jG (x:List UInt8×Int):Bool:=room x.1.length&&Int.same x.2 47
def eG (x:List UInt8×Int):Int:=vS x.1
def j5 (x:List UInt8×List UInt8):Bool:=room x.1.length&&aD x.2 [47]
def pM (x:List UInt8×List UInt8):Bool:=dD 0 (vS x.1)
def dw (x:List UInt8):Bool:=eX x
def cO (x:List UInt8):List UInt8×List UInt8:=(sG x,pX x)
def gk (x:List UInt8):Bool:=eX x
def il (x:List UInt8):Bool:=isNum x
def ec (x:List UInt8):Bool:=eX x
def fZ (x:List UInt8):Int:=aBy (Fz x)
def Jx (x:List UInt8):Bool:=false
def MW (x:List UInt8):List Int:=[]
def Qf (x:List Int×List Int):Bool:=false
def Vf (x:List Int×List Int):List Int:=[]
def af5 (x:List UInt8×List UInt8):Bool:=jS 4096 x.1&&jS 4096 x.2
def ov (x:List UInt8×List UInt8):Bool:=af5 x
def mT (x:List UInt8×List UInt8):Bool:= !aBc (Int.gcd (iv x.1) (iv x.2)) 1
def oB (x:List UInt8):Bool:=eX x&&(aBD (Fz (sG x)) 4096&&aBD (Fz (pX x)) 4096)
def cp (x:List UInt8):Bool:=oB x
def bI (x:List UInt8):Int:=kv x
def gS (x:List UInt8×List UInt8):Bool:=af5 x&& !Int.same (iv x.2) 0
def fF (x:List UInt8×List UInt8):List UInt8×Int:=(cn (Rat.divInt (iv x.1) (iv x.2)),0)
def rk (x:List UInt8):Bool:=oB x
def kZ (x:List UInt8):List UInt8×Int:=cond (Int.same (kv x) 0) (sG x,0) ([],kv x)
def rA (x:List UInt8):Bool:=oB x
def ky (x:List UInt8):List UInt8×Int:=cond (Int.same (kv x) 0) (pX x,0) ([],kv x)
def J9 (x:List UInt8×List UInt8):Bool:=oB x.1&&oB x.2
def IA (x:List UInt8×List UInt8):Int:=cond (Int.same (kv x.1) 0) (kv x.2) (kv x.1)
def ir (x:List UInt8×List UInt8):Bool:=J9 x
def bW (x:List UInt8×List UInt8):(List UInt8×List UInt8×List UInt8×List UInt8)×Int:=
 cond (Int.same (IA x) 0) ((sG x.1,pX x.1,sG x.2,pX x.2),0) (([],[],[],[]),IA x)
def GL (n:Int):Bool:=aBD (dL n) 4096
def ed (x:List UInt8×List UInt8×List UInt8×List UInt8):Bool:=af5 (x.1,x.2.1)&&af5 x.2.2
def br (x:List UInt8×List UInt8×List UInt8×List UInt8):List UInt8×List UInt8×Int:=
 cond (GL (iv x.1*iv x.2.1)) (cond (GL (iv x.2.2.1*iv x.2.2.2)) (bb (iv x.1*iv x.2.1),bb (iv x.2.2.1*iv x.2.2.2),0) (bb (iv x.1*iv x.2.1),[],10)) ([],[],10)
def ayk (x y:Rat):Bool:=GL (x.num*y.den)&&GL (y.num*x.den)
def avp (x y:Rat):Bool:=ayk x y&&(GL (x.num*y.den+y.num*x.den)&&GL (x.den*y.den))
def rf (x:List UInt8×List UInt8):Bool:=J9 x
def nw (x:List UInt8×List UInt8):List UInt8×Int:=
 cond (Int.same (IA x) 0) (cond (avp (nS x.1) (nS x.2)) (cn (nS x.1+nS x.2),0) ([],10)) ([],IA x)
def atL (x y:Rat):Bool:=GL (x.num*y.num)&&GL (x.den*y.den)
def rn (x:List UInt8×List UInt8):Bool:=J9 x
def nN (x:List UInt8×List UInt8):List UInt8×Int:=
 cond (Int.same (IA x) 0) (cond (atL (nS x.1) (nS x.2)) (cn (nS x.1*nS x.2),0) ([],10)) ([],IA x)
def gG (x:List UInt8×List UInt8×List UInt8×List UInt8):Bool:=af5 (x.1,x.2.2.1)&&af5 (x.2.1,x.2.2.2)
def cQ (x:List UInt8×List UInt8×List UInt8×List UInt8):List UInt8×List UInt8×Int:=br (x.1,x.2.2.1,x.2.1,x.2.2.2)
def nQ (x:List UInt8×List UInt8×List UInt8×List UInt8):Bool:=false
def dF (x:List UInt8×List UInt8×List UInt8×List UInt8):List UInt8×List UInt8×Int:=cond (aD x.2.2.1 [48]) ([],[],19) (br (x.1,x.2.2.2,x.2.1,x.2.2.1))
noncomputable def nC:Spec:= .val [none] .str [none] (.int .i64) cp bI
noncomputable def qw:Spec:= .val [none] .str [none,none] (.pair .str .str) dw cO
noncomputable def C8:Spec:= .val [none] .str [none] .bool gk il
noncomputable def yF:Spec:= .val [none,none] (.pair .str .str) [none] .bool j5 pM
noncomputable def IZ:Spec:= .val [none,none] (.pair .str .str) [none] .bool ov mT
noncomputable def Am:Spec:= .val [none] .str [none] (.int .i64) ec fZ
noncomputable def Pf:Spec:= .val [none] .str [none,none] (.pair .str (.int .i64)) rk kZ
noncomputable def Pc:Spec:= .val [none] .str [none,none] (.pair .str (.int .i64)) rA ky
noncomputable def wJ:Spec:= .val [none,none] (.pair .str (.int .u8)) [none] (.int .i64) jG eG
noncomputable def De:Spec:= .val [none] .str [none] (.list (.int .u8)) Jx MW
noncomputable def LP:Spec:= .val [none,none] (.pair (.list (.int .u8)) (.list (.int .u8))) [none] (.list (.int .u8)) Qf Vf
noncomputable def CC:Spec:= .val [none,none] (.pair .str .str) [none,none] (.pair .str (.int .i64)) gS fF
noncomputable def O6:Spec:= .val [none,none] (.pair .str .str) [none,none] (.pair .str (.int .i64)) rf nw
noncomputable def OG:Spec:= .val [none,none] (.pair .str .str) [none,none] (.pair .str (.int .i64)) rn nN
noncomputable def yI:Spec:= .val [none,none] (.pair .str .str) [some 4,none] (.pair (.pair .str (.pair .str (.pair .str .str))) (.int .i64)) ir bW
noncomputable def xM:Spec:= .val [none,none,none,none] (.pair .str (.pair .str (.pair .str .str))) [none,none,none] (.pair .str (.pair .str (.int .i64))) ed br
noncomputable def qY:Spec:= .val [some 4] (.pair .str (.pair .str (.pair .str .str))) [none,none,none] (.pair .str (.pair .str (.int .i64))) gG cQ
noncomputable def qL:Spec:= .val [some 4] (.pair .str (.pair .str (.pair .str .str))) [none,none,none] (.pair .str (.pair .str (.int .i64))) nQ dF
end Ls
namespace Ls.Lib
open dC
open Ls
open Go
theorem MV (c: ∀z,single (aI [none] (aE a z))= .val a z)
  (h: ∀A H aCL cs x,(∀b,A b->b<H.next)->Jp gs aCL cs->eC A H t x cs->pre x=true-> ∃v H',C E g aCL H=some (v,H')/\jh H H'/\eC (λ_=>False) H' a (y x) [v]):aN E g (.val gs t [none] a pre y):=by
 intro A H aCL cs x k l n p;obtain⟨v,H',q,r,s⟩:=h A H aCL cs x k l n p;refine⟨v,H',λ_=>none,λ_=>False,q,⟨r,λid B u=>by simp [Spec.val,iq,cd]at u,λid b _ d=>(by cases d),λi j b _ _ d=>(by cases d),λb f=>f.elim,λb f=>f.elim⟩, ?_⟩;show aC _ _ _ _ (single (aI [none] (aE a (y x)))) v;rw [c];exact s
theorem Rb (d:Jp [none,none] aCL cs) (f:cs=[h,j]):aCL=[h,j]:=by
 subst f;rcases aCL with _ |⟨a,_ |⟨b,_ |⟨c,aCL⟩⟩⟩<;>simp [Jp]at d
 simp [d]
theorem Xp (c:Jp [none] aCL cs) (d:cs=[f]):aCL=[f]:=by
 subst d;rcases aCL with _ |⟨a,_ |⟨b,aCL⟩⟩<;>simp [Jp]at c
 simp [c]
theorem Vn: ∀s,-1<=vS s
 | []=>by simp [vS]
 |c::t=>by
  have:=Vn t;simp only [vS];cases Int.same (dB c) 47<;>cases h:bZ (vS t) 0<;>simp [bZ]at h⊢ <;>omega
theorem aha: ∀s i,aaP 47 s i=cond (bZ (vS s) 0) (-1) (vS s+i)
 | [],i=>rfl
 |c::t,i=>by
  have a:=aha t (i+1);have b:=Vn t;simp only [aaP,vS,dB];rw [show aBy c.toNat=((c.toNat:Nat):Int)from rfl]at*;cases d:Int.same ((c.toNat:Nat):Int) 47 with
  |true=>simp [bZ]
  |false=>
   rw [cond_false,cond_false,a];cases h:bZ (vS t) 0 with
   |true=>simp [bZ]
   |false=>
    simp only [cond_false];have f: ¬vS t+1<0:=by simp [bZ]at h;omega
    have:bZ (vS t+1) 0=false:=by simp [bZ];omega
    rw [this,cond_false]
    push_cast;omega
theorem awI s:aaP 47 s 0=vS s:=by
 rw [aha];have:=Vn s;cases h:bZ (vS s) 0 with
 |true=>simp [bZ]at h⊢;omega
 |false=>simp
section
variable {E:Env}
theorem aqX (c:E.ext 159=some pb) (d: ∀a,E.vP 159 a=none) s H:C E 159 [.str s,.int .u8 47] H=some (.int .i64 (vS s),H):=by
 rw [awO,Ip,d,c];show(match pb [.str s,.int .u8 (aBy 47)] H with |some (v,b)=>cond (aBD H.next b.next) (some (v,b)) none |none=>none)=_;simp only [pb,show aBS 47 256=true from rfl,cond_true,bh,aBg,decide_true];rw [show(aBy 47)=(47:Int)from rfl,awI]
theorem atn (b:E.ext 159=some pb) (c: ∀a,E.vP 159 a=none) (k:eD E 121 anu) s H:C E 121 [.str s,.int .u8 47] H=some (.int .i64 (vS s),H):=by
 have d:=aqX b c s;rw [k.C];simp [anu,atd,avx,at6,cR,bj,bC,bQ,bN,bx,cV,bt,aT,dQ,cls,aw,aR,aW,aZ,bd,AF.cX,bR,bz,IntKind.same,bm,bk,cellsOf,ba,aB,bD,bh,bn,bu,aL,nk,b5,aH,aBb,aA6,aA7,aX,cW,bJ,AV.aV,aBf,Int.aU,bS,qz,AF.sW,sE,d,gY,fp,mE]
theorem ayt (b:E.ext 159=some pb) (c: ∀a,E.vP 159 a=none) (k:eD E 121 anu) (d:eD E 82 F82) s H:C E 82 [.str s,.int .u8 47] H=some (.int .i64 (vS s),H):=by
 have f:=atn b c k s;rw [d.C];simp [F82,axz,axL,axw,cR,bj,bC,bQ,bN,bx,cV,bt,aT,dQ,cls,aw,aR,aW,aZ,bd,AF.cX,bR,bz,IntKind.same,bm,bk,cellsOf,ba,aB,bD,bh,bn,bu,aL,nk,b5,aH,aBb,aA6,aA7,aX,cW,bJ,AV.aV,aBf,Int.aU,bS,qz,AF.sW,sE,f,gY,fp,mE]
theorem ajg (c:E.ext 159=some pb) (d: ∀a,E.vP 159 a=none) (k:eD E 121 anu) (f:eD E 82 F82):aN E 82 wJ:=
 MV (λ_=>rfl) λA H aCL t x u h j b=>by
  obtain⟨l,n,e,p,q⟩:=j;have r:l=[.str x.1]:=p;have s:n=[.int .u8 x.2]:=q;rw [r,s]at e;rw [Rb h e];simp only [jG,aA5]at b;rw [show x.2=47 from Int.dG b.2];exact⟨_,H,ayt c d k f x.1 H,jh.refl H,rfl⟩
theorem awW (u:E.ext 159=some pb) (v: ∀a,E.vP 159 a=none) (k:eD E 121 anu) (w:eD E 122 (ari A R)) s H:C E 122 [.str s,.str [47]] H=some (.int .i64 (vS s),H):=by
 have x:=atn u v k s;have j:Int.same 1 0=false:=rfl;have l:Int.same 1 1=true:=rfl;refine abf ?_;rw [w.C];refine vK ?_;show Ok (X E (.seq _ (.seq _ (.seq _ R))) _ _) _;refine cL (λg h=>g.n=143/\g.get 0= .str s/\g.get 1= .str [47]/\h=H) (by simp [cR,bj,bC,bQ,bN,bx,cV,bt,aT,dQ,cls,aw,aR,aW,aZ,bd,AF.cX,bR,bz,IntKind.same,bm,bk,cellsOf,ba,aB,bD,bh,bn,bu,aL,nk,b5,aH,aBb,aA6,aA7,aX,cW,bJ,AV.aV,aBf,Int.aU,bS,qz,ari,AF.sW,sE]) ?_;rintro g h ⟨c,b,d,rfl⟩;refine cL (λg f=>g.n=143/\g.get 0= .str s/\g.get 1= .str [47]/\g.get 5= .int .i64 1/\f=h) (by simp [cR,bj,bC,bQ,bN,bx,cV,bt,aT,dQ,cls,aw,aR,aW,aZ,bd,AF.cX,bR,bz,IntKind.same,bm,bk,cellsOf,ba,aB,bD,bh,bn,bu,aL,nk,b5,aH,aBb,aA6,aA7,aX,cW,bJ,AV.aV,aBf,Int.aU,bS,qz,c,b,d]) ?_;rintro g f ⟨c,b,d,p,rfl⟩;refine GR (λ_ _=>False) ?_ (λ_ _ y=>y.elim);refine rX ?_;refine cL (λg h=>g.n=143/\g.get 0= .str s/\g.get 1= .str [47]/\g.get 5= .int .i64 1/\g.get 16= .bool (aD [47] s)/\h=f) (by simp [asE,cR,bj,bC,bQ,bN,bx,cV,bt,aT,dQ,cls,aw,aR,aW,aZ,bd,AF.cX,bR,bz,IntKind.same,bm,bk,cellsOf,ba,aB,bD,bh,bn,bu,aL,nk,b5,aH,aBb,aA6,aA7,aX,cW,bJ,AV.aV,aBf,Int.aU,bS,qz,c,b,d,p,j]) ?_;rintro g h ⟨c,b,d,p,q,rfl⟩;rw [bC];simp only [AF.KS,q];cases z:aD [47] s with
 |true=>
  have b:vS s=0:=by
   rw [<-dZ.1 z];rfl
  simp [cR,bj,bC,bQ,bN,bx,cV,bt,aT,dQ,cls,aw,aR,aW,aZ,bd,AF.cX,bR,bz,IntKind.same,bm,bk,cellsOf,ba,aB,bD,bh,bn,bu,aL,nk,b5,aH,aBb,aA6,aA7,aX,cW,bJ,AV.aV,aBf,Int.aU,bS,qz,c,gY,fp,mE,b,ari]
 |false=>
  simp only;unfold aqf;refine cL (λg f=>g.n=143/\g.get 0= .str s/\g.get 1= .str [47]/\g.get 24= .bool true/\f=h) (by simp [cR,bj,bC,bQ,bN,bx,cV,bt,aT,dQ,cls,aw,aR,aW,aZ,bd,AF.cX,bR,bz,IntKind.same,bm,bk,cellsOf,ba,aB,bD,bh,bn,bu,aL,nk,b5,aH,aBb,aA6,aA7,aX,cW,bJ,AV.aV,aBf,Int.aU,bS,qz,c,b,d,p,l]) ?_;rintro g f ⟨c,b,d,r,rfl⟩;rw [bC];simp only [AF.KS,r];have t:uK (.int .i64 0)=some 0:=rfl;simp [cR,bj,bC,bQ,bN,bx,cV,bt,aT,dQ,cls,aw,aR,aW,aZ,bd,AF.cX,bR,bz,IntKind.same,bm,bk,cellsOf,ba,aB,bD,bh,bn,bu,aL,nk,b5,aH,aBb,aA6,aA7,aX,cW,bJ,AV.aV,aBf,Int.aU,bS,qz,c,b,d,x,gY,fp,mE,ari,t]
theorem ajI (c:E.ext 159=some pb) (d: ∀a,E.vP 159 a=none) (k:eD E 121 anu) (f:eD E 122 (ari y R)) (h:eD E 83 F83) (j:eD E 51 F51):aN E 51 yF:=
 MV (λ_=>rfl) λA H aCL z x D l n b=>by
  obtain⟨p,q,e,r,s⟩:=n;have t:p=[.str x.1]:=r;have u:q=[.str x.2]:=s;rw [t,u]at e;rw [Rb l e];simp only [j5,aA5]at b;rw [show x.2=[47]from dZ.1 b.2];have v:=awW c d k f x.1 H;have w:C E 83 [.str x.1,.str [47]] H=some (.int .i64 (vS x.1),H):=by
   rw [h.C];simp [F83,axy,ax3,axR,cR,bj,bC,bQ,bN,bx,cV,bt,aT,dQ,cls,aw,aR,aW,aZ,bd,AF.cX,bR,bz,IntKind.same,bm,bk,cellsOf,ba,aB,bD,bh,bn,bu,aL,nk,b5,aH,aBb,aA6,aA7,aX,cW,bJ,AV.aV,aBf,Int.aU,bS,qz,AF.sW,sE,v,gY,fp,mE]
  refine⟨.bool (dD 0 (vS x.1)),H, ?_,jh.refl H,rfl⟩;rw [j.C];simp [F51,ax2,axX,axO,cR,bj,bC,bQ,bN,bx,cV,bt,aT,dQ,cls,aw,aR,aW,aZ,bd,AF.cX,bR,bz,IntKind.same,bm,bk,cellsOf,ba,aB,bD,bh,bn,bu,aL,nk,b5,aH,aBb,aA6,aA7,aX,cW,bJ,AV.aV,aBf,Int.aU,bS,qz,AF.sW,sE,w,gY,fp,mE]
end
theorem Es (j:Ok (X E b f h) λr=>(r.1= .normal/\Ok (X E (.loop b) r.2.1 r.2.2) P)\/(r.1≠ .normal/\P r)):Ok (X E (.loop b) f h) P:=by
 obtain⟨⟨e,n,p⟩,k,a⟩:=j;simp only at a;rw [Vp,k];rcases a with⟨rfl,l⟩ |⟨c,d⟩
 ·exact l
 ·cases e with
  |normal=>exact absurd rfl c
  |exit i=>simpa using d
  |ret=>simpa using d
section
variable {E:Env}
theorem aw3 (b:E.ext 227=some Y5) (c: ∀a,E.vP 227 a=none) a H:C E 227 [.ptr a] H=some (.ptr a,H):=by
 rw [awO,Ip,c,b];simp [Y5,bh]
theorem ajl (t:af2=182) (u:E.ext 227=some Y5) (v: ∀a,E.vP 227 a=none) (k:eD E 205 arT):aN E 205 .agZ:=by
 intro H b D w y c z;have d:=aw3 u v;rw [t]at c⊢;rw [k.C];rcases z with rfl |rfl
 ·have f:yD .ptr (.ptr none) (.ptr none)=some true:=rfl;refine⟨_,abf (x:=(AV.tuple [],H.set b (some (.cells (.ptr (some (b,0))::w::y) false (some (182,true)))))) ?_,.inr rfl⟩;refine vK ?_;show Ok (X E aey _ _) _;unfold aey;refine cL (λg h=>g.n=20/\g.get 0= .ptr (some (b,0))/\g.get 6= .bool true/\h=H) (by simp [cR,bj,bC,bQ,bN,bx,cV,bt,aT,dQ,cls,aw,aR,aW,aZ,bd,AF.cX,bR,bz,IntKind.same,bm,bk,cellsOf,ba,aB,bD,bh,bn,bu,aL,nk,b5,aH,aBb,aA6,aA7,aX,cW,bJ,AV.aV,aBf,Int.aU,bS,qz,anC,arT,AF.sW,AK,c,f]) ?_;rintro g h ⟨j,l,p,rfl⟩;rw [bC];simp only [AF.KS,p];simp [cR,bj,bC,bQ,bN,bx,cV,bt,aT,dQ,cls,aw,aR,aW,aZ,bd,AF.cX,bR,bz,IntKind.same,bm,bk,cellsOf,ba,aB,bD,bh,bn,bu,aL,nk,b5,aH,aBb,aA6,aA7,aX,cW,bJ,AV.aV,aBf,Int.aU,bS,qz,avn,avF,j,l,c,d,gY,fp,mE,arT]
 ·have f:yD .ptr (.ptr (some (b,0))) (.ptr none)=some false:=by simp [yD,D7]
  refine⟨_,abf (x:=(AV.tuple [],H)) ?_,.inl rfl⟩;refine vK ?_;show Ok (X E aey _ _) _;unfold aey;refine cL (λg h=>g.n=20/\g.get 0= .ptr (some (b,0))/\g.get 6= .bool false/\h=H) (by simp [cR,bj,bC,bQ,bN,bx,cV,bt,aT,dQ,cls,aw,aR,aW,aZ,bd,AF.cX,bR,bz,IntKind.same,bm,bk,cellsOf,ba,aB,bD,bh,bn,bu,aL,nk,b5,aH,aBb,aA6,aA7,aX,cW,bJ,AV.aV,aBf,Int.aU,bS,qz,anC,arT,AF.sW,AK,c,f]) ?_;rintro g h ⟨j,l,p,rfl⟩;rw [bC];simp only [AF.KS,p];unfold asZ;refine cL (λq s=>q.n=20/\q.get 19= .bool false/\s=h) (by simp [cR,bj,bC,bQ,bN,bx,cV,bt,aT,dQ,cls,aw,aR,aW,aZ,bd,AF.cX,bR,bz,IntKind.same,bm,bk,cellsOf,ba,aB,bD,bh,bn,bu,aL,nk,b5,aH,aBb,aA6,aA7,aX,cW,bJ,AV.aV,aBf,Int.aU,bS,qz,auw,j,l,c,Oz]) ?_;rintro q s ⟨A,r,rfl⟩;simp [cR,bj,bC,bQ,bN,bx,cV,bt,aT,dQ,cls,aw,aR,aW,aZ,bd,AF.cX,bR,bz,IntKind.same,bm,bk,cellsOf,ba,aB,bD,bh,bn,bu,aL,nk,b5,aH,aBb,aA6,aA7,aX,cW,bJ,AV.aV,aBf,Int.aU,bS,qz,r,gY,fp,mE,arT]
def Ov:List AV:=(List.range 256).map λi=> .bool (decide (48<=i/\i<=57))
theorem avG (c:UInt8):Ov[c.toNat]? =some (.bool (fg c)):=by
 have a:c.toNat<256:=c.toNat_lt;unfold Ov;rw [List.getElem?_map,List.getElem?_range a];have:decide (48<=c.toNat/\c.toNat<=57)=fg c:=by
  simp only [fg,dB,dD,aBz];rw [Bool.decide_and];congr 1<;>exact decide_eq_decide.2 aa
 show some (AV.bool (decide (48<=c.toNat/\c.toNat<=57)))=_;rw [this]
theorem ac9 (k:eD E 219 ajo) (d:H.get b=some (.cells Ov h el)) c:C E 219 [.ptr (some (b,0)),.int .u8 (c.toNat:Int)] H=some (.bool (fg c),H):=by
 have f:=avG c;have a:c.toNat<256:=c.toNat_lt;rw [k.C];simp [ajo,at7,auK,atD,cR,bj,bC,bQ,bN,bx,cV,bt,aT,dQ,cls,aw,aR,aW,aZ,bd,AF.cX,bR,bz,IntKind.same,bm,bk,cellsOf,ba,aB,bD,bh,bn,bu,aL,nk,b5,aH,aBb,aA6,aA7,aX,cW,bJ,AV.aV,aBf,Int.aU,bS,qz,AF.sW,sE,d,f,a,gY,fp,mE]
theorem afH (k:eD E 219 ajo) (G:H.get b=some (.cells Ov W el)):
  ∀(r s:List UInt8) g,s=r.reverse->r.length<1099511627776->g.n=22->g.get 0= .str s->g.get 1= .ptr (some (b,0))->
  Ok (X E auj g H) λq=>q.1= .exit 0/\q.2.1.n=22/\q.2.1.get 0= .str (r.dropWhile fg).reverse/\q.2.2=H
 | [],s,g,t,I,f,h,l=>by
  subst t;refine Es ?_;simp [amT,anS,cR,bj,bC,bQ,bN,bx,cV,bt,aT,dQ,cls,aw,aR,aW,aZ,bd,AF.cX,bR,bz,IntKind.same,bm,bk,cellsOf,ba,aB,bD,bh,bn,bu,aL,nk,b5,aH,aBb,aA6,aA7,aX,cW,bJ,AV.aV,aBf,Int.aU,bS,qz,f,h,l]
 |a::r,s,g,t,I,f,h,l=>by
  refine Es ?_;unfold amT;have L:r.length+1<1099511627776:=I;have c:s.length=r.length+1:=by rw [t];simp
  have x:IntKind.i64.wrap (((r.length+1:Nat):Int)-1)=(r.length:Int):=by
   rw [show((r.length+1:Nat):Int)-1=((r.length:Nat):Int) by omega];exact wsX aa
  have w:s[r.length]? =some a:=by rw [t];simp
  have u:s.take r.length=r.reverse:=by rw [t];simp
  have p:bZ 0 ((r.length+1:Nat):Int)=true:=by rw [bZ];exact decide_eq_true aa
  have d:((a::r).dropWhile fg).reverse=cond (fg a) (r.dropWhile fg).reverse s:=by
   rw [aBR];cases fg a<;>simp [t]
  rw [d];have M:=ac9 k G a;clear t d;refine cL (λy z=>y.n=22/\y.get 0= .str s/\y.get 1= .ptr (some (b,0))/\z=H) (by simp at p;simp [anS,cR,bj,bC,bQ,bN,bx,cV,bt,aT,dQ,cls,aw,aR,aW,aZ,bd,AF.cX,bR,bz,IntKind.same,bm,bk,cellsOf,ba,aB,bD,bh,bn,bu,aL,nk,b5,aH,aBb,aA6,aA7,aX,cW,bJ,AV.aV,aBf,Int.aU,bS,qz,f,h,l,c,p]) ?_;rintro y z ⟨f,h,l,rfl⟩;refine rX ?_;unfold atM;refine GR (λj v=>j.n=22/\j.get 0= .str s/\j.get 1= .ptr (some (b,0))/\fg a=true/\v=z) ?_ ?_
  ·refine cL (λj v=>j.n=22/\j.get 0= .str s/\j.get 1= .ptr (some (b,0))/\j.get 15= .bool (!fg a)/\v=z) ?_ ?_
   ·simp only [aun];simp at x;obtain⟨N,A⟩:=List.getElem?_eq_some_iff.1 w;simp [cR,bj,bC,bQ,bN,bx,cV,bt,aT,dQ,cls,aw,aR,aW,aZ,bd,AF.cX,bR,bz,IntKind.same,bm,bk,cellsOf,ba,aB,bD,bh,bn,bu,aL,nk,b5,aH,aBb,aA6,aA7,aX,cW,bJ,AV.aV,aBf,Int.aU,bS,qz,f,h,l,c,x,A,M]
   ·rintro j v ⟨f,h,l,D,rfl⟩;rw [bC];simp only [AF.KS,D];cases K:fg a with
    |true=>simp [bN,f,h,l]
    |false=>simp [bQ,bn,f,h]
  ·rintro j v ⟨f,h,l,K,rfl⟩;simp at x;have O:=λF Q R S=>afH k G r r.reverse F rfl aa Q R S
   rw [K,cond_true];refine Ok.mono (P:=λq=>q.1= .normal/\q.2.1.n=22/\q.2.1.get 0= .str r.reverse/\q.2.1.get 1= .ptr (some (b,0))/\q.2.2=v) ?_ ?_
   ·simp only [at2];simp [cR,bj,bC,bQ,bN,bx,cV,bt,aT,dQ,cls,aw,aR,aW,aZ,bd,AF.cX,bR,bz,IntKind.same,bm,bk,cellsOf,ba,aB,bD,bh,bn,bu,aL,nk,b5,aH,aBb,aA6,aA7,aX,cW,bJ,AV.aV,aBf,Int.aU,bS,qz,f,h,l,c,x,bound,nA,uK,u]
   ·rintro⟨e,F,Y⟩ ⟨rfl,T,U,V,rfl⟩;exact .inl ⟨rfl,O F T U V⟩
theorem ag5 (k:eD E 219 ajo) (z:H.get b=some (.cells Ov R el)):
  ∀s g,s.length<1099511627776->g.n=16->g.get 0= .str s->g.get 1= .ptr (some (b,0))->
  Ok (X E atj g H) λq=>q.1= .exit 0/\q.2.1.n=16/\q.2.1.get 0= .str (s.dropWhile fg)/\q.2.2=H
 | [],g,A,c,d,h=>by
  refine Es ?_;simp [anK,anM,cR,bj,bC,bQ,bN,bx,cV,bt,aT,dQ,cls,aw,aR,aW,aZ,bd,AF.cX,bR,bz,IntKind.same,bm,bk,cellsOf,ba,aB,bD,bh,bn,bu,aL,nk,b5,aH,aBb,aA6,aA7,aX,cW,bJ,AV.aV,aBf,Int.aU,bS,qz,c,d,h]
 |a::r,g,A,c,d,h=>by
  refine Es ?_;unfold anK;have F:r.length+1<1099511627776:=A;have p:bZ 0 ((r.length:Int)+1)=true:=by rw [bZ];exact decide_eq_true aa
  have j:(a::r).dropWhile fg=cond (fg a) (r.dropWhile fg) (a::r):=by
   rw [aBR];cases fg a<;>simp
  rw [j];have G:=ac9 k z a;have v:uK (.int .i64 0)=some 0:=rfl;have w:uK (.int .i64 1)=some 1:=rfl;refine cL (λt u=>t.n=16/\t.get 0= .str (a::r)/\t.get 1= .ptr (some (b,0))/\u=H) (by simp [anM,cR,bj,bC,bQ,bN,bx,cV,bt,aT,dQ,cls,aw,aR,aW,aZ,bd,AF.cX,bR,bz,IntKind.same,bm,bk,cellsOf,ba,aB,bD,bh,bn,bu,aL,nk,b5,aH,aBb,aA6,aA7,aX,cW,bJ,AV.aV,aBf,Int.aU,bS,qz,c,d,h,p]) ?_;rintro t u ⟨c,d,h,rfl⟩;refine rX ?_;unfold auX;refine GR (λf l=>f.n=16/\f.get 0= .str (a::r)/\f.get 1= .ptr (some (b,0))/\fg a=true/\l=u) ?_ ?_
  ·refine cL (λf l=>f.n=16/\f.get 0= .str (a::r)/\f.get 1= .ptr (some (b,0))/\f.get 12= .bool (!fg a)/\l=u) ?_ ?_
   ·simp only [aty];simp [cR,bj,bC,bQ,bN,bx,cV,bt,aT,dQ,cls,aw,aR,aW,aZ,bd,AF.cX,bR,bz,IntKind.same,bm,bk,cellsOf,ba,aB,bD,bh,bn,bu,aL,nk,b5,aH,aBb,aA6,aA7,aX,cW,bJ,AV.aV,aBf,Int.aU,bS,qz,c,d,h,v,G]
   ·rintro f l ⟨c,d,h,x,rfl⟩;rw [bC];simp only [AF.KS,x];cases D:fg a with
    |true=>simp [bN,c,d,h]
    |false=>simp [bQ,bn,c,d]
  ·rintro f l ⟨c,d,h,D,rfl⟩;have I:=λy K L M=>ag5 k z r y aa K L M
   rw [D,cond_true];refine Ok.mono (P:=λq=>q.1= .normal/\q.2.1.n=16/\q.2.1.get 0= .str r/\q.2.1.get 1= .ptr (some (b,0))/\q.2.2=l) ?_ ?_
   ·simp only [avk];simp [cR,bj,bC,bQ,bN,bx,cV,bt,aT,dQ,cls,aw,aR,aW,aZ,bd,AF.cX,bR,bz,IntKind.same,bm,bk,cellsOf,ba,aB,bD,bh,bn,bu,aL,nk,b5,aH,aBb,aA6,aA7,aX,cW,bJ,AV.aV,aBf,Int.aU,bS,qz,c,d,h,bound,nA,w]
   ·rintro⟨e,y,S⟩ ⟨rfl,N,O,Q,rfl⟩;exact .inl ⟨rfl,I y N O Q⟩
theorem awH (k:eD E 219 ajo) (p:eD E 194 arz) (q:H.get b=some (.cells Ov u el)) s (r:s.length<1099511627776):
  C E 194 [.str s,.ptr (some (b,0))] H=some (.str (s.reverse.dropWhile fg).reverse,H):=by
 refine abf ?_;rw [p.C];refine vK ?_;show Ok (X E amh _ _) _;unfold amh;refine cL (λg h=>g.n=22/\g.get 0= .str s/\g.get 1= .ptr (some (b,0))/\h=H) (by simp [cR,bj,bC,bQ,bN,bx,cV,bt,aT,dQ,cls,aw,aR,aW,aZ,bd,AF.cX,bR,bz,IntKind.same,bm,bk,cellsOf,ba,aB,bD,bh,bn,bu,aL,nk,b5,aH,aBb,aA6,aA7,aX,cW,bJ,AV.aV,aBf,Int.aU,bS,qz,auS,arz,AF.sW,sE]) ?_;rintro g h ⟨c,d,t,rfl⟩;refine cL (λa f=>a.n=22/\a.get 0= .str (s.reverse.dropWhile fg).reverse/\f=h) ?_ ?_
 ·refine rX ?_;refine(afH k q s.reverse s g ab (by simpa using r) c d t).mono ?_;rintro⟨e,a,f⟩ ⟨rfl,j,l,rfl⟩;simp only at j l⊢;simp only [bn,decide_true,cond_true];exact⟨trivial,j,l,trivial⟩
 ·rintro a f ⟨c,d,rfl⟩;simp [cR,bj,bC,bQ,bN,bx,cV,bt,aT,dQ,cls,aw,aR,aW,aZ,bd,AF.cX,bR,bz,IntKind.same,bm,bk,cellsOf,ba,aB,bD,bh,bn,bu,aL,nk,b5,aH,aBb,aA6,aA7,aX,cW,bJ,AV.aV,aBf,Int.aU,bS,qz,atw,c,d,gY,fp,mE,arz]
theorem ayJ (k:eD E 219 ajo) (p:eD E 193 arl) (q:H.get b=some (.cells Ov u el)) s (r:s.length<1099511627776):
  C E 193 [.str s,.ptr (some (b,0))] H=some (.str (s.dropWhile fg),H):=by
 refine abf ?_;rw [p.C];refine vK ?_;show Ok (X E aow _ _) _;unfold aow;refine cL (λg h=>g.n=16/\g.get 0= .str s/\g.get 1= .ptr (some (b,0))/\h=H) (by simp [cR,bj,bC,bQ,bN,bx,cV,bt,aT,dQ,cls,aw,aR,aW,aZ,bd,AF.cX,bR,bz,IntKind.same,bm,bk,cellsOf,ba,aB,bD,bh,bn,bu,aL,nk,b5,aH,aBb,aA6,aA7,aX,cW,bJ,AV.aV,aBf,Int.aU,bS,qz,auW,arl,AF.sW,sE]) ?_;rintro g h ⟨c,d,t,rfl⟩;refine cL (λa f=>a.n=16/\a.get 0= .str (s.dropWhile fg)/\f=h) ?_ ?_
 ·refine rX ?_;refine(ag5 k q s g r c d t).mono ?_;rintro⟨e,a,f⟩ ⟨rfl,j,l,rfl⟩;simp only at j l⊢;simp only [bn,decide_true,cond_true];exact⟨trivial,j,l,trivial⟩
 ·rintro a f ⟨c,d,rfl⟩;simp [cR,bj,bC,bQ,bN,bx,cV,bt,aT,dQ,cls,aw,aR,aW,aZ,bd,AF.cX,bR,bz,IntKind.same,bm,bk,cellsOf,ba,aB,bD,bh,bn,bu,aL,nk,b5,aH,aBb,aA6,aA7,aX,cW,bJ,AV.aV,aBf,Int.aU,bS,qz,aur,c,d,gY,fp,mE,arl]
theorem ay5 (k:eD E 219 ajo) (M:eD E 193 arl) (N:eD E 194 arz) (O:eD E 158 aqF) (P:E.vP 192 [.str Ut]=some (.tuple [.agg Ov,.bool true])) s (Q:s.length<1099511627776) H:
  Ok (C E 158 [.str s,.str Ut] H) λq=>q.1= .str (agI s)/\jh H q.2:=by
 have u: ∀H,C E 192 [.str Ut] H=some (.tuple [.agg Ov,.bool true],H):=λH=>afh P
 rw [O.C];refine vK ?_;show Ok (X E aou _ _) _;unfold aou;refine cL (λg h=>g.n=43/\g.get 0= .str s/\g.get 1= .str Ut/\h=H) (by simp [cR,bj,bC,bQ,bN,bx,cV,bt,aT,dQ,cls,aw,aR,aW,aZ,bd,AF.cX,bR,bz,IntKind.same,bm,bk,cellsOf,ba,aB,bD,bh,bn,bu,aL,nk,b5,aH,aBb,aA6,aA7,aX,cW,bJ,AV.aV,aBf,Int.aU,bS,qz,auR,aqF,AF.sW,sE]) ?_;rintro g h ⟨d,j,r,rfl⟩;cases z:aD s []with
 |true=>
  have e:s=[]:=dZ.1 z;subst e;refine GR (λ_ _=>False) ?_ (λ_ _ A=>A.elim);refine cL (λb c=>b.n=43/\b.get 0= .str []/\b.get 12= .bool true/\c=h) (by simp [cR,bj,bC,bQ,bN,bx,cV,bt,aT,dQ,cls,aw,aR,aW,aZ,bd,AF.cX,bR,bz,IntKind.same,bm,bk,cellsOf,ba,aB,bD,bh,bn,bu,aL,nk,b5,aH,aBb,aA6,aA7,aX,cW,bJ,AV.aV,aBf,Int.aU,bS,qz,amk,d,j,r,z]) ?_;rintro b c ⟨d,j,p,rfl⟩;rw [bC];simp only [AF.KS,p];simp [cR,bj,bC,bQ,bN,bx,cV,bt,aT,dQ,cls,aw,aR,aW,aZ,bd,AF.cX,bR,bz,IntKind.same,bm,bk,cellsOf,ba,aB,bD,bh,bn,bu,aL,nk,b5,aH,aBb,aA6,aA7,aX,cW,bJ,AV.aV,aBf,Int.aU,bS,qz,asj,asm,d,j,gY,fp,mE,aqF,jh.refl,agI]
 |false=>
  have R:aD Ut []=false:=rfl;have D:Ut.length=10:=rfl;have v:Int.same 10 1=false:=rfl;refine cL (λb c=>b.n=43/\b.get 0= .str s/\b.get 1= .str Ut/\c=h) ?_ ?_
  ·refine cL (λb c=>b.n=43/\b.get 0= .str s/\b.get 1= .str Ut/\b.get 12= .bool false/\c=h) (by simp [cR,bj,bC,bQ,bN,bx,cV,bt,aT,dQ,cls,aw,aR,aW,aZ,bd,AF.cX,bR,bz,IntKind.same,bm,bk,cellsOf,ba,aB,bD,bh,bn,bu,aL,nk,b5,aH,aBb,aA6,aA7,aX,cW,bJ,AV.aV,aBf,Int.aU,bS,qz,amk,d,j,r,z,R]) ?_;rintro b c ⟨d,j,r,p,rfl⟩;rw [bC];simp only [AF.KS,p];simp [bN,d,j,r]
  rintro g h ⟨d,j,r,rfl⟩;refine cL (λb c=>b.n=43/\b.get 0= .str s/\b.get 1= .str Ut/\c=h) ?_ ?_
  ·refine cL (λb c=>b.n=43/\b.get 0= .str s/\b.get 1= .str Ut/\b.get 21= .bool false/\c=h) (by simp [cR,bj,bC,bQ,bN,bx,cV,bt,aT,dQ,cls,aw,aR,aW,aZ,bd,AF.cX,bR,bz,IntKind.same,bm,bk,cellsOf,ba,aB,bD,bh,bn,bu,aL,nk,b5,aH,aBb,aA6,aA7,aX,cW,bJ,AV.aV,aBf,Int.aU,bS,qz,auq,d,j,r,D,v]) ?_;rintro b c ⟨d,j,r,p,rfl⟩;rw [bC];simp only [AF.KS,p];simp [bN,d,j,r]
  rintro g h ⟨d,j,r,rfl⟩;refine GR (λ_ _=>False) ?_ (λ_ _ A=>A.elim);have w:zB.length=256:=List.length_replicate ..;have x:Ov.length=256:=by rw [Ov,List.length_map,List.length_range]
  have y:aB Ov=true:=by
   have: ∀(l:List Nat) (f:Nat->Bool),aB (l.map λi=>AV.bool (f i))=true:=λl f=>by induction l with |nil=>rfl |cons a l S=>exact S
   exact this _ _
  have t:bu zB 0 Ov=Ov:=by rw [kx _ _ _ aa];simp [w,x]
  refine cL (λb c=>b.n=43/\b.get 0= .str s/\b.get 5= .ptr (some (h.next,0))/\b.get 6= .bool true/\jh h c/\c.get h.next=some (.cells Ov false (some (203,true)))) ?_ ?_
  ·simp only [avi];simp [cR,bj,bC,bQ,bN,bx,cV,bt,aT,dQ,cls,aw,aR,aW,aZ,AF.cX,bR,bz,IntKind.same,bm,bk,cellsOf,ba,bD,bh,bn,aL,nk,b5,aH,aBb,aA6,aA7,aX,cW,bJ,AV.aV,aBf,Int.aU,bS,qz,d,j,r,u,bd,x,w,y,t];exact⟨ab,λi W=>by rw [AH.dS _ aa,AH.eg _ aa]⟩
  rintro g c ⟨d,j,F,T,U,K⟩;refine cL (λb L=>b.n=43/\b.get 0= .str s/\b.get 5= .ptr (some (h.next,0))/\b.get 34= .bool true/\L=c) (by simp [cR,bj,bC,bQ,bN,bx,cV,bt,aT,dQ,cls,aw,aR,aW,aZ,bd,AF.cX,bR,bz,IntKind.same,bm,bk,cellsOf,ba,aB,bD,bh,bn,bu,aL,nk,b5,aH,aBb,aA6,aA7,aX,cW,bJ,AV.aV,aBf,Int.aU,bS,qz,aqB,d,j,F,T]) ?_;rintro g L ⟨d,j,F,G,rfl⟩;rw [bC];simp only [AF.KS,G];have V:=awH k N K s Q;have I:=ayJ k M K (s.reverse.dropWhile fg).reverse (by
   have:=(List.dropWhile_suffix (l:=s.reverse) fg).length_le;simp at this⊢;omega)
  simp [cR,bj,bC,bQ,bN,bx,cV,bt,aT,dQ,cls,aw,aR,aW,aZ,bd,AF.cX,bR,bz,IntKind.same,bm,bk,cellsOf,ba,aB,bD,bh,bn,bu,aL,nk,b5,aH,aBb,aA6,aA7,aX,cW,bJ,AV.aV,aBf,Int.aU,bS,qz,ao1,apb,d,j,F,V,I,gY,fp,mE,aqF,U,agI]
theorem aww (k:eD E 219 ajo) (b:eD E 193 arl) (c:eD E 194 arz) (d:eD E 158 aqF) (f:E.vP 192 [.str Ut]=some (.tuple [.agg Ov,.bool true])):aN E 158 FZ:=
 MV (λ_=>rfl) λA H aCL y x z h j a=>by
  obtain⟨l,n,e,p,q⟩:=j;have r:l=[.str x.1]:=p;have s:n=[.str x.2]:=q;rw [r,s]at e;rw [Rb h e];simp only [od,aA5]at a;rw [show x.2=Ut from dZ.1 a.2];have D:=ox a.1;obtain⟨⟨v,t⟩,u,rfl,w⟩:=ay5 k b c d f x.1 aa H;exact⟨_,t,u,w,rfl⟩
end
end Ls.Lib
end Go.Proofs.YtccmgnimoheekaaGreatDoor
