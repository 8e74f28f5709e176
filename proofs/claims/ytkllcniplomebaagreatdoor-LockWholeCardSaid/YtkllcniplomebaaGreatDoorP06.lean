/- A part of the proofs. -/
import Derived.Test.YtkllcniplomebaaGreatDoorP05
set_option linter.all false
set_option maxRecDepth 60000
set_option maxHeartbeats 2000000
namespace Go.Abs
variable{c:List Int}{α:Type}{n k:Nat}{f:Nat->Int}(l:List av){σ σi:List (Nat×Nat)}{nm:av}{vs:Nat->List bO}(P:Program){af:aj}{m0:List (Nat×bm)}(C:Ctx->Prop){a b:Int}{st:St}(Z:Ctx)
section
variable [cI]
section
variable {P:Program}{ν:List (Nat×Nat)}{bR:List Nat}{Y:Ctx}
theorem RD.re {x x':X}(hw:x'.w=x.w)(hI:x'.I=x.I)(hβ:∀l l',nb 0 σ l=some l'->x'.β l'=x.β l){v:Value}{d d':D}(hv:RD ν x v d)(hd:RnD 0 σ d d'):RD ν x' v d':=by
 rcases hd with⟨rfl,hn⟩|hd|hd
 .exact hv.aU hn (λ_ h=>by rw[hI];exact h) (λ_ _=>by rw[hw])
 .grind [RD.rn]
 grind [RD.nl]
def oW.re {x x':X}{σ:List (Nat×Nat)}(hw:x'.w=x.w)(hI:x'.I=x.I)(hβ:∀l l',nb 0 σ l=some l'->x'.β l'=x.β l){b base tot:Nat}{b0 blk:bm}(o2:oW ν x b base tot b0)(q3:qx 0 σ b0 blk):oW ν x' b base tot blk:=by
 cases b0 with
 |iter s p=>
  cases blk with
  |iter s' p'=>simp only[qx]at q3;obtain⟨rfl,rfl⟩:=q3;simp only[oW,hw]at o2⊢;exact o2
  |_=>simp[qx]at q3
 |row s=>
  cases blk with
  |row s'=>simp only[qx]at q3;subst q3;simp only[oW,hw]at o2⊢;exact o2
  |_=>simp[qx]at q3
 |bld o n u=>
  cases blk with
  |bld o' n' u'=>
   simp only[qx]at q3;obtain⟨q3,rfl,rfl⟩:=q3;obtain⟨p1,v,p2,p3⟩:=o2;refine⟨p1,v,by rw[hw];exact p2, ?_⟩;cases o with
   |none=>simp only at q3;subst q3;exact p3
   |some l0=>
    obtain⟨l1,q4,rfl⟩:=q3;obtain⟨g,t,p4,p5,p6⟩:=p3;exact⟨g,t,p4,p5,by rw[hβ l0 l1 q4];exact p6⟩
  |_=>simp[qx]at q3
 |mpb s=>
  cases blk with
  |mpb s'=>
   simp only[qx]at q3;subst q3;obtain⟨p1,es2,cl,p2,p3,p4,p5⟩:=o2;exact⟨p1,es2,cl,by rw[hw];exact p2,p3,p4,λi hi=>(p5 i hi).aU (cT p1 i) (λ_ h=>by rw[hI];exact h) (λ_ _=>by rw[hw])⟩
  |_=>simp[qx]at q3
 |buf k es=>
  cases blk with
  |iter s' p'=>simp[qx]at q3
  |row s'=>simp[qx]at q3
  |bld o' n' u'=>simp[qx]at q3
  |mpb s'=>simp[qx]at q3
  |buf k' es'=>
   simp only[qx]at q3;obtain⟨rfl,q3⟩:=q3;obtain⟨p1,p2,cc,T,fr,p3,p4,p5,p6⟩:=o2;rw[<-hw]at p3;rcases q3 with⟨rfl,hn⟩|q3|q3
   .exact⟨p1,p2,cc,T,fr,p3,p4,p5,λi hi=>⟨(p6 i hi).1,λj hj=>⟨((p6 i hi).2 j hj).1,RD.re hw hI hβ ((p6 i hi).2 j hj).2 (.inl ⟨rfl,lJ (cT hn i) j⟩)⟩⟩⟩
   .obtain⟨r1,r2⟩:=jQ q3;refine⟨p1,ae,cc,T,fr,p3,p4,p5,λi hi=>?_⟩;have hi':i<es.length:=ae;obtain⟨s1,s2⟩:=Gy (r2 i hi');exact⟨s1.trans (p6 i hi').1,λj hj=>⟨((p6 i hi').2 j hj).1,RD.re hw hI hβ ((p6 i hi').2 j hj).2 (.inr (.inl (s2 j (by rw[(p6 i hi').1];exact hj))))⟩⟩
   .obtain⟨r1,r2⟩:=r9 q3;refine⟨p1,ae,cc,T,fr,p3,p4,p5,λi hi=>?_⟩;have hi':i<es.length:=ae;obtain⟨s1,s2⟩:=FG (r2 i hi');exact⟨s1.trans (p6 i hi').1,λj hj=>⟨((p6 i hi').2 j hj).1,RD.re hw hI hβ ((p6 i hi').2 j hj).2 (.inr (.inr (s2 j (by rw[(p6 i hi').1];exact hj))))⟩⟩
theorem SN {lo c:Nat}{l l':Nat}(h0:ig 0 c σ=true)(h:nb 0 σ l=some l'):l'<c/\(l,l')∈σ:=by
 obtain⟨h1,h2⟩:=yg h0 h
 grind
def xo {c:Nat}:∀{σ:List (Nat×Nat)}{a b:Nat},ig 0 c σ=true->(a,b)∈σ->nb 0 σ a=some b
 |[],a,b,_,h=>by cases h
 |(a0,b0)::r,a,b,h0,h=>by
  unfold nb;simp only[ig,aK,List.all_eq_true,cg]at h0;obtain⟨_,_,p4,p5⟩:=h0;rcases bU.1 h with h|h
  .simp only[dw]at h;obtain⟨rfl,rfl⟩:=h;simp
  .have:=(p4 _ h).1;simp only at this;have hne:Nat.beq a0 a=false:=by
    cases hb:Nat.beq a0 a with
    |false=>rfl
    |true=>obtain rfl:=Nat.eq_of_beq_eq_true hb;simp at this
   rw[hne];exact xo p5 h
structure Fr (σi σo:List (Nat×Nat))(q q1:Nat)(m0 m1:List (Nat×bm))(st st':St):Prop where
 oki:ig 0 q σi=true
 oko:ig 0 st'.nx σo=true
 nx:st.nx<=st'.nx
 lt:∀l i,(l,i)∈σi->look st.m l≠none
 io:∀i l,(i,l)∈σo->(l,i)∈σi\/st.nx<=l
 m0:∀i b,look m0 i=some b->∃l b',(l,i)∈σi/\look st.m l=some b'/\qx 0 σi b' b
 m1:∀l b,look st'.m l=some b->(∃i b1,(i,l)∈σo/\look m1 i=some b1/\qx 0 σo b1 b)\/(oC σo l=none/\(∀i,(l,i)∉σi)/\look st.m l=some b)
def adm {fid:Nat}{fn:Func}{K:D->St->Prop}(hΓ:Ok P ν bR Y)(hmix:P.follows .mixedOrders=true)(hf:P.funcs[fid]? =some fn)(hc:compile P ν bR fn=some af){x:X}{args:Array Value}{ds cs:List D}{q:Nat}(hl:args.size=ds.length)(hargs:∀i,i<ds.length->RD ν x (args.getD i undef) (ds.getD i .any))(hs:fG ν x (look st.m))(hfr:fk st x)(hlen:cs.length=ds.length)(hds:∀i,i<ds.length->RnD 0 σi (ds.getD i .any) (cs.getD i .any))(hnp:cs.length=af.np)(oki:ig 0 q σi=true)(hlt:∀l i,(l,i)∈σi->look st.m l≠none)(hm0:∀i b,look m0 i=some b->∃l b',(l,i)∈σi/\look st.m l=some b'/\qx 0 σi b' b)(hw:dk (Y.at q) af.body (λe env st1=>e.home/\oD st1.m env af.res/\∃(σo:List (Nat×Nat)) (q1:Nat) (m1:List (Nat×bm)) (st':St) (vd':D),Fr σi σo q q1 m0 m1 st st'/\RnD 0 σo (j5 af env st1) vd'/\K vd' st'/\∀i,look st1.m i=look m1 i) (fP af cs) ⟨q,m0⟩):
  Calls P fid args x.w fun
   | .returned v,w'=>∃x' d st',K d st'/\x'.w=w'/\Step x x'/\RD ν x' v d/\fG ν x' (look st'.m)/\fk st' x'
   |_,_=>False:=by
 obtain⟨body,c1,c2,c3,c4,c5,c6⟩:=gp hc
 let x0:X:=⟨x.w,x.I,λi=>(oC σi i).bind x.β⟩
 have hx0:∀l i,(l,i)∈σi->x0.β i=x.β l:=λl i h=>by simp only[x0,BN oki h,Option.bind_some]
 have hβ0:∀l i,nb 0 σi l=some i->x0.β i=x.β l:=λl i h=>hx0 l i (SN (lo:=0) oki h).2
 have hx0':∀i p,x0.β i=some p->∃l,(l,i)∈σi/\x.β l=some p/\i<q:=by
  intro i p h;obtain⟨l,h1,h2⟩:=Option.bind_eq_some_iff.1 (show(oC σi i).bind x.β=some p from h);exact⟨l,mi h1,h2,tl oki (mi h1)⟩
 have hs0:fG ν x0 (look m0):=by
  refine⟨λi blk b base tot e1 e2=>?_,λi j b base tot base' tot' e1 e2 e3 e4=>?_,hs.imm,λi b base tot e=>?_,cI.le x _ (λ_ h=>h) (λ_ _=>rfl) hs.gd⟩
  .obtain⟨l,b',h1,h2,h3⟩:=hm0 i blk e1;rw[hx0 l i h1]at e2;obtain⟨o1,o2⟩:=hs.own l b' b base tot h2 e2;exact⟨o1,oW.re (x:=x) (x':=x0) rfl rfl hβ0 o2 h3⟩
  .obtain⟨l,h1,h2,_⟩:=hx0' i _ e3;obtain⟨l',h1',h2',_⟩:=hx0' j _ e4;have:=hs.inj l l' b base tot base' tot' (hlt _ _ h1) (hlt _ _ h1') h2 h2';subst this;have:=xo oki h1;rw[xo oki h1']at this;exact(bc this).symm
  .obtain⟨l,_,h2,_⟩:=hx0' i _ e;exact hs.ef l b base tot h2
 have hf0:fk ⟨q,m0⟩ x0:=by
  refine⟨λi hi=>?_,λi hi=>?_⟩
  .cases h:x0.β i with
   |none=>rfl
   |some p=>obtain⟨_,_,_,h4⟩:=hx0' i p h;simp only at hi;omega
  .cases h:look m0 i with
   |none=>exact absurd h hi
   |some b=>obtain⟨l,b',h1,_⟩:=hm0 i b h;exact tl oki h1
 have hi:=tK (P:=P) (ν:=ν) (bR:=bR) (x:=x0) (ds:=cs) (st:=⟨q,m0⟩) c4 c5 c6 (args:=args) ae hnp (λi hi=>RD.re (x:=x) (x':=x0) rfl rfl hβ0 (hargs i ae) (hds i ae)) hs0 hf0;have hcs:=qD (C:={P,ν,bR,slots:=slotsOf fn,ntmps:=fn.ntmps,vm:=QT P fn}) (hΓ.at q) (mA fn).1 hmix x0 (λl h=>hf0.β l h) body af.body c2 _ _ _ _ x0 hw hi (.refl _);refine calls_of_wp hf c1 (wp_mono hcs λe a w' hp=>?_);obtain⟨e',x',env',st1,he,hxw,hst,hi',hh,hro,σo,q1,m1,st',vd',hfm,hvd,hK,hlk⟩:=hp;subst hxw;obtain⟨v,r1,r2,r3⟩:=oS hΓ.small hi' c3 hro
 let x2:X:=⟨x'.w,x'.I,λl=>match oC σo l with|some i=>x'.β i|none=>x.β l⟩
 have hx2:∀i l,(i,l)∈σo->x2.β l=x'.β i:=λi l h=>by simp only[x2,BN hfm.oko h]
 have hx2n:∀l,oC σo l=none->x2.β l=x.β l:=λl h=>by simp only[x2,h]
 have hβ2:∀i l,nb 0 σo i=some l->x2.β l=x'.β i:=λi l h=>hx2 i l (SN (lo:=0) hfm.oko h).2
 have hx0s:∀l i p,(l,i)∈σi->x.β l=some p->x'.β i=some p:=λl i p h e=>hst.β _ _ (by rw[hx0 l i h];exact e)

 have hnew:∀i p,x'.β i=some p->(∃l,(l,i)∈σi/\x.β l=some p)\/x.w.heap.size<=p.1\/∃l p',(∃j,(l,j)∈σi)/\x.β l=some p'/\p'.1=p.1:=by
  intro i p e;rcases hst.newβ i p e with h|h|⟨j,p',h1,h2⟩
  .obtain⟨l,h3,h4,_⟩:=hx0' i p h;exact .inl ⟨l,h3,h4⟩
  .exact .inr (.inl h)
  .obtain⟨l,h3,h4,_⟩:=hx0' j p' h1;exact .inr (.inr ⟨l,p',⟨j,h3⟩,h4,h2⟩)
 have hstep:Step x x2:=by
  refine⟨hst.os,hst.tape,hst.output,hst.size,hst.I,hst.pg,λl p hp=>?_,λb hb hn=>hst.old b hb λi p h e=>?_,λb h=>?_,λl p h=>?_⟩
  .cases h:oC σo l with
   |none=>rw[hx2n l h];exact hp
   |some i=>
    have hm:=mi h;rw[hx2 i l hm];rcases hfm.io i l hm with h2|h2
    .exact hx0s l i p h2 hp
    .rw[hfr.β l h2]at hp;cases hp
  .obtain⟨l,_,h2,_⟩:=hx0' i p h;exact hn l p h2 e
  .rcases hst.newI b h with h|h|⟨i,p,h1,h2⟩
   .exact .inl h
   .exact .inr (.inl h)
   .obtain⟨l,_,h3,_⟩:=hx0' i p h1;exact .inr (.inr ⟨l,p,h3,h2⟩)
  .cases h1:oC σo l with
   |none=>rw[hx2n l h1]at h;exact .inl h
   |some i=>
    have hm:=mi h1;rw[hx2 i l hm]at h;rcases hnew i p h with⟨l',h2,h3⟩|h2|⟨l',p',_,h3,h4⟩
    .exact .inr (.inr ⟨l',p,h3,rfl⟩)
    .exact .inr (.inl h2)
    .exact .inr (.inr ⟨l',p',h3,h4⟩)
 have hsim:fG ν x2 (look st'.m):=by
  refine⟨λl blk b base tot e1 e2=>?_,λl1 l2 b base tot base' tot' e1 e2 e3 e4=>?_,hi'.oA.imm,λl b base tot e=>?_,cI.le x' _ (λ_ h=>h) (λ_ _=>rfl) hi'.oA.gd⟩
  .rcases hfm.m1 l blk e1 with⟨i,b1,h1,h2,h3⟩|⟨h1,h2,h3⟩
   .rw[hx2 i l h1]at e2;obtain⟨o1,o2⟩:=hi'.oA.own i b1 b base tot (by rw[hlk];exact h2) e2;exact⟨o1,oW.re (x:=x') (x':=x2) rfl rfl hβ2 o2 h3⟩
   .rw[hx2n l h1]at e2;obtain⟨o1,o2⟩:=hs.own l blk b base tot h3 e2;have hlt:=hs.ef l b base tot e2;have hno:∀i p,x0.β i=some p->p.1≠b:=by
     rintro i ⟨b',base',tot'⟩ h e;simp only at e;subst e;obtain⟨l',h4,h5,_⟩:=hx0' i _ h;have:=hs.inj l' l b' base' tot' base tot (hfm.lt _ _ h4) (by rw[h3];simp) h5 e2;subst this;exact h2 _ h4
    refine⟨λh=>?_,o2.mono hstep.le (hst.old b hlt hno)⟩;rcases hst.newI b h with h|h|⟨i,p,h4,h5⟩
    .exact o1 h
    .exact absurd hlt (Nat.not_lt.2 h)
    .exact hno i p h4 h5
  .have mix:∀l1 l2 base tot base' tot',(∃i b1,(i,l1)∈σo/\look m1 i=some b1)->oC σo l2=none->(∀i,(l2,i)∉σi)->look st.m l2≠none->x2.β l1=some (b,base,tot)->x2.β l2=some (b,base',tot')->False:=by
    rintro l1 l2 base tot base' tot' ⟨i,b1,h1,h2⟩ h3 h4 h5 e3 e4;rw[hx2 i l1 h1]at e3;rw[hx2n l2 h3]at e4;rcases hnew i _ e3 with⟨l',h6,h7⟩|h6|⟨l',⟨pb,pt,pq⟩,⟨j,h6⟩,h7,h8⟩
    .have:=hs.inj l' l2 b base tot base' tot' (hfm.lt _ _ h6) h5 h7 e4;subst this;exact h4 _ h6
    .have:=hs.ef l2 b base' tot' e4;simp only at h6;omega
    .simp only at h8;subst h8;have:=hs.inj l' l2 pb pt pq base' tot' (hfm.lt _ _ h6) h5 h7 e4;subst this;exact h4 _ h6
   cases f1:look st'.m l1 with
   |none=>exact absurd f1 e1
   |some b1=>
    cases f2:look st'.m l2 with
    |none=>exact absurd f2 e2
    |some b2=>
     rcases hfm.m1 l1 b1 f1 with⟨i,c1,h1,h2,_⟩|⟨h1,h2,h3⟩<;>rcases hfm.m1 l2 b2 f2 with⟨j,c2,k1,k2,_⟩|⟨k1,k2,k3⟩
     .rw[hx2 i l1 h1]at e3;rw[hx2 j l2 k1]at e4;have:=hi'.oA.inj i j b base tot base' tot' (by rw[hlk,h2];simp) (by rw[hlk,k2];simp) e3 e4;subst this;have:=xo hfm.oko h1;rw[xo hfm.oko k1]at this;exact(bc this).symm
     .exact(mix l1 l2 base tot base' tot' ⟨i,c1,h1,h2⟩ k1 k2 (by rw[k3];simp) e3 e4).elim
     .exact(mix l2 l1 base' tot' base tot ⟨j,c2,k1,k2⟩ h1 h2 (by rw[h3];simp) e4 e3).elim
     .rw[hx2n l1 h1]at e3;rw[hx2n l2 k1]at e4;exact hs.inj l1 l2 b base tot base' tot' (by rw[h3];simp) (by rw[k3];simp) e3 e4
  .cases h1:oC σo l with
   |none=>rw[hx2n l h1]at e;exact jj (hs.ef l b base tot e) hst.size
   |some i=>
    rw[hx2 i l (mi h1)]at e;exact hi'.oA.ef i b base tot e
 have hfr2:fk st' x2:=by
  refine⟨λl hl=>?_,λl hl=>?_⟩
  .cases h1:oC σo l with
   |none=>rw[hx2n l h1];exact hfr.β l (by have:=hfm.nx;omega)
   |some i=>have:=tl hfm.oko (mi h1);omega
  .cases f1:look st'.m l with
   |none=>exact absurd f1 hl
   |some b1=>
    rcases hfm.m1 l b1 f1 with⟨i,c1,h1,_⟩|⟨_,_,h3⟩
    .exact tl hfm.oko h1
    .have:=hfr.m l (by rw[h3];simp);have:=hfm.nx;omega
 have hrd:=RD.re (ν:=ν) (x:=x') (x':=x2) rfl rfl hβ2 r2 hvd;rcases Ex.BV hh with h|h<;>rw[h]at he<;>subst he<;>exact⟨hi'.defers,v,r1,x2,vd',st',hK,rfl,hstep,hrd,hsim,hfr2⟩
end
end
structure RowT where
 tr:List D->St->(D->St->Prop)->Prop
 mu:List D->St->Nat
 mono:∀(ds:List D) (st:St) (K K':D->St->Prop),(∀d st',K d st'->K' d st')->tr ds st K->tr ds st K'
def RowT.no:RowT:=⟨λ_ _ _=>False,λ_ _=>0,λ_ _ _ _ _ h=>h⟩
def wD (af:aj)(Q:D->List (Nat×bm)->Prop):Ex->List aY->St->Prop:=λe env st=>e.home/\oD st.m env af.res/\∃m1,(∀i,look st.m i=look m1 i)/\Q (j5 af env st) m1
def gP {Q:D->List (Nat×bm)->Prop}{vd:D}{m1:List (Nat×bm)}{e:Ex}{env:List aY}(h1:e.home)(h2:oD st.m env af.res)(h3:j5 af env st=vd)(h4:st.m=m1)(h5:Q vd m1):wD af Q e env st:=⟨h1,h2,m1,λi=>by rw[h4],by rw[h3];exact h5⟩
section
variable [cI]{P:Program}{ν:List (Nat×Nat)}{bR:List Nat}{Y:Ctx}
def Wh (P:Program)(ν:List (Nat×Nat))(Γ':Ctx)(bR:List Nat)(tr:List D->St->(D->St->Prop)->Prop)(fid:Nat):Prop:=
 ∀(ds:List D) (st:St) (K:D->St->Prop),tr ds st K->Ok P ν bR Γ'->∀(x:X) (args:Array Value),args.size=ds.length->(∀i,i<ds.length->RD ν x (args.getD i undef) (ds.getD i .any))->fG ν x (look st.m)->fk st x->
  jJ P x (λv x'=>∃d st',K d st'/\Step x x'/\RD ν x' v d/\fG ν x' (look st'.m)/\fk st' x') ((callFunc fid args).run P x.w)
end
abbrev RT:=List D->D->Prop
abbrev FT:=D->List D->D->D->Prop
variable{A:FT->Prop}
abbrev TT:=List D->St->(D->St->Prop)->Prop
def Ll (T:TT):=∀ds st K K',(∀d st',K d st'->K' d st')->T ds st K->T ds st K'
def HL (A:RT->Prop):RT:=λds d=>∀T,A T->T ds d
def mJ (A:FT->Prop):FT:=λd ds v s=>∀T,A T->T d ds v s
def age (T:TT):Ctx:=⟨λ_ _=>False,λ_ _=>.any,λ_=>T,λ_ _ _=>False,λ_ _ _=>.any,λ_ _ _=>.any,0⟩
def Yn:TT:=λds st K=>∀T,Ll T->C (age T)->T ds st K
def Mi:Ll (Yn C):=λ_ _ _ _ h h1 T hT hC=>hT _ _ _ _ h (h1 T hT hC)
def noR:RT:=λ_ _=>False
def noF:FT:=λ_ _ _ _=>False
def noT:TT:=λ_ _ _=>False
def Dn:Ll noT:=λ_ _ _ _ _ h=>h.elim
structure mG where
 key:Nat
 rel:RT
 mu:List D->Nat
 relF:FT
 tr:TT
 muE:List D->St->Nat
 mono:Ll tr
variable(t:List (Nat×mG))
def mu0:List D->Nat:=λ_=>0
def muE0:List D->St->Nat:=λ_ _=>0
def mZ:mG:=⟨0,noR,mu0,noF,noT,muE0,Dn⟩
def rP (k:Nat)(A:RT->Prop)(mu:List D->Nat:=mu0):mG:=⟨k,HL A,mu,noF,noT,muE0,Dn⟩
def rF (k:Nat)(A:FT->Prop):mG:=⟨k,noR,mu0,mJ A,noT,muE0,Dn⟩
def rG (k:Nat)(C:Ctx->Prop)(mu:List D->St->Nat:=muE0):mG:=⟨k,noR,mu0,noF,Yn C,mu,Mi C⟩
noncomputable def pick (r:D->Prop):D:=Classical.epsilon r
def lK {r:D->Prop}(h:∃d,r d):r (pick r):=Classical.epsilon_spec h
def Det (R:RT):=∀ds d d',R ds d->R ds d'->d=d'
def wz (R:FT):=∀d ds v s v' s',R d ds v s->R d ds v' s'->v=v'/\s=s'
def ah7 {A:RT->Prop}(h:A λds d=>A λds' d'=>ds'=ds->d=d'):Det (HL A):=λds d d' h1 h2=>h2 _ (h1 _ h) rfl
def acS (h:A λd ds v s=>A λd' ds' v' s'=>d'=d->ds'=ds->v=v'/\s=s'):wz (mJ A):=λd ds v s v' s' h1 h2=>h2 _ (h1 _ h) rfl rfl
noncomputable def Fe:Ctx where
 pre n ds:=∃d,(lk t n mZ).rel ds d
 val n ds:=pick ((lk t n mZ).rel ds)
 tr n:=(lk t n mZ).tr
 fp n d ds:=∃v s,(lk t n mZ).relF d ds v s
 fv n d ds:=pick λv=>∃s,(lk t n mZ).relF d ds v s
 fs n d ds:=pick λs=>∃v,(lk t n mZ).relF d ds v s
 lo:=0
def ZS:Rank:=⟨λn=>(lk t n mZ).key,λn=>(lk t n mZ).mu,λn=>(lk t n mZ).muE⟩
noncomputable abbrev under (t:List (Nat×mG))(k u:Nat):Ctx:=(Fe t).under (ZS t) k u
def Ob (k u n:Nat):(((Fe t).under (ZS t) k u).at n).bN:=
 λf ds st K K' h hh=>⟨hh.1,(lk t f mZ).mono ds st K K' h hh.2⟩
section
variable {t:List (Nat×mG)}{u:Nat}{ds:List D}{d v s:D}{K:D->St->Prop}
def okp (hD:Det (lk t n mZ).rel)(hk:(lk t n mZ).key<k\/(lk t n mZ).key=k/\(lk t n mZ).mu ds<u)(h:(lk t n mZ).rel ds d):(under t k u).pre n ds/\(under t k u).val n ds=d:=
 ⟨⟨hk,d,h⟩,hD _ _ _ (lK ⟨d,h⟩) h⟩
def okf (hD:wz (lk t n mZ).relF)(hk:(lk t n mZ).key<k)(h:(lk t n mZ).relF d ds v s):(under t k u).fp n d ds/\(under t k u).fv n d ds=v/\(under t k u).fs n d ds=s:=by
 refine⟨⟨.inl hk,v,s,h⟩, ?_, ?_⟩
 .obtain⟨s',h'⟩:=lK (r:=λv=>∃s,(lk t n mZ).relF d ds v s) ⟨v,s,h⟩;exact(hD _ _ _ _ _ _ h' h).1
 .obtain⟨v',h'⟩:=lK (r:=λs=>∃v,(lk t n mZ).relF d ds v s) ⟨s,v,h⟩;exact(hD _ _ _ _ _ _ h' h).2
def UL (hk:(lk t n mZ).key<k\/(lk t n mZ).key=k/\(lk t n mZ).muE ds st<u)(h:(lk t n mZ).tr ds st K):(under t k u).tr n ds st K:=⟨hk,h⟩
end
section
variable [cI]{P:Program}{ν:List (Nat×Nat)}{bR:List Nat}{Y:Ctx}{t:List (Nat×mG)}{fid key:Nat}
def Lj (P:Program)(ν:List (Nat×Nat))(bR:List Nat)(Y:Ctx)(fid:Nat)(ds:List D)(d:D):Prop:=Ok P ν bR Y->∀(x:X) (args:Array Value),args.size=ds.length->(∀i,i<ds.length->RD ν x (args.getD i undef) (ds.getD i .any))->aP ds=true->
  (∀b,x.I b->b<x.w.heap.size)->cI.gd x->jJ P x (λv x'=>nL x x'/\RD ν x' v d) ((callFunc fid args).run P x.w)
def Rq (P:Program)(ν:List (Nat×Nat))(bR:List Nat)(Y:Ctx)(fid:Nat)(d:D)(ds:List D)(vd new:D):Prop:=Ok P ν bR Y->∀(x:X) (f:Nat->Option bm) (args:Array Value) (l k:Nat),args.size=ds.length+1->
   RD ν x (args.getD 0 undef) (.ptr l k 0 0)->(∀i,i<ds.length->RD ν x (args.getD (i+1) undef) (ds.getD i .any))->fG ν x f->f l=some (.buf k [d])->d.aU=true->aP ds=true->
   jJ P x (λv x'=>Step x x'/\RD ν x' v vd/\fG ν x' (λl'=>if l'=l then some (.buf k [new])else f l')/\x'.β=x.β) ((callFunc fid args).run P x.w)
def wA (P:Program)(ν:List (Nat×Nat))(bR:List Nat)(Y:Ctx)(fid:Nat)(ds:List D)(st:St)(K:D->St->Prop):Prop:=Ok P ν bR Y->∀(x:X) (args:Array Value),args.size=ds.length->(∀i,i<ds.length->RD ν x (args.getD i undef) (ds.getD i .any))->fG ν x (look st.m)->fk st x->
  jJ P x (λv x'=>∃d st',K d st'/\Step x x'/\RD ν x' v d/\fG ν x' (look st'.m)/\fk st' x') ((callFunc fid args).run P x.w)
structure Owe (P:Program)(ν:List (Nat×Nat))(bR:List Nat)(t:List (Nat×mG))(fid n:Nat):Prop where
 p:∀ds d,(lk t n mZ).rel ds d->Lj P ν bR (under t (lk t n mZ).key ((lk t n mZ).mu ds)) fid ds d
 f:wz (lk t n mZ).relF/\∀d ds v s,(lk t n mZ).relF d ds v s->Rq P ν bR (under t (lk t n mZ).key ((lk t n mZ).mu (d::ds))) fid d ds v s
 g:∀ds st K,(lk t n mZ).tr ds st K->wA P ν bR (under t (lk t n mZ).key ((lk t n mZ).muE ds st)) fid ds st K
def okA (hsm:∀fid n,dK ν fid=some n->n<1000000)(hB:∀t,bR.contains (1000000000+t)=true->t=cI.tB)(hG:∀g,bR.contains (500000000+g)=true/\g<400000000->cI.gz g)(h:∀fid n,dK ν fid=some n->Owe P ν bR t fid n):Ok P ν bR (Fe t):=by
 refine ok_of (ZS t) hsm hB hG (λfid n hn ds hp hok=>(h fid n hn).p ds _ (lK hp) hok) (λfid n hn _ d ds hp hok=>?_) (λfid n hn ds st K htr hok=>(h fid n hn).g ds st K htr hok);obtain⟨v,s,hr⟩:=hp;obtain⟨hD,hf⟩:=(h fid n hn).f;have h2:(Fe t).fv n d ds=v/\(Fe t).fs n d ds=s:=by
  constructor
  .obtain⟨s',h'⟩:=lK (r:=λv=>∃s,(lk t n mZ).relF d ds v s) ⟨v,s,hr⟩;exact(hD _ _ _ _ _ _ h' hr).1
  .obtain⟨v',h'⟩:=lK (r:=λs=>∃v,(lk t n mZ).relF d ds v s) ⟨s,v,hr⟩;exact(hD _ _ _ _ _ _ h' hr).2
 rw[h2.1,h2.2];exact hf d ds v s hr hok
def HX {Y:D->List D->Ctx}:wz noF/\∀d ds v s,noF d ds v s->Rq P ν bR (Y d ds) fid d ds v s:=⟨λ_ _ _ _ _ _ h=>h.elim,λ_ _ _ _ h=>h.elim⟩
def aM {A:RT->Prop}{mu:List D->Nat}(hr:lk t n mZ=rP key A mu)(h:A λds d=>Lj P ν bR (under t key (mu ds)) fid ds d):Owe P ν bR t fid n:=by
 refine⟨?_, ?_, ?_⟩<;>rw[hr]
 .exact λds d hd=>hd (λds d=>Lj P ν bR (under t key (mu ds)) fid ds d) h
 .exact HX
 .exact λ_ _ _ h=>h.elim
def MM (hr:lk t n mZ=rF key A)(hD:wz (mJ A))(h:A λd ds v s=>Rq P ν bR (under t key 0) fid d ds v s):Owe P ν bR t fid n:=by
 refine⟨?_, ?_, ?_⟩<;>rw[hr]
 .exact λ_ _ h=>h.elim
 .exact⟨hD,λd ds v s hd=>hd _ h⟩
 .exact λ_ _ _ h=>h.elim
def Ua {Y:List D->St->Ctx}:Ll λds st K=>wA P ν bR (Y ds st) fid ds st K:=λds st K K' h hg hok x args hl ha hs hf=>(hg hok x args hl ha hs hf).mono λv x' ⟨d,st',h1,h2⟩=>⟨d,st',h _ _ h1,h2⟩
def Bp {C:Ctx->Prop}{mu:List D->St->Nat}(hr:lk t n mZ=rG key C mu)(h:C (age λds st K=>wA P ν bR (under t key (mu ds st)) fid ds st K)):Owe P ν bR t fid n:=by
 refine⟨?_, ?_, ?_⟩<;>rw[hr]
 .exact λ_ _ h=>h.elim
 .exact HX
 .exact λds st K hd=>hd (λds st K=>wA P ν bR (under t key (mu ds st)) fid ds st K) Ua h
def V8 (P:Program)(ν:List (Nat×Nat))(bR:List Nat)(fid:Nat)(af:aj):Prop:=(P.funcs[fid]?).map (λf=>(compile P ν bR f,f.name== "runtime.NumGoroutine"))=some (some af,false)
theorem V8.split (h:V8 P ν bR fid af):∃fn,P.funcs[fid]? =some fn/\compile P ν bR fn=some af/\(fn.name== "runtime.NumGoroutine")=false:=by
 grind [V8]
def aw {ds:List D}{d:D}(hmix:P.follows .mixedOrders=true)(hC:V8 P ν bR fid af)(h1:ds.length=af.np)(h2:dk (Y.at 0) af.body (Rr af d) (fP af ds) ⟨0,[]⟩):Lj P ν bR Y fid ds d:=by
 intro hok x args hl hargs hnl himm hgd;obtain⟨fn,hf,hc,hn⟩:=hC.split;obtain⟨body,c1,_⟩:=gp hc;exact .inr ⟨fid,args,gR hf hn (by rw[c1];rfl) args x.w,adn hok hmix hf hc hl hargs hnl himm hgd h1 h2⟩
theorem Ak {d:D}{ds:List D}{vd new:D}(k0:Nat)(hmix:P.follows .mixedOrders=true)(hC:V8 P ν bR fid af)(h1:ds.length+1=af.np)(hk:d.cells.length=k0)(h2:dk (Y.at 1) af.body (E5 af k0 vd new) (fP af (.ptr 0 k0 0 0::ds)) ⟨1,[(0,.buf k0 [d])]⟩):Rq P ν bR Y fid d ds vd new:=by
 intro hok x f args l k hl h0 hargs hs hfl hd hnl;obtain⟨fn,hf,hc,hn⟩:=hC.split;obtain⟨body,c1,_⟩:=gp hc;have hkk:k=k0:=by
  generalize args.getD 0 undef=v0 at h0;cases h0 with
  |ptr _ _ _ _ b base tot at_ hβ hat=>
   obtain⟨p1,p2,c,T,fr,p3,p4,p5,p6⟩:=(hs.own l _ b base tot hfl hβ).2;have:=(p6 0 aF).1
   grind
 subst hkk;exact .inr ⟨fid,args,gR hf hn (by rw[c1];rfl) args x.w,adl hok hmix hf hc hl h0 hargs hs hfl hd hnl h1 h2⟩
theorem R0 {ds:List D}{K:D->St->Prop}{q:Nat}{cs:List D}{Q:D->List (Nat×bm)->Prop}(hmono:∀q,(Y.at q).bN)(hmix:P.follows .mixedOrders=true)(hC:V8 P ν bR fid af)(h1:cs.length=ds.length)(h2:∀i,i<ds.length->RnD 0 σi (ds.getD i .any) (cs.getD i .any))(h3:cs.length=af.np)(h4:ig 0 q σi=true)(h5:∀l i,(l,i)∈σi->look st.m l≠none)(h6:∀i b,look m0 i=some b->∃l b',(l,i)∈σi/\look st.m l=some b'/\qx 0 σi b' b)(h7:dk (Y.at q) af.body (wD af Q) (fP af cs) ⟨q,m0⟩)(h8:∀d m1,Q d m1->∃(σo:List (Nat×Nat)) (q1:Nat) (st':St) (vd':D),Fr σi σo q q1 m0 m1 st st'/\RnD 0 σo d vd'/\K vd' st'):wA P ν bR Y fid ds st K:=by
 intro hok x args hl hargs hs hfr;obtain⟨fn,hf,hc,hn⟩:=hC.split;obtain⟨body,c1,_⟩:=gp hc;refine .inr ⟨fid,args,gR hf hn (by rw[c1];rfl) args x.w, ?_⟩;refine Calls.mono (adm (K:=K) hok hmix hf hc hl hargs hs hfr h1 h2 h3 h4 h5 h6 (hZ (hmono q) _ _ _ _ _ (λe env st1 h=>?_) h7)) λe w' he=>?_
 .obtain⟨g1,g2,m1,g3,g4⟩:=h
  grind
 grind
end
theorem kO {α:Type}{f:α->D}(hf:∀x y,f x=f y↔x=y):∀a b:List α,a.map f=b.map f↔a=b
 |[],[]=>aF
 |[],_::_=>aF
 |_::_,[]=>aF
 |x::a,y::b=>by simp only[List.map_cons,th,hf,kO hf a b]
def iNat (a b:Nat):((a:Nat):Int)=(b:Nat)↔a=b:=ae
theorem iU8 (x y:UInt8):((x.toNat:Nat):Int)=(y.toNat:Nat)↔x=y:=(iNat _ _).trans pB
def X5 (a b:List av):a.map D.str=b.map D.str↔a=b:=kO (λ_ _=>aF) a b
def Uf (a b:List Int):a.map (D.int .i64)=b.map (D.int .i64)↔a=b:=kO (λ_ _=>aF) a b
theorem iByt (a b:av):(a.map λc=>D.int .u8 c.toNat)=(b.map λc=>D.int .u8 c.toNat)↔a=b:=by grind [kO,iU8]
def iVer (a b:bO):bO.D a=bO.D b↔a=b:=by cases a;cases b;simp[bO.D]
structure Cut where
 e:Int
 v:bO
 a:Bool
 deriving Inhabited,DecidableEq
def Cut.D (c:Cut):D:=.agg [.int .i64 c.e,.int .i64 c.v.major,.int .i64 c.v.minor,.int .i64 c.v.patch,.str c.v.pre,.str c.v.build,.bool c.a]
structure Span where
 f:Cut
 t:Cut
 deriving Inhabited,DecidableEq
def Span.D (s:Span):D:=.agg [.int .i64 s.f.e,.int .i64 s.f.v.major,.int .i64 s.f.v.minor,.int .i64 s.f.v.patch,.str s.f.v.pre,.str s.f.v.build,.bool s.f.a,
 .int .i64 s.t.e,.int .i64 s.t.v.major,.int .i64 s.t.v.minor,.int .i64 s.t.v.patch,.str s.t.v.pre,.str s.t.v.build,.bool s.t.a]
structure cu where
 rel:List Span
 pr:List Span
 deriving Inhabited,DecidableEq
def cu.D (s:cu):D:=.agg [.sl 14 (s.rel.map Span.D),.sl 14 (s.pr.map Span.D)]
structure Want where
 u:Int
 s:cu
 deriving Inhabited,DecidableEq
def Want.D (w:Want):D:=.agg [.int .i64 w.u,.sl 14 (w.s.rel.map Span.D),.sl 14 (w.s.pr.map Span.D)]
abbrev nM:=List Want
def jC (r:nM):D:=.sl 3 (r.map Want.D)
structure fj where
 v:bO
 sh:Int
 needs:List nM
 bars:List Want
 deriving Inhabited,DecidableEq
def fj.D (c:fj):D:=.agg [.int .i64 c.v.major,.int .i64 c.v.minor,.int .i64 c.v.patch,.str c.v.pre,.str c.v.build,.int .i64 c.sh,.sl 1 (c.needs.map jC),.sl 3 (c.bars.map Want.D)]
structure dz where
 name:av
 feat:av
 cands:List fj
 deriving Inhabited,DecidableEq
def dz.D (u:dz):D:=.agg [.str u.name,.str u.feat,.sl 8 (u.cands.map fj.D)]
structure cA where
 us:List dz
 deriving Inhabited,DecidableEq
def cA.D (w:cA):D:=.agg [.sl 3 (w.us.map dz.D)]
structure ec where
 u:Int
 m:Int
 deriving Inhabited,DecidableEq
def ec.D (t:ec):D:=.agg [.int .i64 t.u,.int .i64 t.m]
structure jl where
 kind:Int
 unit:Int
 a:Int
 b:Int
 terms:List ec
 deriving Inhabited,DecidableEq
def jl.D (r:jl):D:=.agg [.int .i64 r.kind,.int .i64 r.unit,.int .i64 r.a,.int .i64 r.b,.sl 2 (r.terms.map ec.D)]
structure wy where
 w:cA
 allow:List Int
 rows:List jl
 deriving Inhabited,DecidableEq
def wy.D (c:wy):D:=.agg [.sl 3 (c.w.us.map dz.D),.sl 1 (c.allow.map (D.int .i64)),.sl 5 (c.rows.map jl.D)]
def eqBb (a b:Bool):gU (D.bool a).cells (D.bool b).cells=decide (a=b):=by cases a<;>cases b<;>rfl
def sA (f:Nat->Int):Nat->Nat->Int
 |_,0=>0
 |i,k+1=>if f i=0 then sA f (i+1) k else f i
def fQ (f:Nat->Int)(i n:Nat):Int:=sA f i (n-i)
theorem pQ {i:Nat}(h:i<n)(hf:f i=0):fQ f i n=fQ f (i+1) n:=by
 unfold fQ;obtain⟨k,hk⟩:∃k,n-i=k+1:=⟨n-i-1,ae⟩
 grind [sA]
def lE {i:Nat}(h:i<n)(hf:f i≠0):fQ f i n=f i:=by
 unfold fQ;obtain⟨k,hk⟩:∃k,n-i=k+1:=⟨n-i-1,ae⟩
 rw[hk];simp only[sA,hf,a8]
def pP {i:Nat}(h:n<=i):fQ f i n=0:=by
 unfold fQ;rw[show n-i=0 by omega];rfl
def dn (a b:Int):Int:=if a<b then-1 else if b<a then 1 else 0
def pN (a b:av):Int:=if Op.bytesLess a b=true then-1 else if a=b then 0 else 1
def ym (a b:av):Int:=if cO a=true/\cO b=true then dn (gM a) (gM b)else if cO a=true then-1 else if cO b=true then 1 else pN a b
def N3 (l m:List av):Nat->Nat->Int
 |_,0=>dn l.length m.length
 |i,k+1=>if ym l[i]! m[i]! ≠0 then ym l[i]! m[i]! else N3 l m (i+1) k
def vx (l m:List av)(i:Nat):Int:=N3 l m i (min l.length m.length-i)
def GQ {l m:List av}{i:Nat}(h:i<l.length/\i<m.length)(hn:ym l[i]! m[i]! ≠0):vx l m i=ym l[i]! m[i]! :=by
 unfold vx;rw[show min l.length m.length-i=(min l.length m.length-(i+1))+1 by omega,N3,ak hn]
def N2 {l m:List av}{i:Nat}(h:i<l.length/\i<m.length)(hn:ym l[i]! m[i]! =0):vx l m i=vx l m (i+1):=by
 unfold vx;rw[show min l.length m.length-i=(min l.length m.length-(i+1))+1 by omega,N3,ai (by rw[hn];simp)]
def GP {l m:List av}{i:Nat}(h:l.length<=i\/m.length<=i):vx l m i=dn l.length m.length:=by
 unfold vx;rw[show min l.length m.length-i=0 by omega,N3]
def Br (a b:av):Int:=if a=b then 0 else if a=[]then 1 else if b=[]then-1 else vx (aQ a 46) (aQ b 46) 0
def jm (a b:bO):Int:=if fT a=false\/fT b=false then 0 else
 if dn a.major b.major≠0 then dn a.major b.major else if dn a.minor b.minor≠0 then dn a.minor b.minor else
 if dn a.patch b.patch≠0 then dn a.patch b.patch else Br a.pre b.pre
def si (v:bO):bO:=⟨v.major,v.minor,v.patch,v.pre,[]⟩
theorem TS (a:Int):dn a a=0:=by simp[dn]
theorem yK:dn a b=0↔a=b:=by
 grind [dn]
theorem FN {a b:bO}(h:si a=si b):jm a b=0:=by
 grind [si,jm,Br,TS]
theorem XF (x y z:Int):fQ (λi=>[x,y,z][i]!) 0 [x,y,z].length=if x≠0 then x else if y≠0 then y else z:=by
 grind [fQ,sA]
theorem XH {x y z:Int}(h:fQ (λi=>[x,y,z][i]!) 0 [x,y,z].length=0):x=0/\y=0/\z=0:=by
 grind [XF]
theorem XG {a b:bO}(hv:¬(fT a=false\/fT b=false))(h:¬fQ (λi=>[dn a.major b.major,dn a.minor b.minor,dn a.patch b.patch][i]!) 0 [dn a.major b.major,dn a.minor b.minor,dn a.patch b.patch].length=0):
  fQ (λi=>[dn a.major b.major,dn a.minor b.minor,dn a.patch b.patch][i]!) 0 [dn a.major b.major,dn a.minor b.minor,dn a.patch b.patch].length=jm a b:=by
 grind [XF,jm]
theorem WZ {a b:bO}(hv:¬(fT a=false\/fT b=false))(h1:dn a.major b.major=0)(h2:dn a.minor b.minor=0)(h3:dn a.patch b.patch=0):jm a b=Br a.pre b.pre:=by
 grind [jm]
def acO {a b:bO}(h1:dn a.major b.major=0)(h2:dn a.minor b.minor=0)(h3:dn a.patch b.patch=0)(h4:a.pre=b.pre):si a=si b:=by
 unfold si;rw[yK.1 h1,yK.1 h2,yK.1 h3,h4]
def TU (a:bO):jm a a=0:=FN rfl
def MG (a b:bO):Bool:=fT a&&fT b&&decide (jm a b=0)
def zb {v:bO}(h:fT v=true):MG v v=true:=by simp[MG,h,TU]
def Cut.sm (c:Cut):Prop:=c.v.sm
def Span.sm (s:Span):Prop:=s.f.sm/\s.t.sm
def zX (l:List Span):=∀s∈l,s.sm
def cu.sm (s:cu):Prop:=zX s.rel/\zX s.pr
def Want.sm (w:Want):Prop:=w.s.sm
def fj.sm (c:fj):Prop:=c.v.sm/\(∀r∈c.needs,∀w∈r,w.sm)/\∀w∈c.bars,w.sm
def dz.sm (u:dz):Prop:=u.cands.length<=16/\∀c∈u.cands,c.sm
variable(us:List dz)
def cA.sm (w:cA):=∀u∈w.us,u.sm
def zV:bO:=⟨0,0,0,[],[]⟩
def pO (c:Cut):Bool:=if c.e=0 then fT c.v&&decide (c.v.build=[])else(decide (c.e=-1) ||decide (c.e=1))&&decide (c.v=zV)&& !c.a
def lg (a b:Cut):Int:=if pO a=false\/pO b=false then 0 else if a.e≠0\/b.e≠0 then dn a.e b.e else
 if jm a.v b.v≠0 then jm a.v b.v else if a.a=b.a then 0 else if b.a=true then-1 else 1
def qf (s:Span):Bool:=pO s.f&&pO s.t&&decide (lg s.f s.t<0)
def jY (c:Cut)(v:bO):Bool:=if pO c=false\/fT v=false then false else if c.e≠0 then decide (c.e<0)else decide (jm c.v v<0) ||(decide (jm c.v v=0)&& !c.a)
def sC (s:Span)(v:bO):Bool:=qf s&&fT v&&jY s.f v&& !jY s.t v
def Bv (l:List Span)(i:Nat):Bool:=qf l[i]! && !(decide (0<i)&&decide (0<=lg l[i-1]!.t l[i]!.f))
def sX (l:List Span):Bool:=bI (Bv l) 0 l.length
def o8 (f:Nat->Bool)(i n:Nat):Bool:=!bI (λi=>!f i) i n
def lR {f:Nat->Bool}{i:Nat}(h:i<n):o8 f i n=(f i ||o8 f (i+1) n):=by
 unfold o8;rw[ay h];simp
def wG {f:Nat->Bool}{i:Nat}(h:n<=i):o8 f i n=false:=by
 unfold o8;rw[bA h];rfl
def wH {f:Nat->Bool}{i:Nat}:o8 f i n=true↔∃j,i<=j/\j<n/\f j=true:=by
 unfold o8;rw[cg,<-Bool.not_eq_true,bG];simp
def v7 (l:List Span)(v:bO):Bool:=sX l&&o8 (λi=>sC l[i]! v) 0 l.length
def vL (v:bO):Bool:=decide (v.major=0)&&decide (v.minor=0)&&decide (v.patch=0)
def mO (c:Cut):Bool:=decide (c.e≠0) ||(!c.a&&decide (c.v.pre=[])&& !vL c.v)
def rR (c:Cut):Bool:=decide (c.e≠0) ||(!c.a&&decide (c.v.pre=[])&& !decide (c.v=zV))
def wc (s:cu):Bool:=sX s.rel&&sX s.pr&&bI (λi=>mO s.rel[i]!.f&&mO s.rel[i]!.t) 0 s.rel.length
def agc (s:cu):Bool:=bI (λi=>rR s.rel[i]!.f&&rR s.rel[i]!.t) 0 s.rel.length&&(sX s.rel&&sX s.pr)
def pe (s:cu)(v:bO):Bool:=wc s&&fT v&&(if v.pre=[]then v7 s.rel v else v7 s.pr v)
def Ed {c:Cut}(h:pO c=true):rR c=mO c:=by
 obtain⟨e,⟨a,b,c,p,q⟩,f⟩:=c;by_cases he:e=0
 .simp only[pO,he,bo,aK,aX]at h;obtain⟨_,rfl⟩:=h;simp only[rR,mO,vL,zV,bO.mk.injEq];by_cases h1:p=[]<;>by_cases h2:a=0<;>by_cases h3:b=0<;>by_cases h4:c=0<;>simp[h1,h2,h3,h4]
 .simp[rR,mO,he]
def aah {l:List Span}(h:sX l=true){i:Nat}(hi:i<l.length):pO l[i]!.f=true/\pO l[i]!.t=true:=by
 unfold sX at h;rw[bG]at h;have:=h i ae hi;simp only[Bv,qf,aK]at this;exact⟨this.1.1.1,this.1.1.2⟩
def aeP (s:cu):agc s=wc s:=by
 unfold agc wc;cases h:sX s.rel with
 |false=>simp
 |true=>
  have:bI (λi=>rR s.rel[i]!.f&&rR s.rel[i]!.t) 0 s.rel.length=bI (λi=>mO s.rel[i]!.f&&mO s.rel[i]!.t) 0 s.rel.length:=by
   rw[Bool.eq_iff_iff,bG,bG];constructor<;>intro g j h1 h2<;>have q:=aah h h2<;>have:=g j h1 h2<;>rw[Ed q.1,Ed q.2]at* <;>exact this
  rw[this];cases sX s.pr<;>simp
def CE:Cut:=⟨-1,zV,false⟩
def Md:Cut:=⟨1,zV,false⟩
def Hh (v:bO):Cut:=⟨0,si v,false⟩
def acy (v:bO):Cut:=⟨0,si v,true⟩
def Vo (v:bO):bO:=⟨v.major,v.minor,v.patch,[],[]⟩
def RF (v:bO)(p:Int):bO:=if p=0 then⟨v.major+1,0,0,[],[]⟩else if p=1 then⟨v.major,v.minor+1,0,[],[]⟩else⟨v.major,v.minor,v.patch+1,[],[]⟩
def RE (v:bO)(p:Int):bO×Bool:=if fT v=false\/p<0\/2<p then(zV,false)else if fT (RF v p)=false then(zV,false)else(RF v p,true)
def Sn (v:bO):Nat->bO×Bool
 |0=>(zV,false)
 |n+1=>if(RE v (n:Int)).2=true then((RE v (n:Int)).1,true)else Sn v n
def So (v:bO):bO×Bool:=if fT v=false then(zV,false)else if v.pre≠[]then(Vo v,true)else Sn v 3
def OH (v:bO):Cut:=if vL v=true then CE else Hh (Vo v)
def behC (v:bO):Cut:=if(So (Vo v)).2=false then Md else Hh (So (Vo v)).1
def Sq:cu:=⟨[],[]⟩
def QU:List Span:=[⟨CE,Md⟩]
def pH:cu:=⟨QU,QU⟩
def dG (v:bO):cu:=if fT v=false then Sq else if v.pre≠[]then⟨[],[⟨Hh v,acy v⟩]⟩else⟨[⟨OH v,behC v⟩],[]⟩
def RowS (l:List Span):Prop:=zX l/\l.length<=1000
def SetS (s:cu):Prop:=RowS s.rel/\RowS s.pr
def G4:zV.sm:=by simp[zV,bO.sm]
def yT:CE.sm:=G4
def C6:Md.sm:=G4
def BH {v:bO}(h:v.sm):(si v).sm:=⟨h.1,by simp[si]⟩
def SL (v:bO):(Vo v).sm:=by simp[Vo,bO.sm]
def WQ (v:bO)(p:Int):(RF v p).sm:=by unfold RF;split<;>(try split)<;>simp[bO.sm]
def WO (v:bO)(p:Int):(RE v p).1.sm:=by unfold RE;split<;>(try split)<;>first|exact G4|exact WQ v p
def MA (v:bO):∀n,(Sn v n).1.sm
 |0=>G4
 |n+1=>by
  rw[Sn];split
  .exact WO v _
  .exact MA v n
def YQ (v:bO):(So v).1.sm:=by
 unfold So;repeat' split
 all_goals first|exact G4|exact SL v|exact MA v _
def HV:zX []:=λ_ h=>by cases h
def TK (v:bO):(OH v).sm:=by
 unfold OH;split
 .exact yT
 .exact BH (SL v)
def acx (v:bO):(behC v).sm:=by
 unfold behC;split
 .exact C6
 .exact BH (YQ _)
def FQ {v:bO}(h:v.sm):(dG v).sm:=by
 unfold dG;split
 .exact⟨HV,HV⟩
 .split
  .exact⟨HV,λx hx=>by obtain rfl:=aJ.1 hx;exact⟨BH h,BH h⟩⟩
  .exact⟨λx hx=>by obtain rfl:=aJ.1 hx;exact⟨TK v,acx v⟩,HV⟩
def aco:pH.sm:=⟨λx hx=>by obtain rfl:=aJ.1 hx;exact⟨yT,C6⟩,λx hx=>by obtain rfl:=aJ.1 hx;exact⟨yT,C6⟩⟩
structure Key where
 n:av
 f:av
 deriving Inhabited
def Key.D (k:Key):D:=.agg [.str k.n,.str k.f]
def td (n:Int)(w:Want):Bool:=decide (0<w.u)&&decide (w.u<n)&&wc w.s
def py (n:Int)(l:List Want):Bool:=bI (λi=>td n l[i]!) 0 l.length
def rQ (n:Int)(l:List Want):Bool:=py n l&&(decide (0<l.length)&&decide (l.length<=24))
def mU (n:Int)(c:fj):Bool:=decide (c.needs.length<=24)&&decide (c.bars.length<=24)&&bI (λi=>rQ n c.needs[i]!) 0 c.needs.length&&py n c.bars
def H5 (a b:Key):Int:=if pN a.n b.n≠0 then pN a.n b.n else pN a.f b.f
def jF (a b:dz):Bool:=Op.bytesLess a.name b.name ||(decide (a.name=b.name)&&Op.bytesLess a.feat b.feat)
def nN (n:Int)(cs:List fj)(k:Nat):Bool:=fT cs[k]!.v&&mU n cs[k]! && !(decide (0<k)&&decide (0<=jm cs[k-1]!.v cs[k]!.v))
def mE (i:Nat):Bool:=!(decide (0<i)&&decide (us[i]!.name=[]))&& !(decide (1<i)&& !jF us[i-1]! us[i]!)&&decide (us[i]!.cands.length<=16)&&bI (nN us.length us[i]!.cands) 0 us[i]!.cands.length
def Al:Bool:=decide (us[0]!.name=[])&&decide (us[0]!.feat=[])&&decide (us[0]!.cands.length=1)
def hR (w:cA):Bool:=decide (1<=w.us.length)&&decide (w.us.length<=48)&&Al w.us&&bI (mE w.us) 0 w.us.length
def sZ (i:Nat):Bool:=mE us i&& !(decide (i=0)&& !Al us)
theorem mq (a:av):Op.bytesLess a a=false:=by
 induction a with
 |nil=>rfl
 |cons x r ih=>unfold Op.bytesLess;simp[ih]
def UQ (a b:dz):decide (0<=H5 ⟨a.name,a.feat⟩ ⟨b.name,b.feat⟩)=!jF a b:=by
 unfold H5 jF pN;have h:=mq b.name;by_cases h1:Op.bytesLess a.name b.name=true<;>by_cases h2:a.name=b.name<;>by_cases h3:Op.bytesLess a.feat b.feat=true<;>by_cases h4:a.feat=b.feat<;>simp_all
def EA (w:cA):hR w=(decide (1<=w.us.length)&&decide (w.us.length<=48)&&bI (sZ w.us) 0 w.us.length):=by
 unfold hR;by_cases h:1<=w.us.length
 .have:bI (sZ w.us) 0 w.us.length=(Al w.us&&bI (mE w.us) 0 w.us.length):=by
   rw[Bool.eq_iff_iff,aK,bG,bG];simp only[sZ,aK,cg,ew,b8];constructor
   .intro g;have h0:=(g 0 ae ae).2;exact⟨by rcases h0 with h0|h0;exact absurd rfl h0;simpa using h0,λj h1 h2=>(g j h1 h2).1⟩
   .rintro⟨g1,g2⟩ j h1 h2;exact⟨g2 j h1 h2,.inr (by simpa using g1)⟩
  rw[this];simp only[Bool.and_assoc]
 .simp[h]
def iCut (a b:Cut):Cut.D a=Cut.D b↔a=b:=by
 obtain⟨e,⟨v1,v2,v3,v4,v5⟩,x⟩:=a;obtain⟨e',⟨w1,w2,w3,w4,w5⟩,x'⟩:=b;simp[Cut.D,and_assoc]
def afS (a b:List Cut):a.map Cut.D=b.map Cut.D↔a=b:=kO iCut a b
def X4 (a b:Span):Span.D a=Span.D b↔a=b:=by
 obtain⟨⟨e,⟨v1,v2,v3,v4,v5⟩,x⟩,⟨f,⟨u1,u2,u3,u4,u5⟩,y⟩⟩:=a;obtain⟨⟨e',⟨w1,w2,w3,w4,w5⟩,x'⟩,⟨f',⟨t1,t2,t3,t4,t5⟩,y'⟩⟩:=b;simp[Span.D,and_assoc]
def CY (a b:List Span):a.map Span.D=b.map Span.D↔a=b:=kO X4 a b
def iSet (a b:cu):cu.D a=cu.D b↔a=b:=by cases a;cases b;simp[cu.D,CY]
def X7 (a b:Want):Want.D a=Want.D b↔a=b:=by
 obtain⟨u,⟨x,y⟩⟩:=a;obtain⟨u',⟨x',y'⟩⟩:=b;simp[Want.D,CY]
def HB (a b:List Want):a.map Want.D=b.map Want.D↔a=b:=kO X7 a b
def X9 (a b:nM):jC a=jC b↔a=b:=by simp[jC,HB]
def Pc (a b:List nM):a.map jC=b.map jC↔a=b:=kO X9 a b
def iCnd (a b:fj):fj.D a=fj.D b↔a=b:=by
 obtain⟨⟨v1,v2,v3,v4,v5⟩,s,x,y⟩:=a;obtain⟨⟨w1,w2,w3,w4,w5⟩,s',x',y'⟩:=b;simp[fj.D,Pc,HB,and_assoc]
def XV (a b:List fj):a.map fj.D=b.map fj.D↔a=b:=kO iCnd a b
def iUnt (a b:dz):dz.D a=dz.D b↔a=b:=by cases a;cases b;simp[dz.D,XV]
def X6 (a b:List dz):a.map dz.D=b.map dz.D↔a=b:=kO iUnt a b
def iWld (a b:cA):cA.D a=cA.D b↔a=b:=by cases a;cases b;simp[cA.D,X6]
def iTrm (a b:ec):ec.D a=ec.D b↔a=b:=by cases a;cases b;simp[ec.D]
def afX (a b:List ec):a.map ec.D=b.map ec.D↔a=b:=kO iTrm a b
def iKey (a b:Key):Key.D a=Key.D b↔a=b:=by cases a;cases b;simp[Key.D]
def iGs (a b:Gs):Gs.D a=Gs.D b↔a=b:=by cases a;cases b;simp[Gs.D,Uf]
structure c9 where
 name:av
 range:av
 feats:List av
 bare:Bool
 deriving Inhabited,DecidableEq
def c9.D (x:c9):D:=.agg [.str x.name,.str x.range,.sl 1 (x.feats.map D.str),.bool x.bare]
structure bp where
 any:List c9
 when':av
 option:av
 deriving Inhabited,DecidableEq
def bp.D (x:bp):D:=.agg [.sl 4 (x.any.map c9.D),.str x.when',.str x.option]
structure mF where
 name:av
 range:av
 when':av
 deriving Inhabited,DecidableEq
def mF.D (x:mF):D:=.agg [.str x.name,.str x.range,.str x.when']
structure bY where
 name:av
 of:List av
 deriving Inhabited,DecidableEq
def bY.D (x:bY):D:=.agg [.str x.name,.sl 1 (x.of.map D.str)]
structure Rec where
 name:av
 v:bO
 needs:List bp
 bars:List mF
 feats:List bY
 deriving Inhabited,DecidableEq
def Rec.D (x:Rec):D:=.agg [.str x.name,.int .i64 x.v.major,.int .i64 x.v.minor,.int .i64 x.v.patch,.str x.v.pre,.str x.v.build,.sl 3 (x.needs.map bp.D),.sl 3 (x.bars.map mF.D),.sl 2 (x.feats.map bY.D)]
structure Cmp where
 op:Int
 parts:Int
 v:bO
 deriving Inhabited,DecidableEq
def Cmp.D (x:Cmp):D:=.agg [.int .i64 x.op,.int .i64 x.parts,.int .i64 x.v.major,.int .i64 x.v.minor,.int .i64 x.v.patch,.str x.v.pre,.str x.v.build]
structure Nd where
 op:Int
 a:Int
 b:Int
 key:Int
 text:av
 deriving Inhabited,DecidableEq
def Nd.D (x:Nd):D:=.agg [.int .i64 x.op,.int .i64 x.a,.int .i64 x.b,.int .i64 x.key,.str x.text]
theorem mF.eq (a b:mF):gU (mF.D a).cells (mF.D b).cells=decide (a=b):=by
 obtain⟨a1,a2,a3⟩:=a;obtain⟨b1,b2,b3⟩:=b
 grind [mF.D,D.cells,gU,tt]
theorem c9.same {a b:c9}(e1:a.name=b.name)(e2:a.range=b.range)(e3:a.bare=b.bare):decide (a=b)=decide (a.feats=b.feats):=by
 obtain⟨a1,a2,a3,a4⟩:=a;obtain⟨b1,b2,b3,b4⟩:=b
 grind
def rising:Bool:=bI (λi=>Op.bytesLess l[i-1]! l[i]!) 1 l.length
def bK (s:av):Int×av×av:=
 if gC s=true then(1,s,[])
 else if s.length>0/\at8 s 0=63/\gC (s.drop 1)=true then(2,s.drop 1,[])
 else if(aQ s 47).length=2/\dc (aQ s 47)[0]! =true/\gC (aQ s 47)[1]! =true then(3,(aQ s 47)[0]!,(aQ s 47)[1]!)
 else(0,[],[])
def findF (l:List bY)(nm:av)(i:Nat):Int:=match(l.drop i).findIdx? (λx=>decide (x.name=nm))with
 |some k=>((i+k:Nat):Int)
 |none=>-1
theorem XB {l:List bY}{i:Nat}(h:i<l.length)(he:l[i]!.name=nm):findF l nm i=(i:Nat):=by
 unfold findF;rw[fh h,List.findIdx?_cons]
 grind
theorem XC {l:List bY}{i:Nat}(h:i<l.length)(he:¬l[i]!.name=nm):findF l nm i=findF l nm (i+1):=by
 unfold findF;have:¬l[i].name=nm:=by simpa[h]using he
 rw[fh h,List.findIdx?_cons]
 grind
def T1 {l:List bY}{i:Nat}(h:l.length<=i):findF l nm i=-1:=by
 unfold findF;rw[j7 h];rfl
def ll:av:=[100,101,102,97,117,108,116]
def isF (l:List bY)(nm:av):Bool:=decide (nm=ll) ||decide (0<=findF l nm 0)
def ajL (l:List bY)(s:av):Bool:=!(decide ((bK s).1=0) ||(decide ((bK s).1=1)&& !isF l (bK s).2.1))
def Ye (l:List bY)(of:List av):Bool:=decide (of.length<=6)&&rising of&&bI (λi=>ajL l of[i]!) 0 of.length
def Xu (l:List bY)(i:Nat):Bool:=gC l[i]!.name&& !(decide (0<i)&& !Op.bytesLess l[i-1]!.name l[i]!.name)&&Ye l l[i]!.of
def ep (l:List bY):Bool:=decide (l.length<=8)&&bI (Xu l) 0 l.length
def bY.sm (x:bY):Prop:=x.name.length<=1048576/\x.of.length<=1048576/\∀t∈x.of,t.length<=1048576
def ofL:List (List av):=[[],[[63,111]],[[97,110,116,47,102]],[[98,101,101,47,102]],[[99,111,119,47,102]],[[100,111,103,47,102]],[[63,111],[97,110,116,47,102]],[[63,111],[98,101,101,47,102]],[[63,111],[99,111,119,47,102]],[[63,111],[100,111,103,47,102]]]
def Cv:List (List bY):=[]::ofL.map λo=>[⟨[102],o⟩]
def jn (l:List bY):Prop:=l∈Cv
theorem F4 (b:av):∀(l:List av) (i:Nat),(b6 b (l.take i)).length<=(b6 b l).length
 |[],i=>aF
 |[t],0=>by simp[b6]
 |[t],i+1=>aF
 |t::u::r,0=>by simp[b6]
 |t::u::r,1=>by simp[b6]
 |t::u::r,i+2=>by
  have:=F4 b (u::r) (i+1)
  grind [b6]
theorem C3 (b t:av):∀(l:List av),l≠[]->b6 b (l++[t])=b6 b l++b++t
 |[],h=>absurd rfl h
 |[u],_=>by simp[b6]
 |u::v::r,_=>by
  have:=C3 b t (v::r) aF
  grind [b6]
theorem C4 (b:av)(l:List av)(i:Nat)(h:i<l.length):b6 b (l.take (i+1))=(if 0<i then b6 b (l.take i)++b else [])++l[i]! :=by
 have e:l.take (i+1)=l.take i++[l[i]!]:=by
  rw[List.take_add_one,List.getElem?_eq_getElem h];simp[h]
 rw[e];by_cases h0:0<i
 .rw[ak h0,C3 _ _ _ (by intro hn;have:=ar List.length hn;simp only[ey,b7]at this;omega)]
 grind [b6]
def jh:av->av->List av
 |[],cur=>[cur]
 |[c],cur=>[cur++[c]]
 |c::d::r,cur=>if c=124/\d=124 then cur::jh r []else jh (d::r) (cur++[c])
def zZ:av->av
 |[]=>[]
 |c::r=>if c=32 then zZ r else c::r
def Cl (s:av):av:=(zZ (zZ s).reverse).reverse
def j4:List av:=[[42],[94,49,46,48,46,48],[61,49,46,50,46,48],[62,61,49,46,50,46,48],[60,50,46,48,46,48],[94,50,46,48,46,48,45,97,46,49],[61,49,46,48,46,48,32,124,124,32,61,50,46,48,46,48],[33,61,49,46,50,46,48]]
def Mw:List av:=[[],[111,115,32,61,32,108,105,110,117,120],[111,115,32,33,61,32,108,105,110,117,120]]
def Uj:List av:=[[63,111],[97,110,116,47,102],[98,101,101,47,102],[99,111,119,47,102],[100,111,103,47,102]]
def qW (s:av):Bool:=j4.contains s
def xm (s:av):Bool:=Mw.contains s
def kj (s:av):Prop:=s∈j4
def oR (s:av):Prop:=s∈Mw
def rK (s:av):Prop:=s∈Uj
def kj.len {s:av}(h:kj s):s.length<=1048576:=by
 have:∀s∈j4,s.length<=1048576:=a7
 exact this s h
def oR.len {s:av}(h:oR s):s.length<=1048576:=by
 have:∀s∈Mw,s.length<=1048576:=a7
 exact this s h
def rK.len {s:av}(h:rK s):s.length<=1048576:=by
 have:∀s∈Uj,s.length<=1048576:=a7
 exact this s h
theorem jn.sm {l:List bY}(h:jn l):∀x∈l,x.sm:=by
 have:∀l∈Cv,∀x∈l,x.name.length<=1048576/\x.of.length<=1048576/\∀t∈x.of,t.length<=1048576:=a7
 exact this l h
def jn.it {l:List bY}(h:jn l):∀x∈l,∀s∈x.of,rK s:=by
 have:∀l∈Cv,∀x∈l,∀s∈x.of,s∈Uj:=a7
 exact this l h
def qH (f:Nat->Int):Nat->Nat->Int×Int
 |_,0=>(0,0)
 |i,k+1=>if f i=0 then qH f (i+1) k else(f i,((i:Nat):Int))
def gE (f:Nat->Int)(i n:Nat):Int×Int:=qH f i (n-i)
theorem ke {i:Nat}(h:i<n)(hf:f i=0):gE f i n=gE f (i+1) n:=by
 unfold gE;obtain⟨k,hk⟩:∃k,n-i=k+1:=⟨n-i-1,ae⟩
 grind [qH]
def gF {i:Nat}(h:i<n)(hf:f i≠0):gE f i n=(f i,((i:Nat):Int)):=by
 unfold gE;obtain⟨k,hk⟩:∃k,n-i=k+1:=⟨n-i-1,ae⟩
 rw[hk];simp only[qH,hf,a8]
def kd {i:Nat}(h:n<=i):gE f i n=(0,0):=by
 unfold gE;rw[show n-i=0 by omega];rfl
def gB (r:Rec)(name rng:av):Int:=if dc name=false then 4 else if name=r.name then 8 else if qW rng=false then 6 else 0
def wfB (i:Nat):Bool:=gC l[i]! && !(decide (0<i)&& !Op.bytesLess l[i-1]! l[i]!)
def nD (alone:Bool):Bool:=(decide (l.length<=6)&&(alone ||decide (l.length=0)))&&bI (wfB l) 0 l.length
def lB (r:Rec)(w:c9)(alone:Bool):Int:=if gB r w.name w.range≠0 then gB r w.name w.range else if nD w.feats alone=false then 11 else 0
def nE (r:Rec)(l:List c9):Int:=fQ (λi=>lB r l[i]! (decide ((l.length:Int)=1))) 0 l.length
def jy (r:Rec)(n:bp):Int:=if n.any.length=0 then 9 else if 3<n.any.length then 3 else if nE r n.any≠0 then nE r n.any else
 if xm n.when'=false then 7 else if n.option≠[]/\gC n.option=false then 14 else 0
def sb (r:Rec)(b:mF):Int:=if gB r b.name b.range≠0 then gB r b.name b.range else if xm b.when'=false then 7 else 0
def Y8 (l:List bp)(x:av):Bool:=l.any λn=>decide (n.option=x)
def MZ (l:List bp)(x:av):Bool:=l.any λn=>decide (n.any.length=1)&&decide (n.any[0]!.name=x)
def nW (r:Rec)(s:av):Int:=if(bK s).1=2/\Y8 r.needs (bK s).2.1=false then 14 else if(bK s).1=3/\MZ r.needs (bK s).2.1=false then 16 else 0
def mI (r:Rec)(of:List av):Int:=fQ (λi=>nW r of[i]!) 0 of.length
def lH (r:Rec):Int×Int:=gE (λi=>jy r r.needs[i]!) 0 r.needs.length
def uQ (r:Rec):Int×Int:=gE (λi=>sb r r.bars[i]!) 0 r.bars.length
def Hr (r:Rec):Int×Int:=gE (λi=>mI r r.feats[i]!.of) 0 r.feats.length
def er (r:Rec):Int×Int:=if(lH r).1≠0 then lH r else if(uQ r).1≠0 then uQ r else if ep r.feats=false then(11,0)else Hr r
theorem aaP (n:Nat)(al:Bool):(decide ((6:Int)<(n:Nat)) ||(decide ((0:Int)<(n:Nat))&& !al))=!(decide (n<=6)&&(al ||decide (n=0))):=by
 grind
theorem wf_c (i:Nat):(!gC l[i]! ||(decide ((0:Int)<(i:Nat))&& !Op.bytesLess l[i-1]! l[i]!))=!wfB l i:=by
 unfold wfB
 grind
theorem wf_2 (al:Bool):(bI (λi=>gC l[i]!) 0 l.length&&((decide (l.length<=6)&&rising l)&&(al ||decide (l.length=0))))=nD l al:=by
 grind [bI,wfB,gC,rising,bG,nD]
def itC (k:Int)(x:av)(n:bp):Bool:=(decide (k=2)&&decide (n.option=x)) ||((decide (k=3)&&decide ((n.any.length:Int)=1))&&decide (n.any[0]!.name=x))
def itE (k:Int):Int:=if k=2 then 14 else if k=3 then 16 else 0
theorem Yd (r:Rec)(s:av):nW r s=if r.needs.any (itC (bK s).1 (bK s).2.1)=true then 0 else itE (bK s).1:=by
 grind [nW,itE,Y8,MZ,bK,itC]
theorem wJ [Inhabited α]{c:α->Bool}{l:List α}{i:Nat}(h:i<l.length)(hc:c l[i]! =true):(l.drop i).any c=true:=by
 rw[fh h,List.any_cons]
 grind
theorem Cf [Inhabited α]{c:α->Bool}{l:List α}{i:Nat}(h:i<l.length)(hc:c l[i]! =false):(l.drop i).any c=(l.drop (i+1)).any c:=by
 rw[fh h,List.any_cons]
 grind
def wI {c:α->Bool}{l:List α}{i:Nat}(h:l.length<=i):(l.drop i).any c=false:=by
 rw[j7 h];rfl
def GW:av:=[110,101,101,100]
def rZ:av:=[97,110,121]
def yq:av:=[119,104,101,110]
def nC:av:=[111,112,116,105,111,110]
def zH:av:=[98,97,114]
def jR:av:=[102,101,97,116,117,114,101]
def qj:av:=[112,97,99,107,97,103,101]
def rV:av:=[102,117,108,108]
def rU:av:=[98,97,114,101]
def cr:av:=b6 [32] l++[10]
def te (w:c9):List av:=[rZ,w.name,if w.feats.length=0 then [45]else b6 [44] w.feats,if w.bare=true then rU else rV,w.range]
def ko (s:av):av:=if s=[]then []else cr [yq,s]
def xD (s:av):av:=if s=[]then []else cr [nC,s]
def Au (n:bp):av:=cr [GW]++(n.any.map λw=>cr (te w)).flatten++ko n.when'++xD n.option
def Hf (b:mF):av:=cr [zH,b.name,b.range]++ko b.when'
def wY (f:bY):av:=cr ([jR,f.name]++f.of)
def uX (r:Rec):av:=cr [qj,r.name,oq r.v]
def Er (r:Rec):av:=uX r++(r.needs.map Au).flatten++(r.bars.map Hf).flatten++(r.feats.map wY).flatten
def cV (r:Rec):Int×Int:=if dc r.name=false then(4,0)else if fT r.v=false then(5,0)else if 8<r.needs.length\/8<r.bars.length then(3,0)else
 if(er r).1≠0 then er r else if 4096<(Er r).length then(3,0)else(0,0)
def fC (r:Rec):av×Int:=if(cV r).1≠0 then([],(cV r).1)else(Er r,0)
def c9.sm (w:c9):Prop:=(w.name.length<=1048576/\kj w.range)/\∀t∈w.feats,t.length<=1048576
def bp.sm (n:bp):Prop:=(∀w∈n.any,w.sm)/\oR n.when'/\n.option.length<=1048576
def mF.sm (b:mF):Prop:=b.name.length<=1048576/\kj b.range/\oR b.when'
def iq (r:Rec):Prop:=(r.name.length<=1048576/\r.v.sm)/\(∀n∈r.needs,n.sm)/\(∀b∈r.bars,b.sm)/\jn r.feats
theorem MT {r:Rec}{e:Int×Int}(h:lH r=e)(hn:e.1≠0):er r=e:=by grind [er]
theorem Du {r:Rec}{e:Int×Int}(h0:lH r=(0,0))(h:uQ r=e)(hn:e.1≠0):er r=e:=by grind [er]
theorem MU {r:Rec}(h0:lH r=(0,0))(h1:uQ r=(0,0))(h:ep r.feats=false):er r=(11,0):=by grind [er]
theorem xG {r:Rec}{e:Int×Int}(h0:lH r=(0,0))(h1:uQ r=(0,0))(h:ep r.feats=true)(h2:Hr r=e):er r=e:=by grind [er]
def CJ (f:Nat->Int):∀(k i:Nat),(qH f i k).1=0->qH f i k=(0,0)
 |0,_,_=>rfl
 |k+1,i,h=>by
  simp only[qH]at h⊢;by_cases hf:f i=0
  .rw[ak hf]at h⊢;exact CJ f k (i+1) h
  .rw[ai hf]at h;exact absurd h hf
def MV {r:Rec}(h:(er r).1=0):er r=(0,0):=by
 unfold er at h⊢;split
 .rename_i h1;rw[ak h1]at h;exact absurd h h1
 .rename_i h1;rw[ai h1]at h;split
  .rename_i h2;rw[ak h2]at h;exact absurd h h2
  .rename_i h2;rw[ai h2]at h;split
   .rename_i h3;rw[ak h3]at h;cases h
   .rename_i h3;rw[ai h3]at h;exact CJ _ _ _ h
theorem pM {r:Rec}{e:Int×Int}(h0:dc r.name=true)(h1:fT r.v=true)(h2:¬8<r.needs.length)(h3:¬8<r.bars.length)(hp:er r=e)(hn:e.1≠0):cV r=e:=by
 grind [cV]
theorem wP {r:Rec}(h0:dc r.name=true)(h1:fT r.v=true)(h2:¬8<r.needs.length)(h3:¬8<r.bars.length)(hp:er r=(0,0)):cV r=if 4096<(Er r).length then(3,0)else(0,0):=by
 grind [cV]
def FY (r:Rec):Prop:=(dc r.name=true/\fT r.v=true)/\(r.needs.length<=8/\r.bars.length<=8)/\er r=(0,0)
def CH {f:Nat->Int}:∀{k i:Nat},sA f i k=0->∀j,i<=j->j<i+k->f j=0
 |0,i,_,j,h1,h2=>absurd h2 ae
 |k+1,i,h,j,h1,h2=>by
  simp only[sA]at h;by_cases hf:f i=0
  .rw[ak hf]at h;by_cases hj:j=i
   .rw[hj];exact hf
   .exact CH h j ae ae
  .rw[ai hf]at h;exact absurd h hf
def CF (h:fQ f 0 n=0)(j:Nat)(hj:j<n):f j=0:=CH h j ae ae
def CI {f:Nat->Int}:∀{k i:Nat},(qH f i k).1=0->∀j,i<=j->j<i+k->f j=0
 |0,i,_,j,h1,h2=>absurd h2 ae
 |k+1,i,h,j,h1,h2=>by
  simp only[qH]at h;by_cases hf:f i=0
  .rw[ak hf]at h;by_cases hj:j=i
   .rw[hj];exact hf
   .exact CI h j ae ae
  .rw[ai hf]at h;exact absurd h hf
def qG (h:(gE f 0 n).1=0)(j:Nat)(hj:j<n):f j=0:=CI h j ae ae
def c9.fit (w:c9):Prop:=w.sm/\(w.feats.length<=6/\∀t∈w.feats,t.length<=12)
def bp.fit (n:bp):Prop:=(n.any.length<=3/\∀w∈n.any,w.fit)/\n.when'.length<=1048576/\n.option.length<=1048576
def bY.fit (x:bY):Prop:=x.sm/\x.of.length<=6
structure Rec.fit (r:Rec):Prop where
 nm:r.name.length<=1048576
 v:r.v.sm
 ns:r.needs.length<=8
 n:∀x∈r.needs,x.fit
 bs:r.bars.length<=8
 b:∀x∈r.bars,x.sm
 fs:r.feats.length<=8
 f:∀x∈r.feats,x.fit
variable{r:Rec}
theorem fS [Inhabited α]{l:List α}{x:α}(h:x∈l):∃i,i<l.length/\l[i]! =x:=by
 obtain⟨i,hi,e⟩:=List.mem_iff_getElem.1 h;exact⟨i,hi,by rw[<-e];simp[hi]⟩
theorem aaQ {w:c9}{al:Bool}(h:lB r w al=0)(hs:w.sm):w.fit:=by
 refine⟨hs, ?_⟩
 grind [lB,nD,bG,fS,wfB,gC]
def YN {n:bp}(h:jy r n=0)(hs:n.sm):n.fit:=by
 unfold jy at h;split at h
 .cases h
 split at h
 .cases h
 rename_i h1 h2;split at h
 .rename_i h3;exact absurd h h3
 rename_i h3;refine⟨⟨ae,λw hw=>?_⟩,hs.2.1.len,hs.2.2⟩;obtain⟨i,hi,rfl⟩:=fS hw;exact aaQ (CF (Classical.not_not.1 h3) i hi) (hs.1 _ hw)
theorem tx (h:FY r/\iq r):r.fit:=by
 obtain⟨⟨_,⟨h1,h2⟩,hp⟩,⟨s1,s2⟩,s3,s4,s5⟩:=h;have h0:(lH r).1=0/\ep r.feats=true:=by
  grind [er]
 obtain⟨h3,h4⟩:=h0;simp only[ep,aK,aX,bG]at h4;refine⟨s1,s2,h1,λx hx=>?_,h2,s4,h4.1,λx hx=>⟨s5.sm x hx, ?_⟩⟩
 .obtain⟨i,hi,rfl⟩:=fS hx;exact YN (qG h3 i hi) (s3 _ hx)
 grind [fS,Xu,Ye]
def pV (x:UInt8)(B:Nat):∀l:List av,(∀t∈l,t.length<=B)->(b6 [x] l).length<=l.length*(B+1)
 |[],_=>by simp[b6]
 |[t],h=>by have:=h t (.head _);simp only[b6,bH,b7];omega
 |t::u::r,h=>by
  have h1:=h t (.head _);have h2:=pV x B (u::r) λy hy=>h y (.tail _ hy)
  simp only[b6,bV,bH,b7,Nat.succ_mul]at h2⊢;omega
def Ez {w:c9}(h:w.fit):(b6 [44] w.feats).length<=6291462:=by
 have h1:=pV 44 1048576 w.feats h.1.2;have h2:=fL (1048576+1) h.2.1;omega
def IW {w:c9}(h:w.fit):(b6 [44] w.feats).length<=78:=by
 have h1:=pV 44 12 w.feats h.2.2;have h2:=fL (12+1) h.2.1;omega
def jS (w:c9):av:=cr (te w)
theorem zI {w:c9}(h:w.fit):(jS w).length<=8400000:=by
 have h1:=Ez h;have h2:=And.intro h.1.1.1 h.1.1.2.len;simp only[jS,cr,te,b6,bV,bH,b7]
 grind [rZ,rU,rV]
def nK {s:av}(h:s.length<=1048576):(ko s).length<=1048590:=by
 unfold ko;split
 .simp
 .simp only[cr,b6,yq,bV,bH,b7];omega
def Zc {s:av}(h:s.length<=1048576):(xD s).length<=1048590:=by
 unfold xD;split
 .simp
 .simp only[cr,b6,nC,bV,bH,b7];omega
def xa (q:α->av)(B:Nat){l:List α}(h:∀x∈l,(q x).length<=B)(i:Nat):(((l.take i).map q).flatten).length<=i*B:=by
 have h1:=mg q B (l.take i) λx hx=>h x (zQ hx)
 have h2:=fL B (List.length_take_le i l);omega
theorem tu [Inhabited α](q:α->av){l:List α}{i:Nat}(h:i<l.length):((l.take (i+1)).map q).flatten=((l.take i).map q).flatten++q l[i]! :=by
 rw[List.take_add_one,List.getElem?_eq_getElem h,List.map_append,List.flatten_append];simp[h]
theorem UE {n:bp}(h:n.fit):(Au n).length<=27400000:=by
 have h1:=mg jS 8400000 n.any λw hw=>zI (h.1.2 w hw)
 have h2:=fL 8400000 h.1.1;have h3:=nK h.2.1;have h4:=Zc h.2.2;have h5:(cr [GW]).length=5:=rfl;unfold jS at h1
 grind [Au]
def WI {b:mF}(h:b.sm):(Hf b).length<=3145800:=by
 have h1:=nK h.2.2.len;have h2:=h.1;have h3:=h.2.1.len;simp only[Hf,cr,b6,zH,bV,bH,b7];omega
theorem FR {x:bY}(h:x.fit):(wY x).length<=8400000:=by
 have h1:=pV 32 1048576 ([jR,x.name]++x.of) (by
  intro t ht;simp only[rv,pA,bU]at ht;rcases ht with rfl|rfl|ht
  .simp[jR]
  .exact h.1.1
  .exact h.1.2.2 _ ht)
 have h2:=h.2
 grind [jR,wY,cr]
def Ue (h1:r.name.length<=1048576)(h2:r.v.sm):(uX r).length<=3145800:=by
 have h3:=ta r.v h2;simp only[uX,cr,b6,qj,bV,bH,b7];omega
def dQ (n:bp)(j:Nat):av:=cr [GW]++((n.any.take j).map jS).flatten
theorem n8 {n:bp}{j:Nat}(h:j<n.any.length):dQ n (j+1)=dQ n j++jS n.any[j]! :=by grind [dQ,tu,jS]
def za {n:bp}{j:Nat}(h:n.any.length<=j):Au n=dQ n j++ko n.when'++xD n.option:=by
 rw[dQ,fE h];rfl
theorem Gd {n:bp}(h:n.fit)(j:Nat)(hj:j<=3):(dQ n j).length<=25200005:=by
 have h1:=xa jS 8400000 (λw hw=>zI (h.1.2 w hw)) j;have h2:=fL 8400000 hj;have h5:(cr [GW]).length=5:=rfl
 grind [dQ]
def kA (r:Rec)(i:Nat):av:=uX r++((r.needs.take i).map Au).flatten
def Et (r:Rec)(i:Nat):av:=kA r r.needs.length++((r.bars.take i).map Hf).flatten
def GU (r:Rec)(i:Nat):av:=Et r r.bars.length++((r.feats.take i).map wY).flatten
def aaz (r:Rec):kA r 0=uX r:=by simp[kA]
def aaA (r:Rec):Et r 0=kA r r.needs.length:=by simp[Et]
def aaB (r:Rec):GU r 0=Et r r.bars.length:=by simp[GU]
theorem IQ (r:Rec):GU r r.feats.length=Er r:=by grind [GU,Et,kA,Er]
theorem mD {i:Nat}(h:i<r.needs.length):kA r (i+1)=kA r i++Au r.needs[i]! :=by grind [kA,tu,Au]
theorem N9 {i:Nat}(h:i<r.bars.length):Et r (i+1)=Et r i++Hf r.bars[i]! :=by grind [Et,tu,Hf]
theorem Oa {i:Nat}(h:i<r.feats.length):GU r (i+1)=GU r i++wY r.feats[i]! :=by grind [GU,tu,wY]
def IN (h:r.fit)(i:Nat)(hi:i<=r.needs.length):(kA r i).length<=222400000:=by
 have a0:=Ue h.nm h.v;have a1:=xa Au 27400000 (λx hx=>UE (h.n x hx)) i;have b1:=fL 27400000 (dN hi h.ns);simp only[kA,bV];omega
def IP (h:r.fit)(i:Nat)(hi:i<=r.bars.length):(Et r i).length<=247600000:=by
 have a0:=IN h r.needs.length (aT _);have a1:=xa Hf 3145800 (λx hx=>WI (h.b x hx)) i;have b1:=fL 3145800 (dN hi h.bs);simp only[Et,bV];omega
def S6 (h:r.fit)(i:Nat)(hi:i<=r.feats.length):(GU r i).length<=314800000:=by
 have a0:=IP h r.bars.length (aT _);have a1:=xa wY 8400000 (λx hx=>FR (h.f x hx)) i;have b1:=fL 8400000 (dN hi h.fs);simp only[GU,bV];omega
theorem ma (h:(cV r).1=0):FY r:=by
 unfold cV at h;split at h
 .cases h
 split at h
 .cases h
 split at h
 .cases h
 rename_i a b c;split at h
 .rename_i d;exact absurd h d
 rename_i d;exact⟨⟨by simpa using a,by simpa using b⟩,⟨ae,ae⟩,MV (Classical.not_not.1 d)⟩
def wj (r:Rec):Int:=if(fC r).2≠0 then 0 else En (fC r).1
def uO (m:List (Nat×bm))(l:Nat)(t:List UInt8):Prop:=(∃u,look m l=some (.bld none 0 u)/\t=[])\/(∃l2 u,look m l=some (.bld (some l2) t.length u)/\look m l2=some (.row t))
@[go_sem] def fX (m:List (Nat×bm))(l:Nat):List (Nat×bm):=match look m l with
 |some (.bld (some l2) _ _)=>dd m l2
 |_=>m
@[go_sem] def se (m:List (Nat×bm))(l L:Nat)(t:List UInt8):List (Nat×bm):=(L,.row t)::dh (fX m l) l (.bld (some L) t.length true)
def TrW (aFY:D)(s:List UInt8)(ds:List D)(st:St)(K:D->St->Prop):=∃l t,ds=[.ptr l 2 0 0,aFY]/\uO st.m l t/\l<st.nx/\s≠[]/\t.length+s.length<=1099511627776/\K .any ⟨st.nx+1,se st.m l st.nx (t++s)⟩
def trWS (ds:List D)(st:St)(K:D->St->Prop):=∃s,TrW (.str s) s ds st K
def trWB (ds:List D)(st:St)(K:D->St->Prop):=∃c,TrW (.int .u8 c.toNat) [c] ds st K
def trBS (ds:List D)(st:St)(K:D->St->Prop):=∃l t,ds=[.ptr l 2 0 0]/\uO st.m l t/\t≠[]/\K (.str t) ⟨st.nx,dd (fX st.m l) l⟩
def C489:=∀(ds:List D) (st:St) (K:D->St->Prop),trWS ds st K->Z.tr 489 ds st K
def C664:=∀(ds:List D) (st:St) (K:D->St->Prop),trWB ds st K->Z.tr 664 ds st K
def C452:=∀(ds:List D) (st:St) (K:D->St->Prop),trBS ds st K->Z.tr 452 ds st K
def Uk (b a:av)(l:List av)(h:a≠[]):b6 b (a::l)≠[]:=by
 match l with
 |[]=>exact h
 |c::r=>
  rw[nX b a (c::r) aF];intro e;have:=List.append_eq_nil_iff.1 e;exact h (List.append_eq_nil_iff.1 this.1).1
def Hb (ws:List av)(t:av):Prop:=(b6 [32] ws≠[]/\ws.length<=1048600)/\(∀w∈ws,w.length<=2097200)/\t.length+(b6 [32] ws).length+1<=1099511627776
def Hb.mk {a:av}{l:List av}{t:av}(h1:a≠[])(h2:l.length<=99)(h3:∀w∈a::l,w.length<=2097200)(h4:t.length<=1000000000):Hb (a::l) t:=by
 have h5:=pV 32 2097200 (a::l) h3;have h6:(a::l).length<=100:=by simp only[bH];omega
 have h7:=fL (2097200+1) h6;exact⟨⟨Uk _ _ _ h1,ae⟩,h3,ae⟩
def C450 (Y:Ctx):=∀(ws:List av) (t:av) (l lw nx:Nat) (m:List (Nat×bm)) (K:D->St->Prop),uO m l t->look m lw=some (.buf 1 (ws.map D.str))->l<nx->lw<nx->Hb ws t->
 K (.tup []) ⟨nx+1,se (dd m lw) l nx (t++cr ws)⟩->Y.tr 450 [.ptr l 2 0 0,.own lw 1 0 ws.length] ⟨nx,m⟩ K
def y3 {m:List (Nat×bm)}{l L:Nat}{t:List UInt8}(h:l≠L):look (se m l L t) l=some (.bld (some L) t.length true)/\look (se m l L t) L=some (.row t):=by
 constructor
 .simp only[se,look,ai (λe=>h (Eq.symm e))]
  haveI:cI:={gd:=λ_=>True,le:=λ_ _ _ _ _=>trivial}
  rw[bM,ak rfl]
 .simp only[se,look,ak]
def acA {m:List (Nat×bm)}{l L:Nat}{t:List UInt8}(h:l≠L):uO (se m l L t) l t:=.inr ⟨L,true,y3 h⟩
structure j8 where
 r:Rec
 sum:Int
 off:Bool
 deriving Inhabited,DecidableEq
def j8.D (x:j8):D:=.agg [.str x.r.name,.int .i64 x.r.v.major,.int .i64 x.r.v.minor,.int .i64 x.r.v.patch,.str x.r.v.pre,.str x.r.v.build,.sl 3 (x.r.needs.map bp.D),.sl 3 (x.r.bars.map mF.D),.sl 2 (x.r.feats.map bY.D),.int .u64 x.sum,.bool x.off]
structure cj where
 name:av
 es:List j8
 deriving Inhabited,DecidableEq
def cj.D (s:cj):D:=.agg [.str s.name,.sl 11 (s.es.map j8.D)]
def K8 (nm:av)(v:bO)(x:j8):Bool:=decide (x.r.name=nm)&&MG x.r.v v
theorem ajI {v:bO}{x:j8}(h:¬x.r.name=nm\/MG x.r.v v=false):K8 nm v x=false:=by
 grind [K8]
theorem adM {v:bO}{x:j8}(h:x.r.name=nm/\MG x.r.v v=true):K8 nm v x=true:=by
 grind [K8]
def r7 (l:List j8)(nm:av)(v:bO)(i:Nat):Int:=match(l.drop i).findIdx? (K8 nm v)with
 |some k=>((i+k:Nat):Int)
 |none=>-1
theorem Zj {l:List j8}{v:bO}{i:Nat}(h:i<l.length)(he:K8 nm v l[i]! =true):r7 l nm v i=(i:Nat):=by
 unfold r7;rw[fh h,List.findIdx?_cons]
 grind
theorem Zk {l:List j8}{v:bO}{i:Nat}(h:i<l.length)(he:K8 nm v l[i]! =false):r7 l nm v i=r7 l nm v (i+1):=by
 unfold r7;have:K8 nm v l[i]=false:=by simpa[h]using he
 rw[fh h,List.findIdx?_cons]
 grind
def Sz {l:List j8}{v:bO}{i:Nat}(h:l.length<=i):r7 l nm v i=-1:=by
 unfold r7;rw[j7 h];rfl
def sr (l:List j8)(i:Nat):Bool:=decide ((fC l[i]!.r).2=0)&&decide (wj l[i]!.r=l[i]!.sum)&&decide (r7 (l.take i) l[i]!.r.name l[i]!.r.v 0<0)
def gy (s:cj):Bool:=(dc s.name&&decide (s.es.length<=64))&&bI (sr s.es) 0 s.es.length
theorem Dy (h:(fC r).2=0):fT r.v=true:=by
 grind [cV,fC,ma]
theorem PU {l:List j8}{v:bO}:r7 l nm v 0<0↔∀x∈l,K8 nm v x=false:=by
 grind [r7,K8]
theorem Gl {l:List j8}{i:Nat}(h:i<l.length)(hv:fT l[i]!.r.v=true):decide (r7 l l[i]!.r.name l[i]!.r.v 0=(i:Nat))=decide (r7 (l.take i) l[i]!.r.name l[i]!.r.v 0<0):=by
 have hi:K8 l[i]!.r.name l[i]!.r.v l[i]! =true:=by unfold K8;rw[zb hv,bg rfl];rfl
 apply kZ.2;rw[PU];constructor
 .intro he x hx;obtain⟨j,hj,rfl⟩:=List.mem_take_iff_getElem.1 hx;have hj2:j<i:=ae;unfold r7 at he;rw[dM]at he;cases hf:l.findIdx? (K8 l[i]!.r.name l[i]!.r.v)with
  |none=>rw[hf]at he;simp only at he;omega
  |some k=>
   rw[hf]at he;obtain⟨h1,h2,h3⟩:=List.findIdx?_eq_some_iff_getElem.1 hf;have hk:k=i:=by simp only at he;omega
   subst hk;have:=h3 j hj2;simpa using this
 .intro hx;unfold r7;rw[dM];have:l.findIdx? (K8 l[i]!.r.name l[i]!.r.v)=some i:=by
   rw[List.findIdx?_eq_some_iff_getElem];refine⟨h,by simpa[h]using hi,λj hj=>?_⟩;have:=hx l[j] (List.mem_take_iff_getElem.2 ⟨j,ae,rfl⟩);rw[this];decide
  rw[this];simp
theorem Xj {l:List j8}{i:Nat}(h:i<l.length)(h1:(fC l[i]!.r).2=0)(h2:wj l[i]!.r=l[i]!.sum)(h3:r7 l l[i]!.r.name l[i]!.r.v 0=(i:Nat)):sr l i=true:=by
 grind [Gl,Dy,sr]
theorem adg {l:List j8}{i:Nat}(h:i<l.length)(h1:(¬(fC l[i]!.r).2=0\/¬wj l[i]!.r=l[i]!.sum)\/¬r7 l l[i]!.r.name l[i]!.r.v 0=(i:Nat)):sr l i=false:=by
 grind [sr,fC,wj,Gl,Dy]
theorem aeV {s:cj}(h:gy s=true):s.name.length<=16/\s.es.length<=64:=by
 grind [gy,dc]
def Hk (a b:Int):Int:=IntKind.i64.wrap ((BitVec.ofInt 64 a&&&BitVec.ofInt 64 b).toNat)
def bvN (a b:Int):Int:=IntKind.i64.wrap ((BitVec.ofInt 64 a&&& ~~~ BitVec.ofInt 64 b).toNat)
def bvO (a b:Int):Int:=IntKind.i64.wrap ((BitVec.ofInt 64 a |||BitVec.ofInt 64 b).toNat)
def nT (u:Int):Int:=if u<0\/(us.length:Int)<=u then 0 else 2^(us[u.toNat]!.cands.length+1) -1
def qO (cs:List fj)(s:cu):Nat->Int
 |0=>0
 |k+1=>if pe s cs[k]!.v=true then qO cs s k+2^(k+1)else qO cs s k
def uJ (w:Want):Int:=if w.u<0\/(us.length:Int)<=w.u then 0 else qO us[w.u.toNat]!.cands w.s us[w.u.toNat]!.cands.length
def mX (us:List dz):List ec->Int->Int
 |[],u=>nT us u
 |t::r,u=>if t.u=u then t.m else mX us r u
def trmB (t:ec):Bool:=decide (t.m≠0)&&decide (Hk t.m (nT us t.u)=t.m)&&decide (t.m≠nT us t.u)
def N7 (l:List ec):Bool:=bI (λi=>trmB us l[i]! && !(decide (0<i)&&decide (l[i]!.u<=l[i-1]!.u))) 0 l.length
def UT (k:Nat):(2:Int)^k=((2^k:Nat):Int):=by
 induction k with
 |zero=>rfl
 |succ k ih=>rw[Int.pow_succ,ih,Nat.pow_succ];omega
def akN (h:k<=n):(2:Int)^k<=2^n:=by
 rw[UT,UT];exact Int.ofNat_le.2 (Nat.pow_le_pow_right a7 h)
def p8 (k:Nat):(1:Int)<=2^k:=by
 rw[UT];have:=Nat.one_le_two_pow (n:=k);omega
def Gm (h:k<=40):(2:Int)^k<=1099511627776:=akN h
def PD (cs:List fj)(s:cu):∀k,0<=qO cs s k/\qO cs s k<=2^(k+1) -2
 |0=>by simp[qO]
 |k+1=>by
  have ih:=PD cs s k;have h1:(2:Int)^(k+1+1)=2^(k+1)*2:=Int.pow_succ 2 (k+1);have h2:=p8 (k+1);rw[qO];split<;>omega
def sureB (row:jl)(k:Int)(w:Want):Bool:=if w.u=row.unit then decide (Hk (uJ us w) (2^(k+1).toNat)≠0)else decide (bvN (mX us row.terms w.u) (uJ us w)=0)
def lostB (row:jl)(k:Int)(w:Want):Bool:=if w.u=row.unit then decide (Hk (uJ us w) (2^(k+1).toNat)=0)else decide (Hk (uJ us w) (mX us row.terms w.u)=0)
def InR (x:Int):Prop:=-9223372036854775808<=x/\x<=9223372036854775807
def Tb (x:BitVec 64):IntKind.i64.wrap (x.toNat:Int)=x.toInt:=by
 have h:=x.isLt;have e:IntKind.i64.wrap (x.toNat:Int)=if decide ((x.toNat:Int)%18446744073709551616≥9223372036854775808)=true then(x.toNat:Int)%18446744073709551616-18446744073709551616 else(x.toNat:Int)%18446744073709551616:=rfl
 rw[e,BitVec.toInt_eq_toNat_cond];simp only[aX];split<;>split<;>omega
def MD {m:Int}(h:InR m):(BitVec.ofInt 64 m).toInt=m:=by
 obtain⟨h1,h2⟩:=h;rw[BitVec.toInt_ofInt,Int.bmod_def];split<;>omega
def WR (a b:Int):Hk a b=(BitVec.ofInt 64 a&&&BitVec.ofInt 64 b).toInt:=Tb _
def ah3 (a b:Int):bvO a b=(BitVec.ofInt 64 a |||BitVec.ofInt 64 b).toInt:=Tb _
def acI {i:Nat}(h0:0<=a)(h1:a<2^i)(hi:i<=40):bvO a (2^i)=a+2^i:=by
 have hp:=Gm hi;obtain⟨n,rfl⟩:∃n:Nat,a=(n:Int):=⟨a.toNat,ae⟩
 rw[UT]at h1 hp⊢;have h2:n<2^i:=ae;have hl:(2:Nat)^i<=1099511627776:=ae;have e:(BitVec.ofInt 64 (n:Int) |||BitVec.ofInt 64 ((2^i:Nat):Int)).toNat=n+2^i:=by
  rw[BitVec.toNat_or,BitVec.toNat_ofInt,BitVec.toNat_ofInt];have h3:((n:Int)%((2^64:Nat):Int)).toNat=n:=ae;have h4:(((2^i:Nat):Int)%((2^64:Nat):Int)).toNat=2^i:=ae;rw[h3,h4,Nat.or_comm];have:=Nat.two_pow_add_eq_or_of_lt h2 1;simp only[Nat.mul_one]at this;omega
 unfold bvO;rw[e,wrap_i64 ae ae];omega
def iD {α:Type}(f:α->Bool):List α->Nat->Int
 |[],_=>-1
 |x::r,i=>if f x=true then(i:Int)else iD f r (i+1)
def nV [Inhabited α]{f:α->Bool}{l:List α}{i:Nat}(hi:i<l.length)(h:f l[i]! =true):iD f (l.drop i) i=i:=by
 rw[fh hi,iD,ak (by simpa[hi]using h)]
def lF [Inhabited α]{f:α->Bool}{l:List α}{i:Nat}(hi:i<l.length)(h:f l[i]! =false):iD f (l.drop i) i=iD f (l.drop (i+1)) (i+1):=by
 rw[fh hi,iD,ai (by simpa[hi]using h)]
def nU {f:α->Bool}{l:List α}{i:Nat}(hi:l.length<=i):iD f (l.drop i) i=-1:=by
 rw[j7 hi,iD]
def fB (b:Bool)(us:List dz)(row:jl)(k:Int)(w:Want):Bool:=if b=true then sureB us row k w else !lostB us row k w
def aeK (row:jl)(k:Int)(r:nM):Bool:=!r.any (fB false us row k)
def saysP (row:jl)(k:Nat)(mild:Bool):Bool:=if mild=true then us[row.unit.toNat]!.cands[k]!.bars.any (fB true us row (k:Int))else us[row.unit.toNat]!.cands[k]!.needs.any (aeK us row (k:Int))
def fj.fz (l k:Nat)(es:List Abs.D)(c:fj):iX l k es c.D=c.D:=gV l k es _ (by simp only[fj.D,D.aU,aP,fR])
def wy.fz (l k:Nat)(es:List Abs.D)(c:wy):iX l k es c.D=c.D:=gV l k es _ (by simp only[wy.D,D.aU,aP,fR])
def jl.fz (l k:Nat)(es:List Abs.D)(c:jl):iX l k es c.D=c.D:=gV l k es _ (by simp only[jl.D,D.aU,aP,fR])
def hasU (l:List ec)(u:Int):Bool:=l.any λt=>decide (t.u=u)
def RJ (row:jl)(mild:Bool):Bool:=hasU row.terms row.unit&&decide (Hk (mX us row.terms row.unit) 1=0)&&bI (λk=>decide (Hk (mX us row.terms row.unit) (2^(k+1))=0) ||saysP us row k mild) 0 us[row.unit.toNat]!.cands.length
def bothU (A B:List ec)(row:jl)(u:Nat):Bool:=decide (bvN (mX us row.terms (u:Int)) (if(u:Int)=row.unit then bvO (mX us A (u:Int)) (mX us B (u:Int))else Hk (mX us A (u:Int)) (mX us B (u:Int)))=0)
def bothP (c:wy)(row:jl)(i:Int):Bool:=decide (nT c.w.us row.unit≠0)&&(decide (0<=row.a)&&decide (row.a<i))&&(decide (0<=row.b)&&decide (row.b<i))&&(N7 c.w.us c.rows[row.a.toNat]!.terms&&N7 c.w.us c.rows[row.b.toNat]!.terms)&&bI (bothU c.w.us c.rows[row.a.toNat]!.terms c.rows[row.b.toNat]!.terms row) 0 c.w.us.length
def askP (c:wy)(row:jl):Bool:=decide (nT c.w.us row.unit≠0)&&decide (row.unit<c.allow.length)&&decide (Hk (mX c.w.us row.terms row.unit) c.allow[row.unit.toNat]! =0)
def kindP (c:wy)(row:jl)(i:Int):Bool:=if row.kind=5 then bothP c row i else decide (row.a=0)&&decide (row.b=0)&&(if row.kind=1 then decide (row.unit=0)&&decide (mX c.w.us row.terms 0=1)else if row.kind=2\/row.kind=3 then RJ c.w.us row (decide (row.kind=3))else if row.kind=4 then askP c row else false)
def ajQ (c:wy)(i:Int):Bool:=decide (0<=i)&&decide (i<c.rows.length)&&N7 c.w.us c.rows[i.toNat]!.terms&&kindP c c.rows[i.toNat]! i
def mH (f:Nat->Bool):Nat->Nat->Nat
 |0,i=>i
 |k+1,i=>if f i=true then mH f k (i+1)else i
def He {f:Nat->Bool}{i:Nat}(hi:i<n)(h:f i=true):mH f (n-i) i=mH f (n-(i+1)) (i+1):=by
 obtain⟨k,hk⟩:∃k,n-i=k+1:=⟨n-i-1,ae⟩
 rw[hk,mH,ak h,show k=n-(i+1)by omega]
def Rw {f:Nat->Bool}{i:Nat}(hi:i<n)(h:f i=false):mH f (n-i) i=i:=by
 obtain⟨k,hk⟩:∃k,n-i=k+1:=⟨n-i-1,ae⟩
 rw[hk,mH,ai (by rw[h];exact Bool.false_ne_true)]
def Lv {f:Nat->Bool}{i:Nat}(hi:n<=i):mH f (n-i) i=i:=by
 rw[show n-i=0 by omega,mH]
def acH (a b:Int):InR (Hk a b):=by
 rw[WR];have h1:=BitVec.le_toInt (BitVec.ofInt 64 a&&&BitVec.ofInt 64 b);have h2:=BitVec.toInt_lt (x:=BitVec.ofInt 64 a&&&BitVec.ofInt 64 b);exact⟨by simpa using h1,by have:=h2;simp at this;omega⟩
def Ee (hb:b=(n:Int))(hn:n<=39):IntKind.i64.wrap (2*2^(min b.toNat IntKind.i64.bits))=2^(n+1):=by
 subst hb;have h:=Gm (k:=n+1) ae;have h2:=p8 n;rw[Int.pow_succ]at h;rw[show min (Int.toNat (n:Int)) IntKind.i64.bits=n from Nat.min_eq_left (by simp only[IntKind.bits];omega),Int.pow_succ,Int.mul_comm];exact wrap_i64 ae ae
def nJ [Inhabited α]{l:List α}{i:Nat}(h:i<l.length):l.take i++[l[i]!]=l.take (i+1):=by
 rw[List.take_succ,show l[i]? =some l[i]! by simp[h]];rfl
def bitI (m:Int)(i:Nat):Bool:=decide (IntKind.i64.wrap ((BitVec.ofInt 64 (m.fdiv (2^(min (i:Int).toNat 64))))&&&(BitVec.ofInt 64 1)).toNat=1)
def Wp (n:Nat)(s:cu):Prop:=s.sm/\s.rel.length<=n/\s.pr.length<=n
def Wp.s {s:cu}(h:Wp n s)(hn:n<=1000):SetS s:=⟨⟨h.1.1,dN h.2.1 hn⟩,⟨h.1.2,dN h.2.2 hn⟩⟩
def Wp.mono {s:cu}(h:Wp n s)(hn:n<=k):Wp k s:=⟨h.1,dN h.2.1 hn,dN h.2.2 hn⟩
inductive NF where
 |nil|sl (l:List nM)|own (k:Nat)
 deriving Inhabited
inductive BF where
 |nil|sl (l:List Want)|own (k:Nat)
 deriving Inhabited
def NF.D (e:Nat):NF->D
 | .nil=>.aR
 | .sl l=>.sl 1 (l.map jC)
 | .own k=>.own e 1 0 k
def BF.D (e:Nat):BF->D
 | .nil=>.aR
 | .sl l=>.sl 3 (l.map Want.D)
 | .own k=>.own e 3 0 k
structure CW where
 v:bO
 sh:Int
 n:NF
 b:BF
 deriving Inhabited
def CW.D (e:Nat)(c:CW):D:=.agg [.int .i64 c.v.major,.int .i64 c.v.minor,.int .i64 c.v.patch,.str c.v.pre,.str c.v.build,.int .i64 c.sh,c.n.D e,c.b.D e]
def NF.pl:NF->Bool
 | .own _=>false
 |_=>true
def BF.pl:BF->Bool
 | .own _=>false
 |_=>true
def CW.pl (c:CW):Bool:=c.n.pl&&c.b.pl
def CW.aU {e:Nat}{c:CW}(h:c.pl=true):(c.D e).aU=true:=by
 obtain⟨v,sh,n,b⟩:=c;cases n<;>cases b<;>first|(simp[CW.pl,NF.pl,BF.pl]at h;done)|rfl
theorem CW.rn {e e' lo:Nat}(h:nb lo σ e=some e')(c:CW):vZ lo σ (c.D e)=some (c.D e'):=by
 obtain⟨v,sh,n,b⟩:=c;cases n<;>cases b<;>simp[CW.D,NF.D,BF.D,vZ,rY,VQ,h]
def CsOk (n:Nat)(cs:Nat->List CW):Prop:=(2<=n/\n<=8)/\∀t,(cs t).length<=4/\∀c∈cs t,c.v.sm
def Want.fz (l k:Nat)(es:List Abs.D)(w:Want):iX l k es w.D=w.D:=gV l k es _ (by simp only[Want.D,D.aU,aP,fR])
def Gs.fz (l k:Nat)(es:List Abs.D)(g:Gs):iX l k es g.D=g.D:=gV l k es _ (by simp only[Gs.D,D.aU,aP,fR])
structure RU where
 name:av
 feat:av
 cs:List CW
 deriving Inhabited
def rawC (v:bO):CW:=⟨v,0,.nil,.nil⟩
def WK (m:Int):Nat->List bO
 |0=>[]
 |i+1=>if bitI m i=true then WK m i++[bT[i]!]else WK m i
def RU.pl (u:RU):=∀c∈u.cs,c.pl=true
def Gs.S8 (g:Gs)(n:Int):(1<=n->0<=g.val n/\g.val n<n)/\(n<1->g.val n=0):=⟨λh=>kQ _ _ h,λh=>by simp only[Gs.val,kP];rw[ak h]⟩
variable(g:Gs)
def CInv (vs:Nat->List bO)(B:Nat->List CW):=∀t,(B t).map CW.v=vs t/\∀c∈B t,c.pl=true
def CInv.len {B:Nat->List CW}(h:CInv vs B):(λj=>(B j).length)=λj=>(vs j).length:=by
 funext j;rw[<-(h j).1,bh]
def NF.p:NF->List nM
 | .sl l=>l
 |_=>[]
def BF.p:BF->List Want
 | .sl l=>l
 |_=>[]
def CW.p (c:CW):fj:=⟨c.v,c.sh,c.n.p,c.b.p⟩
variable{B:Nat->List CW}
def Wr (vs:Nat->List bO)(B:Nat->List CW):=∀t,(B t).map CW.v=vs t
def CInv.v (h:CInv vs B):Wr vs B:=λt=>(h t).1
def Wr.len (h:Wr vs B):(λj=>(B j).length)=λj=>(vs j).length:=by
 funext j;rw[<-h j,bh]
def VsOk (vs:Nat->List bO):=∀t,(vs t).length<=4/\∀v∈vs t,v.sm
def Wr.ok (h:Wr vs B)(hn:2<=n/\n<=8)(hv:VsOk vs):CsOk n B:=by
 refine⟨hn,λt=>⟨?_,λc hc=>?_⟩⟩
 .have:=(hv t).1;rw[<-h t,bh]at this;exact this
 .exact(hv t).2 _ (by rw[<-h t];exact List.mem_map_of_mem hc)
def cA.fz (l k:Nat)(es:List Abs.D)(w:cA):iX l k es w.D=w.D:=gV l k es _ rfl
variable(w:cA)
theorem ec.eq (a b:ec):gU (ec.D a).cells (ec.D b).cells=decide (a=b):=by
 cases a;cases b
 grind [ec.D,D.cells,gU,BM]
def iN (i:Nat):List Int:=(List.range i).map λu=>nT us ((u:Nat):Int)
def O7 (i:Nat):(iN us i).length=i:=by simp[iN]
def O6 (i:Nat):iN us i++[nT us ((i:Nat):Int)]=iN us (i+1):=by
 simp[iN,List.range_succ]
def stI64 {xs:List Int}{i:Nat}(h:i<xs.length)(v:Int):(xs.map (D.int .i64)).set i (rj ((xs.map (D.int .i64)).getD i .any) 1 1 0 (.int .i64 v))=(xs.set i v).map (D.int .i64):=by
 rw[getD_map h,List.map_set];rfl
def Few:=∀u∈us,∀c∈u.cands,c.needs.length<=1000/\c.bars.length<=1000/\∀r∈c.needs,r.length<=1000
structure Prv where
 w:cA
 facts:List jl
 x:D
def Prv.D (p:Prv):Abs.D:=.agg [.sl 3 (p.w.us.map dz.D),.sl 5 (p.facts.map jl.D),p.x]
def bt (m:Int)(i:Nat):Bool:=(BitVec.ofInt 64 m).getLsbD i
def ofInt_toInt (x:BitVec 64):BitVec.ofInt 64 x.toInt=x:=BitVec.ofInt_toInt
def WL (a b:Int)(i:Nat):bt (Hk a b) i=(bt a i&&bt b i):=by
 unfold bt;rw[WR,ofInt_toInt,BitVec.getLsbD_and]
def bt_or (a b:Int)(i:Nat):bt (bvO a b) i=(bt a i ||bt b i):=by
 unfold bt;rw[ah3,ofInt_toInt,BitVec.getLsbD_or]
def ah1 (ha:InR a)(hb:InR b)(h:∀i,bt a i=bt b i):a=b:=by
 have e:BitVec.ofInt 64 a=BitVec.ofInt 64 b:=by
  ext i hi
  have:=h i;unfold bt at this
  rwa [BitVec.getLsbD_eq_getElem hi,BitVec.getLsbD_eq_getElem hi]at this
 rw[<-MD ha,<-MD hb,e]
def InR0:InR 0:=⟨a7,a7⟩
def Hj (i:Nat):bt 0 i=false:=by unfold bt;simp
def WS:Hk a b=0↔∀i,¬(bt a i=true/\bt b i=true):=by
 constructor
 .intro h i hi;have:=WL a b i;rw[h,Hj,hi.1,hi.2]at this;exact absurd this a7
 .intro h;refine ah1 (acH _ _) InR0 λi=>?_
  rw[WL,Hj];have:=h i;revert this;cases bt a i<;>cases bt b i<;>simp
def ah2:Hk a b≠0↔∃i,bt a i=true/\bt b i=true:=by
 rw[Ne,WS];constructor
 .intro h;exact Classical.byContradiction λg=>h λi hi=>g ⟨i,hi⟩
 .rintro⟨i,hi⟩ h;exact h i hi
def OQ (hk:k<=40)(i:Nat):bt (2^k) i=decide (i=k):=by
 unfold bt;rw[UT];have hl:(2:Nat)^k<=1099511627776:=by
  have:=Gm hk;rw[UT]at this;omega
 rw[show BitVec.ofInt 64 ((2^k:Nat):Int)=BitVec.ofNat 64 (2^k)from BitVec.ofInt_natCast ..];rw[BitVec.getLsbD_ofNat,Nat.testBit_two_pow];by_cases e:k=i
 .subst e;simp;omega
 .rw[bB e,Bool.and_false,bB (λh=>e h.symm)]
def RC (cs:List fj)(s:cu)(i:Nat):∀k,k<=16->bt (qO cs s k) i=(decide (1<=i)&&decide (i<=k)&&pe s cs[i-1]!.v)
 |0,_=>by
  rw[qO,Hj];by_cases h:1<=i
  .rw[bB (show ¬i<=0 by omega)];simp
  .rw[bB h];rfl
 |k+1,hk=>by
  have ih:=RC cs s i k ae;have hr:=PD cs s k;rw[qO];split
  .rename_i h;rw[<-acI hr.1 (by have:=p8 (k+1);omega) ae,bt_or,ih,OQ ae];by_cases e:i=k+1
   .subst e;rw[show k+1-1=k from rfl,h];simp
   .rw[bB e,Bool.or_false];congr 2;rw[kZ];omega
  .rename_i h;rw[ih];by_cases e:i=k+1
   .subst e;simp only[Bool.not_eq_true]at h;rw[show k+1-1=k from rfl,h];simp
   .congr 2;rw[kZ];omega
def WM {us:List dz}{w:Want}{u:Nat}(hw:w.u=((u:Nat):Int))(hu:u<us.length)(hs:∀x∈us,x.cands.length<=16)(i:Nat):bt (uJ us w) i=(decide (1<=i)&&decide (i<=us[u]!.cands.length)&&pe w.s us[u]!.cands[i-1]!.v):=by
 have hc:=hs _ (aq hu);unfold uJ;rw[ai ae,hw];exact RC _ _ _ _ hc
abbrev S16:Prop:=∀x∈us,x.cands.length<=16
def ahe (allow:List Int)(r:jl):Prop:=N7 us r.terms=true/\(r.a=0/\r.b=0)/\(0<=r.unit/\r.unit<us.length)/\
 (r.kind=1/\r.unit=0/\mX us r.terms 0=1\/(r.kind=2\/r.kind=3)/\RJ us r (decide (r.kind=3))=true\/r.kind=4/\r.unit<allow.length/\Hk (mX us r.terms r.unit) allow[r.unit.toNat]! =0)
abbrev AllOK (allow:List Int)(rows:List jl):Prop:=∀x∈rows,ahe us allow x
def COK (c:List Int):Prop:=c.length<=us.length/\∀u,u<c.length->-1<=c[u]! /\c[u]! <us[u]!.cands.length
def vb (c:List Int)(u:Nat):Nat:=(c[u]! +1).toNat
def Wo (allow:List Int)(rows:List jl):=∀i,i<rows.length->ajQ ⟨w,allow,rows⟩ ((i:Nat):Int)=true
def Near (c:List Int)(k:Nat)(l:List ec):Prop:=N7 us l=true/\(∀t∈l,t.u<c.length+1)/\(∀u,u<c.length->bt (mX us l ((u:Nat):Int)) (vb c u)=true)/\∀j,j<k->bt (mX us l ((c.length:Nat):Int)) j=true
def COK.app {us:List dz}{i:Int}(h:COK us c)(hl:c.length<us.length)(h1:-1<=i)(h2:i<us[c.length]!.cands.length):COK us (c++[i]):=by
 refine⟨eJ,λu hu=>?_⟩;rw[bV,List.length_singleton]at hu;rcases dZ u c.length with h3|h3
 .rw[List.getElem!_eq_getElem?_getD,List.getElem?_append_left h3,<-List.getElem!_eq_getElem?_getD];exact h.2 u h3
 .obtain rfl:u=c.length:=ae;simp only[List.getElem!_eq_getElem?_getD,List.getElem?_concat_length,Option.getD_some]at*
  exact⟨h1,h2⟩
section
def subsV:List (List bO):=(List.range 16).map λm=>WK ((m:Nat):Int) 4
set_option maxRecDepth 10000
def sw:∀v∈bT,wc (dG v)=true/\fT v=true:=by decide+kernel
def RU.ok (u:RU):Prop:=u.name≠[]/\∃vs,vs∈subsV/\u.cs=vs.map rawC
def SInv (al c:List Int)(k:Nat)(now:Int)(R:List jl):Prop:=Wo w al R/\(k=0/\now=-1\/0<k/\(0<=now/\now<R.length)/\Near w.us c k R[now.toNat]!.terms)/\R.length<=5100+2*k
def NPre (al:List Int)(facts:List jl)(c:List Int)(rows:List jl):Prop:=((w.sm/\S16 w.us/\w.us.length<=48)/\AllOK w.us al facts)/\(COK w.us c/\Wo w al rows)/\rows.length<=100000
def NPre.app {w:cA}{al:List Int}{facts:List jl}{c:List Int}{rows R:List jl}{k:Nat}(h:NPre w al facts c rows)(hl:c.length<w.us.length)(hk:k<w.us[c.length]!.cands.length+1){now:Int}(hI:SInv w al c k now R):NPre w al facts (c++[((k:Nat):Int) -1]) R:=by
 have h16:=h.1.1.2.1 _ (aq hl);exact⟨h.1,⟨h.2.1.1.app hl ae ae,hI.1⟩,by have:=hI.2.2;omega⟩
def agd (r:jl):jl:=⟨r.kind,r.unit,r.b,r.a,r.terms⟩
def Wq (L R:List jl):Prop:=R.length=L.length/\∀k,k<L.length->R[k]! =L[k]! \/(L[k]!.kind=5/\R[k]! =agd L[k]!)
def aan {xs:List jl}{i u:Nat}{v:jl}(hu:u<xs.length):(xs.set i v)[u]! =if i=u then v else xs[u]! :=by
 simp only[List.getElem!_eq_getElem?_getD,List.getElem?_set];split
 .rename_i h;subst h;rw[ak hu];rfl
 .rfl
def Wq.step {L R:List jl}{i:Nat}(h:Wq L R)(hi:i<L.length)(hk:R[i]!.kind=5):Wq L (R.set i (agd R[i]!)):=by
 refine⟨by rw[List.length_set];exact h.1,λk hk2=>?_⟩;rw[aan (by rw[h.1];exact hk2)];split
 .rename_i e;subst e;rcases h.2 i hi with h1|⟨h1,h2⟩
  .exact .inr ⟨by rw[<-h1];exact hk,by rw[h1]⟩
  .exact .inl (by rw[h2];rfl)
 .exact h.2 k hk2
end
def TD (κ:Nat->Nat)(x:Want):Prop:=bt (uJ us x) (κ x.u.toNat)=true
structure SolP (us:List dz)(κ:Nat->Nat):Prop where
 pos:0<us.length
 root:κ 0≠0
 le:∀u,u<us.length->κ u<=us[u]!.cands.length
 needs:∀u,u<us.length->κ u≠0->∀r∈us[u]!.cands[κ u-1]!.needs,∃x∈r,TD us κ x
 bars:∀u,u<us.length->κ u≠0->∀x∈us[u]!.cands[κ u-1]!.bars,¬TD us κ x
 inU:∀u,u<us.length->κ u≠0->(∀r∈us[u]!.cands[κ u-1]!.needs,∀x∈r,0<=x.u/\x.u<us.length)/\∀x∈us[u]!.cands[κ u-1]!.bars,0<=x.u/\x.u<us.length
def bt_p {i:Nat}(hk:k<=40)(h:i=k):bt (2^k) i=true:=by
 rw[OQ hk];simpa using h
def Ci {f:Nat->Bool}:∀k i,¬mH f k i<i+k->∀j,i<=j->j<i+k->f j=true
 |0,i,_,j,h1,h2=>ae
 |k+1,i,h,j,h1,h2=>by
  rw[mH]at h;split at h
  .rename_i e;by_cases q:j=i
   .subst q;exact e
   .exact Ci k (i+1) (by rw[show i+1+k=i+(k+1)by omega];exact h) j ae ae
  .omega
def eD (l:List Want):List ec:=l.map λx=>⟨x.u,uJ us x⟩
structure j9 where
 full:List Int
 needs:List (List (List (List ec)))
 bars:List (List (List ec))
 deriving Inhabited
def IL (l:List ec):D:=.sl 2 (l.map ec.D)
def oE (l:List (List ec)):D:=.sl 1 (l.map IL)
def qh (l:List (List (List ec))):D:=.sl 1 (l.map oE)
def j9.D (m:j9):D:=.agg [.sl 1 (m.full.map (D.int .i64)),.sl 1 (m.needs.map qh),.sl 1 (m.bars.map oE)]
def kU (l:List nM):List (List ec):=l.map (eD us)
def eO (cs:List fj):List (List (List ec)):=cs.map λc=>kU us c.needs
def jx (cs:List fj):List (List ec):=cs.map λc=>eD us c.bars
def eC (i:Nat):List (List (List (List ec))):=(us.take i).map λu=>eO us u.cands
def jv (i:Nat):List (List (List ec)):=(us.take i).map λu=>jx us u.cands
def dx:j9:=⟨iN us us.length,eC us us.length,jv us us.length⟩
def Dk (c:List Int)(x:ec):Bool:=decide (0<=c[x.u.toNat]!)&&decide (Hk x.m (2^(c[x.u.toNat]!.toNat+1))≠0)
def kf (c:List Int)(l:List ec):Bool:=o8 (λi=>Dk c l[i]!) 0 l.length
def XE (m:j9)(c:List Int)(u:Nat):Bool:=decide (c[u]! <0) ||(bI (λk=>kf c m.needs[u]![c[u]!.toNat]![k]!) 0 m.needs[u]![c[u]!.toNat]!.length&& !kf c m.bars[u]![c[u]!.toNat]!)
def CB (m:j9)(c:List Int):Bool:=decide (0<=c[0]!)&&bI (XE m c) 0 c.length
def ChP (c:List Int):Prop:=c.length=us.length/\∀u,u<us.length->-1<=c[u]! /\c[u]! <us[u]!.cands.length
def Ao (c:List Int)(u:Nat):Nat:=(c[u]! +1).toNat
def eZ {β:Type}[Inhabited α][Inhabited β]{f:α->β}{l:List α}{i:Nat}(h:i<l.length):(l.map f)[i]! =f l[i]! :=by simp[h]
def Mv {us:List dz}{x:Want}(hs:∀x∈us,x.cands.length<=16)(hc:ChP us c)(h0:0<=x.u)(h1:x.u<us.length):Dk c ⟨x.u,uJ us x⟩=true↔TD us (Ao c) x:=by
 obtain⟨u,hu⟩:∃u:Nat,x.u=((u:Nat):Int):=⟨x.u.toNat,ae⟩
 have hul:u<us.length:=ae;have hcu:=hc.2 u hul;have h16:=hs _ (aq hul);unfold Dk TD Ao;dsimp only;rw[hu,Int.toNat_natCast,aK,aX,aX,ah2];constructor
 .rintro⟨h2,i,h3,h4⟩;rw[OQ ae]at h4;obtain rfl:i=c[u]!.toNat+1:=by simpa using h4
  rw[show(c[u]! +1).toNat=c[u]!.toNat+1 by omega];exact h3
 .intro h2;have h3:=h2;rw[WM hu hul hs]at h3;simp only[aK,aX]at h3;refine⟨ae,(c[u]! +1).toNat,h2,bt_p ae ae⟩
def Mc {l:List ec}:kf c l=true↔∃x∈l,Dk c x=true:=by
 unfold kf;rw[wH];constructor
 .rintro⟨j,_,h2,h3⟩;exact⟨_,aq h2,h3⟩
 .rintro⟨x,hx,h⟩;obtain⟨j,hj,rfl⟩:=List.mem_iff_getElem.1 hx;exact⟨j,Nat.zero_le _,hj,by simpa[hj]using h⟩
def EB {w:cA}(h:hR w=true){u:Nat}(hu:u<w.us.length)(hk:k<w.us[u]!.cands.length):(∀r∈w.us[u]!.cands[k]!.needs,∀x∈r,0<=x.u/\x.u<w.us.length)/\∀x∈w.us[u]!.cands[k]!.bars,0<=x.u/\x.u<w.us.length:=by
 unfold hR at h;rw[aK,bG]at h;have h3:=h.2 u ae hu;unfold mE at h3;rw[aK,bG]at h3;have h4:=h3.2 k ae hk;unfold nN at h4;simp only[aK]at h4;have h5:=h4.1.2;unfold mU at h5;simp only[aK,aX]at h5;have hw:∀(l:List Want),py (w.us.length:Int) l=true->∀x∈l,0<=x.u/\x.u<w.us.length:=by
  intro l hl x hx;unfold py at hl;rw[bG]at hl;obtain⟨j,hj,rfl⟩:=List.mem_iff_getElem.1 hx;have:=hl j ae hj;unfold td at this;simp only[hj,getElem!_pos,aK,aX]at this;omega
 refine⟨λr hr=>?_,hw _ h5.2⟩;have h6:=h5.1.2;rw[bG]at h6;obtain⟨j,hj,rfl⟩:=List.mem_iff_getElem.1 hr;have:=h6 j ae hj;unfold rQ at this;simp only[hj,getElem!_pos,aK]at this;exact hw _ this.1
def YP {us:List dz}{u:Nat}(hu:u<us.length)(hk:k<us[u]!.cands.length):(dx us).needs[u]![k]! =kU us us[u]!.cands[k]!.needs:=by
 unfold dx eC eO;dsimp only;rw[List.take_length,eZ hu,eZ hk]
def acw {us:List dz}{u:Nat}(hu:u<us.length)(hk:k<us[u]!.cands.length):(dx us).bars[u]![k]! =eD us us[u]!.cands[k]!.bars:=by
 unfold dx jv jx;dsimp only;rw[List.take_length,eZ hu,eZ hk]
def alp {w:cA}(hw:hR w=true)(hs:∀x∈w.us,x.cands.length<=16)(hc:ChP w.us c)(h:CB (dx w.us) c=true):SolP w.us (Ao c):=by
 have hpos:0<w.us.length:=by
  unfold hR at hw;simp only[aK,aX]at hw;omega
 unfold CB at h;rw[aK,aX,bG,hc.1]at h;obtain⟨h0,hf⟩:=h;have hk:∀u,u<w.us.length->Ao c u≠0->c[u]!.toNat=Ao c u-1/\Ao c u-1<w.us[u]!.cands.length/\bI (λk=>kf c (kU w.us w.us[u]!.cands[Ao c u-1]!.needs)[k]!) 0 (kU w.us w.us[u]!.cands[Ao c u-1]!.needs).length=true/\kf c (eD w.us w.us[u]!.cands[Ao c u-1]!.bars)=false:=by
  intro u hu hk;have hcu:=hc.2 u hu;have h1:=hf u (Nat.zero_le _) hu;have e:c[u]!.toNat=Ao c u-1:=by unfold Ao at*;omega
  have hl:Ao c u-1<w.us[u]!.cands.length:=by unfold Ao at*;omega
  unfold XE at h1;rw[cW,aX]at h1;have h2:=h1.resolve_left (by unfold Ao at hk;omega);rw[e,YP hu hl,acw hu hl]at h2;rw[aK,cg]at h2;exact⟨e,hl,h2.1,h2.2⟩
 have hin:∀u,u<w.us.length->Ao c u≠0->(∀r∈w.us[u]!.cands[Ao c u-1]!.needs,∀x∈r,0<=x.u/\x.u<w.us.length)/\∀x∈w.us[u]!.cands[Ao c u-1]!.bars,0<=x.u/\x.u<w.us.length:=λu hu h=>EB hw hu (hk u hu h).2.1
 refine⟨hpos,by unfold Ao;omega,λu hu=>?_,λu hu hk0 r hr=>?_,λu hu hk0 x hx hm=>?_,hin⟩
 .have:=hc.2 u hu;unfold Ao;omega
 .have h1:=(hk u hu hk0).2.2.1;rw[bG]at h1;obtain⟨j,hj,rfl⟩:=List.mem_iff_getElem.1 hr;have h2:=h1 j (Nat.zero_le _) (by unfold kU;simpa using hj);unfold kU at h2;rw[eZ hj,Mc]at h2;obtain⟨y,hy,hm⟩:=h2;unfold eD at hy;obtain⟨x,hx,rfl⟩:=ch.1 hy;simp only[hj,getElem!_pos]at hx;have:=(hin u hu hk0).1 _ hr x hx;exact⟨x,hx,(Mv hs hc this.1 this.2).1 hm⟩
 .have h1:=(hk u hu hk0).2.2.2;have hi:=(hin u hu hk0).2 x hx;have:kf c (eD w.us w.us[u]!.cands[Ao c u-1]!.bars)=true:=Mc.2 ⟨_,ch.2 ⟨x,hx,rfl⟩,(Mv hs hc hi.1 hi.2).2 hm⟩;rw[h1]at this;cases this
def ajs (l k:Nat)(es:List D)(xs:List (List ec)):oL l k es (xs.map IL)=xs.map IL:=kJ l k es _ (cb (λ_=>rfl) _)
def adr (l k:Nat)(es:List D)(xs:List (List (List ec))):oL l k es (xs.map oE)=xs.map oE:=kJ l k es _ (cb (λ_=>rfl) _)
def XN (l k:Nat)(es:List D)(xs:List (List (List (List ec)))):oL l k es (xs.map qh)=xs.map qh:=kJ l k es _ (cb (λ_=>rfl) _)
def adq (l k:Nat)(es:List D)(xs:List Int):oL l k es (xs.map (D.int .i64))=xs.map (D.int .i64):=kJ l k es _ (cb (λ_=>rfl) _)
def VH {us:List dz}{l:List Want}{i:Nat}(h:i<l.length):eD us (l.take i)++[⟨l[i]!.u,uJ us l[i]!⟩]=eD us (l.take (i+1)):=by
 unfold eD;rw[<-nJ h];simp
def VI (l:List Want)(i:Nat):(eD us (l.take i)).length<=i:=by
 unfold eD;rw[bh,ey];omega
def Vq {us:List dz}{l:List nM}{i:Nat}(h:i<l.length):kU us (l.take i)++[eD us l[i]!]=kU us (l.take (i+1)):=by
 unfold kU;rw[<-nJ h];simp
def Vr (l:List nM)(i:Nat):(kU us (l.take i)).length<=i:=by
 unfold kU;rw[bh,ey];omega
def PJ {us:List dz}{l:List fj}{i:Nat}(h:i<l.length):eO us (l.take i)++[kU us l[i]!.needs]=eO us (l.take (i+1)):=by
 unfold eO;rw[<-nJ h];simp
def PK (l:List fj)(i:Nat):(eO us (l.take i)).length<=i:=by
 unfold eO;rw[bh,ey];omega
def TN {us:List dz}{l:List fj}{i:Nat}(h:i<l.length):jx us (l.take i)++[eD us l[i]!.bars]=jx us (l.take (i+1)):=by
 unfold jx;rw[<-nJ h];simp
def TO (l:List fj)(i:Nat):(jx us (l.take i)).length<=i:=by
 unfold jx;rw[bh,ey];omega
def PH {us:List dz}{i:Nat}(h:i<us.length):eC us i++[eO us us[i]!.cands]=eC us (i+1):=by
 unfold eC;rw[<-nJ h];simp
def PI (i:Nat):(eC us i).length<=i:=by
 unfold eC;rw[bh,ey];omega
def TL {us:List dz}{i:Nat}(h:i<us.length):jv us i++[jx us us[i]!.cands]=jv us (i+1):=by
 unfold jv;rw[<-nJ h];simp
def TM (i:Nat):(jv us i).length<=i:=by
 unfold jv;rw[bh,ey];omega
def Lk (c:List Int)(x:ec):Prop:=(0<=x.u/\x.u<c.length)/\c[x.u.toNat]! <=30
def FineP (m:j9)(c:List Int):Prop:=(0<c.length/\c.length<=1000/\m.needs.length=c.length/\m.bars.length=c.length)/\∀u,u<c.length->0<=c[u]! ->(c[u]!.toNat<m.needs[u]!.length/\c[u]!.toNat<m.bars[u]!.length)/\(∀r∈m.needs[u]![c[u]!.toNat]!,∀x∈r,Lk c x)/\∀x∈m.bars[u]![c[u]!.toNat]!,Lk c x
def gW {α:Type} [Inhabited α]{f:α->Bool}:∀{l:List α}{k:Nat},(iD f l k=-1/\∀q,q<l.length->f l[q]! =false)\/∃j:Nat,iD f l k=((k+j:Nat):Int)/\j<l.length/\f l[j]! =true/\∀q,q<j->f l[q]! =false
 |[],k=>.inl ⟨rfl,λq h=>absurd h (Nat.not_lt_zero q)⟩
 |x::r,k=>by
  rw[iD];split
  .rename_i h;exact .inr ⟨0,rfl,aF,rA,λq h=>absurd h (Nat.not_lt_zero q)⟩
  .rename_i h;have hx:f x=false:=by simpa using h
   rcases gW (f:=f) (l:=r) (k:=k+1)with⟨h1,h2⟩|⟨j,h1,h2,h3,h4⟩
   .refine .inl ⟨h1,λq hq=>?_⟩;cases q with
    |zero=>simpa using hx
    |succ q=>simpa using h2 q (by simpa using hq)
   .refine .inr ⟨j+1,by rw[h1];omega,by simpa using h2,by simpa using h3,λq hq=>?_⟩;cases q with
    |zero=>simpa using hx
    |succ q=>simpa using h4 q ae
def adI [Inhabited α]{f:α->Bool}{l:List α}{i:Nat}(h:i<l.length)(hf:f l[i]! =true):0<=iD f l 0/\iD f l 0<=i:=by
 rcases gW (f:=f) (l:=l) (k:=0)with⟨h1,h2⟩|⟨j,h1,h2,h3,h4⟩
 .rw[h2 i h]at hf;cases hf
 .have:¬i<j:=λhj=>by rw[h4 i hj]at hf;cases hf
  omega
def F3 (nm:av)(s:cj):Bool:=decide (s.name=nm)
def mz (l:List cj)(nm:av):Int:=iD (F3 nm) l 0
def zC (l:List cj)(i:Nat):Bool:=gy l[i]! &&decide (mz l l[i]!.name=(i:Nat))
def eR (l:List cj):Bool:=decide (l.length<=4)&&bI (zC l) 0 l.length
def jG (l:List cj):=∀s∈l,∀x∈s.es,iq x.r
def aeZ {l:List cj}{i:Nat}(h:i<l.length):0<=mz l l[i]!.name/\mz l l[i]!.name<=i:=adI h (by simp[F3])
theorem aeY {l:List cj}{i:Nat}(h:gy l[i]! =false\/¬mz l l[i]!.name=(i:Nat)):zC l i=false:=by
 grind [zC]
theorem aas {l:List cj}{i:Nat}(h:gy l[i]! =false\/mz l l[i]!.name<(i:Nat)):zC l i=false:=by
 grind [zC]
theorem NZ {l:List cj}{i:Nat}(h:gy l[i]! =true/\mz l l[i]!.name=(i:Nat)):zC l i=true:=by
 grind [zC]
def Vv {l:List cj}{i:Nat}(hi:i<l.length)(h:gy l[i]! =true/\¬mz l l[i]!.name<(i:Nat)):zC l i=true:=by
 have:=aeZ hi;exact NZ ⟨h.1,ae⟩
def cj.fz (l k:Nat)(es:List Abs.D)(c:cj):iX l k es c.D=c.D:=gV l k es _ (by simp only[cj.D,D.aU,aP,fR])
variable(shop:List cj)
def oJ (s:cj)(nm:av)(v:bO):Int:=if gy s=false then-1 else r7 s.es nm v 0
def rX (a b:av)(u:dz):Bool:=decide (u.name=a)&&decide (u.feat=b)
def untI (a b:av):Int:=iD (rX a b) (us.drop 1) 1
def shlE (c:fj)(x:ea):Int:=
 if c.sh=-1 then(if x.shelf≠[]then 12 else if x.sum≠0 then 13 else 0)
 else if c.sh<0\/(shop.length:Int)<=c.sh\/shop[c.sh.toNat]!.name≠x.shelf then 12
 else if oJ shop[c.sh.toNat]! x.name x.v<0\/shop[c.sh.toNat]!.es[(oJ shop[c.sh.toNat]! x.name x.v).toNat]!.sum≠x.sum then 13 else 0
structure Ld where
 kind:Int
 unit:Int
 at':Int
 deriving Inhabited,DecidableEq
def Ld.D (f:Ld):D:=.agg [.int .i64 f.kind,.int .i64 f.unit,.int .i64 f.at']
def CM (c:List Int)(i:Nat):Bool:=decide (-1<=c[i]!)&&decide (c[i]! <(w.us[i]!.cands.length:Int))
def vI (c:List Int):Bool:=decide (c.length=w.us.length)&&bI (CM w c) 0 c.length
def eV (c:List Int):Bool:=hR w&&vI w c
def lj (c:List Int)(x:Want):Bool:=decide (0<=c[x.u.toNat]!)&&pe x.s w.us[x.u.toNat]!.cands[c[x.u.toNat]!.toNat]!.v
def FB (c:List Int)(l:nM):Bool:=l.any (lj w c)
def oK {w:cA}(h:vI w c=true):c.length=w.us.length/\∀i,i<c.length->-1<=c[i]! /\c[i]! <(w.us[i]!.cands.length:Int):=by
 simp only[vI,aK,aX,bG,CM]at h;exact⟨h.1,λi hi=>h.2 i (Nat.zero_le _) hi⟩
def ad4 {w:cA}(h:¬(c.length:Int)=(w.us.length:Int)\/hR w=false):eV w c=false:=by
 unfold eV vI;rcases h with h|h
 .rw[bB ae];simp
 .rw[h];rfl
def RR {w:cA}{i:Nat}(h:c[i]! < -1\/(w.us[i]!.cands.length:Int)<=c[i]!):CM w c i=false:=by
 unfold CM;rcases h with h|h
 .rw[bB ae];rfl
 .rw[bB (p:=c[i]! <_) ae];simp
def LW {w:cA}{i:Nat}(h:¬c[i]! < -1/\¬(w.us[i]!.cands.length:Int)<=c[i]!):CM w c i=true:=by
 unfold CM;rw[bg ae,bg ae];rfl
def MetW (c:List Int)(x:Want):Prop:=(w.sm/\x.sm)/\(0<=x.u/\x.u<(w.us.length:Int))/\vI w c=true
def ku (c:List Int)(u:Nat)(l:List nM)(n:Nat):List Ld:=(List.range n).flatMap λk=>if FB w c l[k]! =true then []else [⟨2,(u:Nat),(k:Nat)⟩]
def pJ (c:List Int)(u:Nat)(l:List Want)(n:Nat):List Ld:=(List.range n).flatMap λk=>if lj w c l[k]! =true then [⟨3,(u:Nat),(k:Nat)⟩]else []
def bJ (c:List Int)(u:Nat):fj:=w.us[u]!.cands[c[u]!.toNat]!
def PS (c:List Int)(u:Nat):List Ld:=ku w c u (bJ w c u).needs (bJ w c u).needs.length++pJ w c u (bJ w c u).bars (bJ w c u).bars.length
def ja (c:List Int)(n:Nat):List Ld:=(List.range n).flatMap λu=>if c[u]! <0 then []else PS w c u
def rq (c:List Int):List Ld:=if eV w c=false then []else ja w c c.length
section
variable {w:cA}{u:Nat}{l:List nM}{b:List Want}
def YL (h:FB w c l[n]! =true):ku w c u l (n+1)=ku w c u l n:=by simp only[ku,List.range_succ,List.flatMap_append,List.flatMap_cons,List.flatMap_nil,h];simp
def YK (h:FB w c l[n]! =false):ku w c u l (n+1)=ku w c u l n++[⟨2,(u:Nat),(n:Nat)⟩]:=by simp only[ku,List.range_succ,List.flatMap_append,List.flatMap_cons,List.flatMap_nil,h];simp
def WG (h:lj w c b[n]! =true):pJ w c u b (n+1)=pJ w c u b n++[⟨3,(u:Nat),(n:Nat)⟩]:=by simp only[pJ,List.range_succ,List.flatMap_append,List.flatMap_cons,List.flatMap_nil,h];simp
def WE (h:lj w c b[n]! =false):pJ w c u b (n+1)=pJ w c u b n:=by simp only[pJ,List.range_succ,List.flatMap_append,List.flatMap_cons,List.flatMap_nil,h];simp
def xp:∀n,(ku w c u l n).length<=n
 |0=>aT _
 |n+1=>by
  have:=xp n;cases h:FB w c l[n]!
  .rw[YK h];simp;omega
  .rw[YL h];omega
def Cj:∀n,(pJ w c u b n).length<=n
 |0=>aT _
 |n+1=>by
  have:=Cj n;cases h:lj w c b[n]!
  .rw[WE h];omega
  .rw[WG h];simp;omega
def aaW (h:0<=c[n]!):ja w c (n+1)=ja w c n++PS w c n:=by
 simp only[ja,List.range_succ,List.flatMap_append,List.flatMap_cons,List.flatMap_nil,ai (show ¬c[n]! <0 by omega),fZ]
def aaU (h:c[n]! <0):ja w c (n+1)=ja w c n:=by simp only[ja,List.range_succ,List.flatMap_append,List.flatMap_cons,List.flatMap_nil,ak h,fZ]
def aaV (h:0<=c[n]!):(ja w c n++ku w c n (bJ w c n).needs (bJ w c n).needs.length)++pJ w c n (bJ w c n).bars (bJ w c n).bars.length=ja w c (n+1):=by
 rw[aaW h,PS,fF]
end
def OneP (c:List Int)(u:Nat):Prop:=(w.sm/\hR w=true)/\vI w c=true/\u<c.length/\0<=c[u]!
def H0 {w:cA}{u:Nat}(h:OneP w c u):(c[u]!.toNat<w.us[u]!.cands.length/\c[u]! =((c[u]!.toNat:Nat):Int))/\((bJ w c u).needs.length<=24/\(bJ w c u).bars.length<=24)/\(∀r∈(bJ w c u).needs,∀x∈r,MetW w c x)/\∀x∈(bJ w c u).bars,MetW w c x:=by
 obtain⟨⟨h1,h2⟩,h3,h4,h5⟩:=h;obtain⟨h6,h7⟩:=oK h3;have h8:=h7 u h4;have hu:u<w.us.length:=ae;have hk:c[u]!.toNat<w.us[u]!.cands.length:=ae;have hin:=EB h2 hu hk;have hs:=(h1 _ (aq hu)).2 _ (aq hk);have hl:(bJ w c u).needs.length<=24/\(bJ w c u).bars.length<=24:=by
  simp only[hR,aK,bG,mE,nN,mU,aX]at h2;have:=(h2.2 u (Nat.zero_le _) hu).2 _ (Nat.zero_le _) hk;exact⟨this.1.2.1.1.1,this.1.2.1.1.2⟩
 exact⟨⟨hk,ae⟩,hl,λr hr x hx=>⟨⟨h1,hs.2.1 r hr x hx⟩,hin.1 r hr x hx,h3⟩,λx hx=>⟨⟨h1,hs.2.2 x hx⟩,hin.2 x hx,h3⟩⟩
def YW {w:cA}{u:Nat}(h:OneP w c u):(PS w c u).length<=48:=by
 obtain⟨_,⟨h1,h2⟩,_⟩:=H0 h;have h3:=xp (w:=w) (c:=c) (u:=u) (l:=(bJ w c u).needs) (bJ w c u).needs.length;have h4:=Cj (w:=w) (c:=c) (u:=u) (b:=(bJ w c u).bars) (bJ w c u).bars.length;simp only[PS,bV];omega
def Ou {w:cA}{c:List Int}(hm:w.sm)(h:eV w c=true):∀n,n<=c.length->(ja w c n).length<=n*48
 |0,_=>Nat.zero_le _
 |n+1,hn=>by
  have h1:=Ou hm h n ae;simp only[eV,aK]at h;by_cases hc:c[n]! <0
  .rw[aaU hc];omega
  .have:=YW (w:=w) (c:=c) (u:=n) ⟨⟨hm,h.1⟩,h.2,ae,ae⟩;rw[aaW ae,bV];omega
def aav {w:cA}{l:nM}:FB w c l=o8 (λi=>lj w c l[i]!) 0 l.length:=by
 rw[Bool.eq_iff_iff,FB,List.any_eq_true,wH];constructor
 .rintro⟨x,hx,h⟩;obtain⟨i,hi,rfl⟩:=List.mem_iff_getElem.1 hx;exact⟨i,Nat.zero_le _,hi,by simpa[hi]using h⟩
 .rintro⟨i,_,hi,h⟩;exact⟨_,aq hi,h⟩
def WrgP (c:List Int):Prop:=w.sm/\0<=c[0]!
def ad5 {w:cA}{u:Nat}(hw:WrgP w c)(h:eV w c=true)(hu:u<c.length)(h0:0<=c[u]!):OneP w c u:=by
 simp only[eV,aK]at h;exact⟨⟨hw.1,h.1⟩,h.2,hu,h0⟩
def YB {w:cA}(h:eV w c=true):1<=c.length/\c.length<=48:=by
 simp only[eV,aK]at h;have h1:=oK h.2;simp only[hR,aK,aX]at h;omega
def BY {l:List j8}{v:bO}:r7 l nm v 0=-1\/∃j:Nat,r7 l nm v 0=(j:Int)/\j<l.length:=by
 unfold r7;rw[dM];cases h:l.findIdx? (K8 nm v)with
 |none=>exact .inl rfl
 |some k=>
  have:=(List.findIdx?_eq_some_iff_getElem.1 h).1;exact .inr ⟨k,aF,this⟩
def FW {s:cj}{v:bO}:oJ s nm v=-1\/∃j:Nat,oJ s nm v=(j:Int)/\j<s.es.length:=by
 unfold oJ;split
 .exact .inl rfl
 .exact BY
def entP (s:cj)(nm:av)(v:bO):j8×Bool:=if oJ s nm v<0 then(default,false)else(s.es[(oJ s nm v).toNat]!,true)
section
variable {Y:Ctx}{draw:Bool}{r:List GI}{env rs:List aY}{nx:Nat}{m:List (Nat×bm)}{K:List aY->St->Prop}{g:Option (Nat×Bool)}{f:Bool}
def ZE {x:Src}{ng:Bool}{d:D}(h:∀b,nlB d b->aB Y draw r env (⟨true,.bool (bif ng then !b else b)⟩::rs) nx m K)(hg:GF rs g true:=by first|exact rfl|exact⟨_,_,rfl,rfl⟩)(hx:bS env rs x=⟨true,d⟩:=by exact rfl)(hs:slB d:=by exact trivial):aB Y draw (⟨.isNl x ng,g⟩::r) env rs nx m K:=by
 unfold aB;show yV rs.reverse g/\(flag rs.reverse g=true->(Src.ev env rs.reverse x).ok=true/\slB (Src.ev env rs.reverse x).d/\∀b,nlB (Src.ev env rs.reverse x).d b->_)/\(flag rs.reverse g=false->_);obtain⟨hg1,hg2⟩:=hg.flag;rw[oI,hx];refine⟨hg2,λ_=>⟨rfl,hs,λb hb=>?_⟩,λhh=>by rw[hg1]at hh;cases hh⟩;have:=h b hb;unfold aB at this;simpa using this
end
def bn.mp {lo c:Nat}{m r:List (Nat×bm)}{l':Nat}{s s':List D}(l:Nat)(hl:nb lo σ l=some l')(hm:look m l=some (.mpb s))(hs:s'=s)(h:bn lo c σ m r):bn lo c σ m ((l',.mpb s')::r):=
 ⟨.inl ⟨l,_,hl,hm,hs⟩,h⟩
def ea.fz (l k:Nat)(es:List Abs.D)(c:ea):iX l k es c.D=c.D:=gV l k es _ (by simp only[ea.D,D.aU,aP,fR])
def X8 (a b:c9):c9.D a=c9.D b↔a=b:=by cases a;cases b;simp[c9.D,X5]
def Pb (a b:List c9):a.map c9.D=b.map c9.D↔a=b:=kO X8 a b
def X1 (a b:bp):bp.D a=bp.D b↔a=b:=by cases a;cases b;simp[bp.D,Pb]
def CX (a b:List bp):a.map bp.D=b.map bp.D↔a=b:=kO X1 a b
def iBar (a b:mF):mF.D a=mF.D b↔a=b:=by cases a;cases b;simp[mF.D]
def L3 (a b:List mF):a.map mF.D=b.map mF.D↔a=b:=kO iBar a b
def XX (a b:bY):bY.D a=bY.D b↔a=b:=by cases a;cases b;simp[bY.D,X5]
def CV (a b:List bY):a.map bY.D=b.map bY.D↔a=b:=kO XX a b
def iRec (a b:Rec):Rec.D a=Rec.D b↔a=b:=by
 obtain⟨n,⟨v1,v2,v3,v4,v5⟩,x,y,z⟩:=a;obtain⟨n',⟨w1,w2,w3,w4,w5⟩,x',y',z'⟩:=b;simp[Rec.D,CX,L3,CV,and_assoc]
def iEtr (a b:j8):j8.D a=j8.D b↔a=b:=by
 obtain⟨⟨n,⟨v1,v2,v3,v4,v5⟩,x,y,z⟩,s,o⟩:=a;obtain⟨⟨n',⟨w1,w2,w3,w4,w5⟩,x',y',z'⟩,s',o'⟩:=b;simp[j8.D,CX,L3,CV,and_assoc]
def XW (a b:List j8):a.map j8.D=b.map j8.D↔a=b:=kO iEtr a b
def iShf (a b:cj):cj.D a=cj.D b↔a=b:=by cases a;cases b;simp[cj.D,XW]
def X3 (a b:List cj):a.map cj.D=b.map cj.D↔a=b:=kO iShf a b
def iEnv (a b:Env):Env.D a=Env.D b↔a=b:=by cases a;cases b;simp[Env.D]
def iLkd (a b:ea):ea.D a=ea.D b↔a=b:=by
 obtain⟨n,⟨v1,v2,v3,v4,v5⟩,x,y,z⟩:=a;obtain⟨n',⟨w1,w2,w3,w4,w5⟩,x',y',z'⟩:=b;simp[ea.D,X5,and_assoc]
def X0 (a b:List ea):a.map ea.D=b.map ea.D↔a=b:=kO iLkd a b
def iLck (a b:jE):jE.D a=jE.D b↔a=b:=by
 obtain⟨⟨a1,a2,a3⟩,l⟩:=a;obtain⟨⟨b1,b2,b3⟩,k⟩:=b;simp[jE.D,X0,and_assoc]
def iRdr (a b:oY):oY.D a=oY.D b↔a=b:=by
 obtain⟨a1,a2,a3⟩:=a;obtain⟨b1,b2,b3⟩:=b;simp only[oY.D,D.agg.injEq,th,D.str.injEq,D.int.injEq,oY.mk.injEq,ee,dE];constructor
 .rintro⟨h1,h2,h3⟩;exact⟨h1,ae,ae⟩
 .rintro⟨h1,h2,h3⟩;exact⟨h1,ae,ae⟩
def afW (a b:Bool):((bif a then 690 else 691)=(bif b then 690 else 691:Nat))↔a=b:=by cases a<;>cases b<;>simp
def Aa (h:A (λd ds v s=>A λd' ds' v' s'=>d'=d->ds'=ds->v=v'/\s=s'):=by
 (repeat' first|apply And.intro|intro _)
 all_goals rename_i e' e
 all_goals (try simp only[th,D.str.injEq,D.int.injEq,D.bool.injEq,D.sl.injEq,D.ref.injEq,D.agg.injEq,D.fn.injEq,X5,Uf,iByt,iVer,X8,Pb,X1,CX,iBar,L3,XX,CV,iRec,XW,iEtr,iShf,X3,iEnv,iLkd,X0,iLck,iCut,afS,X4,CY,iSet,X7,HB,X9,Pc,iCnd,XV,iUnt,X6,iWld,iKey,iGs,iRdr,afW,iU8,pB,iNat,dE,ee]at e e')
 all_goals first|rfl|(simp only[e,e'];done)|simp_all):wz (mJ A):=acS h
structure Ask where
 allow:List Int
 order:List (List Int)
 deriving Inhabited
def jL (l:List Int):D:=.sl 1 (l.map (D.int .i64))
def Ask.D (a:Ask):D:=.agg [.sl 1 (a.allow.map (D.int .i64)),.sl 1 (a.order.map jL)]
def PN:Option (List Int)->D
 |none=>.aR
 |some c=>.sl 1 (c.map (D.int .i64))
def wB (m:j9):Prop:=(0<m.needs.length/\m.needs.length<=48/\m.bars.length=m.needs.length/\m.full.length=m.needs.length)/\∀u,u<m.needs.length->(m.bars[u]!.length=m.needs[u]!.length/\m.needs[u]!.length<=16)/\
 (∀c∈m.needs[u]!,∀r∈c,r.length<=1000/\∀x∈r,0<=x.u/\x.u<m.needs.length)/\∀r∈m.bars[u]!,∀x∈r,0<=x.u/\x.u<m.needs.length
def K3 (m:j9)(c:List Int):Prop:=c.length=m.needs.length/\∀u,u<m.needs.length->-1<=c[u]! /\c[u]! <m.needs[u]!.length
def LS {m:j9}(hm:wB m)(hc:K3 m c):FineP m c:=by
 obtain⟨h1,h2⟩:=hm;have hcl:=hc.1;refine⟨ae,λu hu h0=>?_⟩;have hun:u<m.needs.length:=ae;have hcu:=hc.2 u hun;obtain⟨h3,h4,h5⟩:=h2 u hun;have hk:c[u]!.toNat<m.needs[u]!.length:=ae;have hM:∀x:ec,0<=x.u/\x.u<m.needs.length->Lk c x:=λx hx=>by
  have a:=hc.2 x.u.toNat ae;have b:=(h2 x.u.toNat ae).1;exact⟨ae,ae⟩
 exact⟨⟨hk,ae⟩,λr hr x hx=>hM x ((h4 _ (aq hk) r hr).2 x hx),λx hx=>hM x (h5 _ (aq ae) x hx)⟩
def vD (m:j9)(c:List Int)(u:Nat):Bool:=decide (c[u]! <0) ||!kf c m.bars[u]![c[u]!.toNat]!
def yI (m:j9)(c:List Int):Bool:=bI (vD m c) 0 c.length
def ID (m:j9)(c:List Int)(u:Nat):Nat:=mH (λk=>kf c m.needs[u]![c[u]!.toNat]![k]!) m.needs[u]![c[u]!.toNat]!.length 0
def xA (m:j9)(c:List Int)(u:Nat):Bool:=decide (c[u]! <0) ||decide (ID m c u=m.needs[u]![c[u]!.toNat]!.length)
def mY (m:j9)(c:List Int):Nat:=mH (xA m c) c.length 0
def eg (m:j9)(c:List Int):Int×Int:=if c[0]! <0 then(0,-1)else if mY m c<c.length then(((mY m c:Nat):Int),((ID m c (mY m c):Nat):Int))else(-1,-1)
def Rv {f:Nat->Bool}:∀k i,i<=mH f k i/\mH f k i<=i+k
 |0,i=>by simp[mH]
 |k+1,i=>by
  have:=Rv (f:=f) k (i+1);rw[mH];split<;>omega
def Lu {f:Nat->Bool}:∀k i,mH f k i<i+k->f (mH f k i)=false
 |0,i,h=>by simp[mH]at h
 |k+1,i,h=>by
  rw[mH]at h⊢;split
  .rename_i e;rw[ak e]at h;exact Lu k (i+1) ae
  .rename_i e;simpa using e
def adj {m:j9}(h1:yI m c=true)(h2:(eg m c).1<0):CB m c=true:=by
 unfold eg at h2;split at h2
 .exact absurd h2 a7
 .rename_i h0;split at h2
  .exact absurd h2 k8
  .rename_i hi;unfold CB;rw[bg (show 0<=c[0]! by omega),ez,bG];intro u _ hu;unfold yI at h1;rw[bG]at h1;have e1:=h1 u (Nat.zero_le _) hu;have e2:=Ci c.length 0 (by rw[cL];exact hi) u (Nat.zero_le _) ae;unfold vD at e1;unfold xA at e2;unfold XE;by_cases hc:c[u]! <0
   .rw[bg hc];rfl
   .rw[bB hc,Bool.false_or]at e1 e2⊢;rw[e1,fR,bG];intro k _ hk;rw[aX]at e2;have e3:=Ci (f:=λk=>kf c m.needs[u]![c[u]!.toNat]![k]!) m.needs[u]![c[u]!.toNat]!.length 0 (by unfold ID at e2;omega) k (Nat.zero_le _) ae;exact e3
def offB (l:List ec)(o:ec):Bool:=o8 (λi=>decide (l[i]! =o)) 0 l.length
def PQ (mask u p:Int)(out:List ec):List ec:=if(decide (Hk mask (2^(p.toNat+1))≠0)&& !offB out ⟨u,p⟩)=true then out++[⟨u,p⟩]else out
def j1 (mask u:Int)(ts:List Int):Nat->List ec->List ec
 |0,out=>out
 |i+1,out=>PQ mask u ts[i]! (j1 mask u ts i out)
def bF (m:j9)(c:List Int):List ec:=if 0<=(eg m c).2 then m.needs[(eg m c).1.toNat]![c[(eg m c).1.toNat]!.toNat]![(eg m c).2.toNat]! else [⟨(eg m c).1,m.full[(eg m c).1.toNat]!⟩]
def Dq (mask u:Int)(ts:List Int):∀i out,(j1 mask u ts i out).length<=out.length+i
 |0,out=>aT _
 |i+1,out=>by
  have:=Dq mask u ts i out;rw[j1];unfold PQ;split
  .rw[bV,List.length_singleton];omega
  .omega
def Wn (m:j9)(c:List Int)(o:ec):Prop:=(0<=o.u/\o.u<m.needs.length)/\c[o.u.toNat]! <0/\0<=o.m/\o.m<m.needs[o.u.toNat]!.length
def Sv {m:j9}(hc:K3 m c)(h0:0<m.needs.length)(h:¬(eg m c).1<0):(0<=(eg m c).1/\(eg m c).1<c.length)/\(0<=(eg m c).2->0<=c[(eg m c).1.toNat]! /\(eg m c).2<m.needs[(eg m c).1.toNat]![c[(eg m c).1.toNat]!.toNat]!.length):=by
 have hl:=hc.1;unfold eg at*
 split
 .exact⟨⟨a7,k8⟩,λh=>absurd h a7⟩
 .rename_i h1;rw[ai h1]at h;split
  .rename_i h2;have h3:=Lu (f:=xA m c) c.length 0 (by rw[cL];exact h2);have h4:=(Rv (f:=λk=>kf c m.needs[mY m c]![c[mY m c]!.toNat]![k]!) m.needs[mY m c]![c[mY m c]!.toNat]!.length 0).2;rw[show mH (xA m c) c.length 0=mY m c from rfl]at h3;rw[cL,show mH (λk=>kf c m.needs[mY m c]![c[mY m c]!.toNat]![k]!) m.needs[mY m c]![c[mY m c]!.toNat]!.length 0=ID m c (mY m c)from rfl]at h4;unfold xA at h3;rw[dX,b8,b8]at h3;dsimp only;rw[Int.toNat_natCast];exact⟨⟨ae,ae⟩,λ_=>⟨ae,ae⟩⟩
  .rename_i h2;rw[ai h2]at h;exact absurd (by decide:((-1:Int),(-1:Int)).1<0) h
def Ol {m:j9}(hm:wB m)(hc:K3 m c)(h:¬(eg m c).1<0):(∀x∈bF m c,0<=x.u/\x.u<m.needs.length)/\(bF m c).length<=1000:=by
 obtain⟨⟨h0,_⟩,hM⟩:=hm;obtain⟨h1,h2⟩:=Sv hc h0 h;have hl:=hc.1;unfold bF;split
 .rename_i h3;obtain⟨h4,h5⟩:=h2 h3;have hu:=hc.2 (eg m c).1.toNat ae;have h6:=(hM (eg m c).1.toNat ae).2.1 _ (aq (show c[(eg m c).1.toNat]!.toNat<m.needs[(eg m c).1.toNat]!.length by omega)) _ (aq (show(eg m c).2.toNat<m.needs[(eg m c).1.toNat]![c[(eg m c).1.toNat]!.toNat]!.length by omega));exact⟨h6.2,h6.1⟩
 .refine⟨λx hx=>?_,aF⟩;obtain rfl:=aJ.1 hx;exact⟨k8,k8⟩
def iM (f:ec->Option (List Int)):List ec->Option (List Int)
 |[]=>none
 |o::r=>match f o with
  |some c=>some c
  |none=>iM f r
def Fp (c:List Int):Nat:=c.countP λx=>decide (x<0)
def xI (c:List Int)(o:ec):List Int:=c.set o.u.toNat o.m
def Mz:∀{c:List Int}{i:Nat}{v:Int},i<c.length->c[i]! <0->0<=v->Fp (c.set i v)+1=Fp c
 |[],i,v,h,_,_=>by simp at h
 |x::r,0,v,_,h1,h2=>by
  have h1:x<0:=h1;simp[Fp,List.countP_cons,h1,show ¬v<0 by omega]
 |x::r,i+1,v,h,h1,h2=>by
  have:=Mz (c:=r) (i:=i) (v:=v) rA (by simpa using h1) h2;simp only[Fp,List.set_cons_succ,List.countP_cons]at this⊢;omega
def H9 {m:j9}{o:ec}(hc:K3 m c)(ho:Wn m c o):K3 m (xI c o)/\Fp (xI c o)+1=Fp c:=by
 obtain⟨h1,h2,h3,h4⟩:=ho;have hl:=hc.1;refine⟨⟨by unfold xI;rw[List.length_set];exact hl,λu hu=>?_⟩,Mz ae h2 h3⟩;unfold xI;by_cases e:o.u.toNat=u
 .subst e;rw[List.getElem!_eq_getElem?_getD,List.getElem?_set_self ae];exact⟨by dsimp only[Option.getD_some];omega,h4⟩
 .rw[List.getElem!_eq_getElem?_getD,List.getElem?_set_ne e,<-List.getElem!_eq_getElem?_getD];exact hc.2 u hu
def wZ {f g:ec->Option (List Int)}:∀{l:List ec},(∀o∈l,f o=g o)->iM f l=iM g l
 |[],_=>rfl
 |o::r,h=>by
  rw[iM,iM,h o (.head _),wZ (l:=r) λo ho=>h o (.tail _ ho)]
def Ah {f:ec->Option (List Int)}{d:List Int}:∀{l:List ec},iM f l=some d->∃o∈l,f o=some d
 |[],h=>by cases h
 |o::r,h=>by
  rw[iM]at h;split at h
  .rename_i c e;obtain rfl:=bc h;exact⟨o,.head _,e⟩
  .obtain⟨o',h1,h2⟩:=Ah h;exact⟨o',.tail _ h1,h2⟩
def n9 (n:Nat):List Int:=List.replicate n (-1)
def maskP {w:cA}(hw:hR w=true)(hs:∀x∈w.us,x.cands.length<=16)(hf:Few w.us):wB (dx w.us):=by
 have hpos:0<w.us.length/\w.us.length<=48:=by
  unfold hR at hw;simp only[aK,aX]at hw;omega
 have hn:(dx w.us).needs.length=w.us.length:=by simp[dx,eC]
 have hb:(dx w.us).bars.length=w.us.length:=by simp[dx,jv]
 have hfu:(dx w.us).full.length=w.us.length:=by simp[dx,iN]
 refine⟨⟨ae,ae,ae,ae⟩,λu hu=>?_⟩;rw[hn]at hu⊢;have e1:(dx w.us).needs[u]! =eO w.us w.us[u]!.cands:=by unfold dx eC;dsimp only;rw[List.take_length,eZ hu]
 have e2:(dx w.us).bars[u]! =jx w.us w.us[u]!.cands:=by unfold dx jv;dsimp only;rw[List.take_length,eZ hu]
 have h16:=hs _ (aq hu);rw[e1,e2];refine⟨⟨by simp[eO,jx],by simpa[eO]using h16⟩,λc hc r hr=>?_,λr hr x hx=>?_⟩
 .unfold eO at hc;obtain⟨cd,h1,rfl⟩:=ch.1 hc;obtain⟨k,hk,rfl⟩:=List.mem_iff_getElem.1 h1;unfold kU at hr;obtain⟨r0,h2,rfl⟩:=ch.1 hr;have hfw:=(hf _ (aq hu) _ h1).2.2 r0 h2;refine⟨by simpa[eD]using hfw,λx hx=>?_⟩;unfold eD at hx;obtain⟨y,h3,rfl⟩:=ch.1 hx;exact(EB hw hu (k:=k) hk).1 r0 (by rw[getElem!_pos w.us[u]!.cands k hk];exact h2) y h3
 .unfold jx at hr;obtain⟨cd,h1,rfl⟩:=ch.1 hr;obtain⟨k,hk,rfl⟩:=List.mem_iff_getElem.1 h1;unfold eD at hx;obtain⟨y,h3,rfl⟩:=ch.1 hx;exact(EB hw hu (k:=k) hk).2 y (by rw[getElem!_pos w.us[u]!.cands k hk];exact h3)
def sL:K3 (dx us) (n9 us.length):=by
 refine⟨by simp[n9,dx,eC],λu hu=>?_⟩;have hul:u<us.length:=by simpa[dx,eC]using hu
 rw[show(n9 us.length)[u]! =-1 by unfold n9;simp[hul]];exact⟨a7,ae⟩
def RI {us:List dz}(h:K3 (dx us) c):ChP us c:=by
 have hn:(dx us).needs.length=us.length:=by simp[dx,eC]
 refine⟨by rw[h.1,hn],λu hu=>?_⟩;have h1:=h.2 u ae;have e1:(dx us).needs[u]!.length=us[u]!.cands.length:=by unfold dx eC;dsimp only;rw[List.take_length,eZ hu];simp[eO]
 rw[e1]at h1;exact h1
def Sr:∀o:Option (List Int),slB (PN o)
 |none=>trivial
 |some _=>trivial
def O4 {f:ec->Option (List Int)}{l:List ec}{i:Nat}{d:List Int}(hi:i<l.length)(h:f l[i]! =some d):iM f (l.drop i)=some d:=by
 rw[fh hi,iM,<-getElem!_pos l i hi,h]
def LU {f:ec->Option (List Int)}{l:List ec}{i:Nat}(hi:i<l.length)(h:f l[i]! =none):iM f (l.drop i)=iM f (l.drop (i+1)):=by
 rw[fh hi,iM,<-getElem!_pos l i hi,h]
def O3 {f:ec->Option (List Int)}{l:List ec}{i:Nat}(hi:l.length<=i):iM f (l.drop i)=none:=by
 rw[j7 hi,iM]
def UF (i:Nat):n9 i++[-1]=n9 (i+1):=by unfold n9;rw[List.replicate_succ']
def UG (i:Nat):(n9 i).length=i:=by unfold n9;exact List.length_replicate
def negD (ds:List D):Nat:=match ds.getD 2 .any with
 | .sl _ es=>es.countP λd=>match d with
  | .int _ x=>decide (x<0)
  |_=>false
 |_=>0
def Sl {a b:D}:negD [a,b,.sl 1 (c.map (D.int .i64))]=Fp c:=by
 show(c.map (D.int .i64)).countP _=_;rw[List.countP_map];rfl
def iTr (a b:List ec):IL a=IL b↔a=b:=by simp[IL,afX]
def iTrL (a b:List (List ec)):a.map IL=b.map IL↔a=b:=kO iTr a b
def iTrs (a b:List (List ec)):oE a=oE b↔a=b:=by simp[oE,iTrL]
def afY (a b:List (List (List ec))):a.map oE=b.map oE↔a=b:=kO iTrs a b
def iTrss (a b:List (List (List ec))):qh a=qh b↔a=b:=by simp[qh,afY]
def ajF (a b:List (List (List (List ec)))):a.map qh=b.map qh↔a=b:=kO iTrss a b
def iMsk (a b:j9):j9.D a=j9.D b↔a=b:=by
 obtain⟨x,y,z⟩:=a;obtain⟨x',y',z'⟩:=b;simp[j9.D,Uf,ajF,afY]
def XZ (a b:List (List Int)):a.map jL=b.map jL↔a=b:=kO (λx y=>by simp[jL,Uf]) a b
def iAsk (a b:Ask):Ask.D a=Ask.D b↔a=b:=by
 obtain⟨x,y⟩:=a;obtain⟨x',y'⟩:=b;simp[Ask.D,Uf,XZ]
def Fg (s:av):Int:=if iD (λt=>decide (t=s)) l 0<0 then 0 else iD (λt=>decide (t=s)) l 0
def cQ (own:av):av×Gs:=if cB[(g.val 4).toNat]! =own then(cB[((g.aI.val 3+1+Fg cB own)%4).toNat]!,g.aI.aI)else(cB[(g.val 4).toNat]!,g.aI)
def dD (own:av):c9×Gs:=(⟨(cQ g own).1,j4[((cQ g own).2.val 8).toNat]!,[],decide (0<(cQ g own).2.aI.val 3)⟩,(cQ g own).2.aI.aI)
def gK (own:av):List c9×Gs:=
 if(dD g own).2.val 6=0 then([(dD g own).1,(dD (dD g own).2.aI own).1],(dD (dD g own).2.aI own).2)
 else if(dD g own).2.val 6=1 then([{(dD g own).1 with feats:=[fW]}],(dD g own).2.aI)else([(dD g own).1],(dD g own).2.aI)
def osY:av:=[111,115,32,61,32,108,105,110,117,120]
def osN:av:=[111,115,32,33,61,32,108,105,110,117,120]
def jB:av×Gs:=(if g.val 8=0 then osY else if g.val 8=1 then osN else [],g.aI)
def H4:av×Gs:=(if g.val 5=0 then [111]else [],g.aI)
def mr (own:av):bp×Gs:=(⟨(gK g own).1,(jB (gK g own).2).1,(H4 (jB (gK g own).2).2).1⟩,(H4 (jB (gK g own).2).2).2)
def UO (l:List bp):Bool:=l.any λn=>decide (n.option=[111])
def ik:List bp->Gs->Option av×Gs
 |[],g=>(none,g)
 |n::r,g=>if n.any.length=1 then(if g.val 3=0 then(some n.any[0]!.name,g.aI)else ik r g.aI)else ik r g
def ofG (l:List bp)(g:Gs):List av×Gs:=((if UO l=true then [[63,111]]else [])++(match(ik l g).1 with|some s=>[s++[47,102]]|none=>[]),(ik l g).2)
def mV (l:List bp):bY×Gs:=(⟨[102],(ofG l g).1⟩,(ofG l g).2)
def nS (own:av)(g:Gs):Nat->List bp×Gs
 |0=>([],g)
 |i+1=>((nS own g i).1++[(mr (nS own g i).2 own).1],(mr (nS own g i).2 own).2)
def eE (own:av):List mF×Gs:=if g.val 5=0 then([⟨(cQ g.aI own).1,j4[((cQ g.aI own).2.val 8).toNat]!,[]⟩],(cQ g.aI own).2.aI)else([],g.aI)
def lu (l:List bp):List bY×Gs:=if g.val 2=0 then([(mV g.aI l).1],(mV g.aI l).2)else([],g.aI)
def pw (nm:av)(v:bO)(most:Int):Rec×Gs:=
 let a:=nS nm g.aI (g.val (most+1)).toNat
 let b:=eE a.2 nm
 let c:=lu b.2 a.1
 (⟨nm,v,a.1,b.1,c.1⟩,c.2)
def kS (s:cj)(r:Rec):cj×Int:=
 if gy s=false then(default,1)else if(fC r).2≠0 then(default,(fC r).2)else if 0<=r7 s.es r.name r.v 0 then(default,8)else if 64<=s.es.length then(default,10)else(⟨s.name,s.es++[⟨r,wj r,false⟩]⟩,0)
def ov (s:cj)(nm:av)(v:bO)(on:Bool):cj×Int:=
 if gy s=false then(default,1)else if r7 s.es nm v 0<0 then(default,9)else(⟨s.name,s.es.set (r7 s.es nm v 0).toNat {s.es[(r7 s.es nm v 0).toNat]! with off:=on}⟩,0)
def ra (l:List cj)(k:Nat)(p:cj×Int):List cj:=if p.2=0 then l.set k p.1 else l
def lN (l:List cj):List cj×Gs:=
 let k:=(g.val l.length).toNat
 let nm:=cB[(g.aI.val 4).toNat]!
 let v:=bT[(g.aI.aI.val 4).toNat]!
 let h:=g.aI.aI.aI
 if h.val 6=0 then(ra l k (ov l[k]! nm v (decide (0<h.aI.val 3))),h.aI.aI)else(ra l k (kS l[k]! (pw h.aI nm v 2).1),(pw h.aI nm v 2).2)
def NX:List cj:=[⟨F9,[]⟩,⟨Ef,[]⟩]
def pS (g:Gs):Nat->List cj×Gs
 |0=>(NX,g)
 |i+1=>lN (pS g i).2 (pS g i).1
def GD (ks:List Int)(most:Int):List cj:=(pS (⟨ks,0⟩:Gs).aI ((⟨ks,0⟩:Gs).val (most+1)).toNat).1
def Ya (s:av):0<=Fg l s/\Fg l s<=l.length:=by
 unfold Fg;rcases gW (f:=λt=>decide (t=s)) (l:=l) (k:=0)with⟨h,_⟩|⟨j,h,h2,_⟩
 .rw[h];simp
 .rw[h,ai ae];omega
def oZ (n:Int)(g g':Gs):Prop:=g.i<=g'.i/\g'.i<=g.i+n
def oZ.tr {n k:Int}{a b c:Gs}(h:oZ n a b)(h2:oZ k b c):oZ (n+k) a c:=by unfold oZ at*;omega
def xF (own:av):oZ 2 g (cQ g own).2:=by unfold cQ oZ;split<;>simp only[Gs.aI]<;>omega
def B4 (own:av):oZ 4 g (dD g own).2:=by
 have:=xF g own;simp only[oZ,dD,Gs.aI]at*;omega
def Wy (own:av):oZ 9 g (gK g own).2:=by
 have h1:=B4 g own;have h2:=B4 (dD g own).2.aI own;unfold gK;simp only[oZ,Gs.aI]at*
 split
 .simp only;omega
 .split<;>simp only<;>omega
def Sk (own:av):oZ 11 g (mr g own).2:=by
 have h1:=Wy g own;simp only[oZ,mr,jB,H4,Gs.aI]at*;omega
def H7:∀(l:List bp) (g:Gs),oZ l.length g (ik l g).2
 |[],g=>by simp[oZ,ik]
 |n::r,g=>by
  have h1:=H7 r g;have h2:=H7 r g.aI;simp only[oZ,Gs.aI,bH]at*
  rw[ik];split
  .split<;>simp only[Gs.aI]<;>omega
  .omega
def xr (own:av)(g:Gs):∀i:Nat,oZ (11*i) g (nS own g i).2/\(nS own g i).1.length=i
 |0=>⟨by simp[oZ,nS],rfl⟩
 |i+1=>by
  have h1:=xr own g i;have h2:=Sk (nS own g i).2 own;simp only[oZ,nS,bV,bH,b7]at*
  omega
def Hg (own:av):oZ 4 g (eE g own).2:=by
 have:=xF g.aI own;unfold eE;simp only[oZ,Gs.aI]at*
 split<;>simp only<;>omega
def Hs (l:List bp):oZ (1+l.length) g (lu g l).2:=by
 have:=H7 l g.aI;unfold lu;simp only[oZ,Gs.aI,mV,ofG]at*
 split<;>simp only<;>omega
def alc (nm:av)(v:bO):oZ 30 g (pw g nm v 2).2:=by
 have h4:=(g.S8 (2+1)).1 ae;show oZ 30 g (lu (eE (nS nm g.aI (g.val (2+1)).toNat).2 nm).2 (nS nm g.aI (g.val (2+1)).toNat).1).2;generalize g.val (2+1)=z at h4⊢;have h1:=xr nm g.aI z.toNat;have h2:=Hg (nS nm g.aI z.toNat).2 nm;have h3:=Hs (eE (nS nm g.aI z.toNat).2 nm).2 (nS nm g.aI z.toNat).1;generalize nS nm g.aI z.toNat=a at*
 generalize eE a.2 nm=b at*
 generalize lu b.2 a.1=c at*
 simp only[oZ,Gs.aI]at*
 omega
def akU (l:List cj):oZ 34 g (lN g l).2:=by
 have h1:=alc g.aI.aI.aI.aI cB[(g.aI.val 4).toNat]! bT[(g.aI.aI.val 4).toNat]!;by_cases h:g.aI.aI.aI.val 6=0
 .rw[show lN g l=_ from ak h];simp only[oZ,Gs.aI];omega
 .rw[show lN g l=_ from ai h];simp only[oZ,Gs.aI]at*;omega
def aex (l:List cj):(lN g l).1.length=l.length:=by
 simp only[lN,ra];split<;>simp only<;>split<;>simp
def SB (g:Gs):∀i:Nat,oZ (34*i) g (pS g i).2/\(pS g i).1.length=2
 |0=>⟨by simp[oZ,pS],rfl⟩
 |i+1=>by
  have h1:=SB g i;have h2:=akU (pS g i).2 (pS g i).1;have h3:=aex (pS g i).2 (pS g i).1;simp only[oZ,pS]at*
  omega
def yU [Inhabited α]{l:List α}{P:α->Prop}(hd:P default)(h:∀x∈l,P x)(i:Nat):P l[i]! :=by
 by_cases hi:i<l.length
 .exact h _ (aq hi)
 .rw[show l[i]! =default by simp[List.getElem!_eq_getElem?_getD,List.getElem?_eq_none (Nat.le_of_not_lt hi)]];exact hd
def y8 (i:Nat):cB[i]!.length<=3:=yU (P:=λs:av=>s.length<=3) a7 a7 i
def ze (own:av):(cQ g own).1.length<=3:=by
 unfold cQ;split<;>exact y8 _
def Ig {g:Gs}:kj j4[(g.val 8).toNat]! :=by
 have:=g.eP 8 ae;exact aq (by simp only[j4,bH,b7];omega)
def S9 (own:av):(dD g own).1.sm:=⟨⟨by have:=ze g own;simp only[dD];omega,Ig⟩,λ_ h=>cw⟩
def ahN (own:av):∀w∈(gK g own).1,w.sm:=by
 have h1:=S9 g own;have h2:=S9 (dD g own).2.aI own;unfold gK;split
 .intro w hw;simp only[bU,de,or_false]at hw;rcases hw with rfl|rfl<;>assumption
 .split
  .intro w hw;rw[aJ.1 hw];exact⟨h1.1,λt ht=>by rw[aJ.1 ht];decide⟩
  .intro w hw;rw[aJ.1 hw];exact h1
def aef (own:av):(mr g own).1.sm:=by
 refine⟨ahN g own, ?_, ?_⟩
 .show oR (jB (gK g own).2).1;unfold jB oR;simp only;split
  .decide
  .split<;>decide
 .show(H4 (jB (gK g own).2).2).1.length<=1048576;unfold H4;simp only;split<;>decide
def Se (own:av)(g:Gs):∀i,∀n∈(nS own g i).1,n.sm
 |0=>λ_ h=>by cases h
 |i+1=>λn h=>by
  rcases List.mem_append.1 h with h|h
  .exact Se own g i n h
  .rw[aJ.1 h];exact aef _ _
structure iH where
 name:av
 shelf:av
 deriving Inhabited,DecidableEq
def iH.D (x:iH):D:=.agg [.str x.name,.str x.shelf]
structure kB where
 name:av
 range:av
 deriving Inhabited,DecidableEq
def kB.D (x:kB):D:=.agg [.str x.name,.str x.range]
structure gI where
 r:Rec
 ps:List iH
 hs:List kB
 deriving Inhabited,DecidableEq
def gI.D (x:gI):D:=.agg [.str x.r.name,.int .i64 x.r.v.major,.int .i64 x.r.v.minor,.int .i64 x.r.v.patch,.str x.r.v.pre,.str x.r.v.build,.sl 3 (x.r.needs.map bp.D),.sl 3 (x.r.bars.map mF.D),.sl 2 (x.r.feats.map bY.D),.sl 2 (x.ps.map iH.D),.sl 2 (x.hs.map kB.D)]
def MW (l:List iH)(i:Nat):Int:=if(dc l[i]!.name=false\/dc l[i]!.shelf=false)\/(0<i/\Op.bytesLess l[i-1]!.name l[i]!.name=false)then 15 else 0
def CS (l:List kB)(i:Nat):Int:=if dc l[i]!.name=false\/(0<i/\Op.bytesLess l[i-1]!.name l[i]!.name=false)then 4 else if qW l[i]!.range=false then 6 else 0
def Dv (l:List iH):Int×Int:=gE (MW l) 0 l.length
def CU (l:List kB):Int×Int:=gE (CS l) 0 l.length
def kE (m:gI):Int×Int:=if ¬(cV m.r).1=0 then cV m.r else if 8<m.ps.length\/8<m.hs.length then(3,0)else if ¬(Dv m.ps).1=0 then Dv m.ps else CU m.hs
def Yz (m:gI):Prop:=iq m.r/\∀h∈m.hs,kj h.range
structure uG where
 r:Rec
 sh:Int
 deriving Inhabited,DecidableEq
def uG.D (x:uG):D:=.agg [.str x.r.name,.int .i64 x.r.v.major,.int .i64 x.r.v.minor,.int .i64 x.r.v.patch,.str x.r.v.pre,.str x.r.v.build,.sl 3 (x.r.needs.map bp.D),.sl 3 (x.r.bars.map mF.D),.sl 2 (x.r.feats.map bY.D),.int .i64 x.sh]
def uK (l:List uG):D:=.sl 10 (l.map uG.D)
instance keyDec:DecidableEq Key:=λa b=>decidable_of_iff (a.n=b.n/\a.f=b.f) (by cases a;cases b;simp)
structure jk where
 k:Key
 s:cu
 deriving Inhabited,DecidableEq
def jk.D (a:jk):D:=.agg [.str a.k.n,.str a.k.f,.sl 14 (a.s.rel.map Span.D),.sl 14 (a.s.pr.map Span.D)]
abbrev fN:=List jk
def dU (r:fN):D:=.sl 4 (r.map jk.D)
structure cx where
 l:List gI
 shop:List cj
 e:Env
 keeps:List Kp
 pins:List iH
 deriving Inhabited,DecidableEq
def cx.D (y:cx)(f:D):D:=.agg [.sl 11 (y.l.map gI.D),.sl 2 (y.shop.map cj.D),.str y.e.e0,.str y.e.e1,.str y.e.e2,.sl 6 (y.keeps.map Kp.D),.sl 2 (y.pins.map iH.D),f]
variable(y:cx)
def linW:av:=[108,105,110,117,120]
def Gj (w:av)(e:Env):Bool:=if w=osY then decide (e.e0=[]) ||decide (e.e0=linW)else if w=osN then !decide (e.e0=linW)else true
def fg (x:c9):List Key:=(if x.bare=true then(if x.feats=[]then [⟨x.name,[]⟩]else [])else [⟨x.name,ll⟩])++x.feats.map λf=>⟨x.name,f⟩
def bC (a b c:Int):Cut:=⟨0,⟨a,b,c,[],[]⟩,false⟩
def a1W:av:=[97,46,49]
def gJ:List cu:=[⟨QU,[]⟩,⟨[⟨bC 1 0 0,bC 2 0 0⟩],[]⟩,⟨[⟨bC 1 2 0,bC 1 2 1⟩],[]⟩,⟨[⟨bC 1 2 0,Md⟩],[]⟩,⟨[⟨CE,bC 2 0 0⟩],[]⟩,
 ⟨[⟨bC 2 0 0,bC 3 0 0⟩],[⟨⟨0,⟨2,0,0,a1W,[]⟩,false⟩,bC 2 0 0⟩]⟩,⟨[⟨bC 1 0 0,bC 1 0 1⟩,⟨bC 2 0 0,bC 2 0 1⟩],[]⟩,⟨[⟨CE,bC 1 2 0⟩,⟨bC 1 2 1,Md⟩],[]⟩]
def ff (s:av):cu:=gJ[(iD (λt=>decide (t=s)) j4 0).toNat]!
def plnW:av:=[112,108,97,110,57]
def qE:List Env:=[⟨[],[],[]⟩,⟨linW,[],[]⟩,⟨plnW,[],[]⟩]
def kF (e:Env):Prop:=e∈qE
def iG (n:bp):List fN:=if n.any.length=1 then(fg n.any[0]!).map λk=>[⟨k,ff n.any[0]!.range⟩]else [n.any.map λw=>⟨(fg w)[0]!,ff w.range⟩]
def Bo (e:Env)(o:av)(n:bp):List fN:=if n.option=o/\Gj n.when' e=true then iG n else []
def qR (ns:List bp)(e:Env)(o:av):List fN:=ns.flatMap (Bo e o)
def rL (e:Env)(nm ft:av)(n:bp):List fN:=if(n.any.length=1/\n.any[0]!.name=nm)/\Gj n.when' e=true then(if n.option=[]then []else iG n)++[[⟨⟨nm,ft⟩,ff n.any[0]!.range⟩]]else []
def iT (ns:List bp)(e:Env)(nm ft:av):List fN:=ns.flatMap (rL e nm ft)
def mj (r:Rec)(e:Env)(s:av):List fN:=if(bK s).1=1 then [[⟨⟨r.name,(bK s).2.1⟩,dG r.v⟩]]else if(bK s).1=2 then qR r.needs e (bK s).2.1 else iT r.needs e (bK s).2.1 (bK s).2.2
def uY (l:List bY)(ft:av):List av:=if findF l ft 0<0 then []else l[(findF l ft 0).toNat]!.of
def cJ (r:Rec)(e:Env)(ft:av):List fN:=if ft=[]then qR r.needs e []else [[⟨⟨r.name,[]⟩,dG r.v⟩]]++(uY r.feats ft).flatMap (mj r e)
def eH (l:List gI):List fN:=l.map λm=>[⟨⟨m.r.name,ll⟩,dG m.r.v⟩]
def fI:Key:=⟨[],[]⟩
def e7 (a b:Key):Bool:=Op.bytesLess a.n b.n ||(decide (a.n=b.n)&&Op.bytesLess a.f b.f)
def Fh (l:List Key)(k:Key)(i:Nat):Nat:=i+((l.drop i).takeWhile λx=>e7 x k).length
def sN (l:List Key)(k:Key):List Key:=if Fh l k 0<l.length/\l[Fh l k 0]! =k then l else(l.take (Fh l k 0)++[k])++l.drop (Fh l k 0)
def eu (l:List Key)(k:Key):Int:=iD (λx=>decide (x=k)) l 0
def isM (nm:av)(m:gI):Bool:=decide (m.r.name=nm)
def lM (l:List gI)(nm:av):Int:=iD (isM nm) l 0
def CP (nm:av)(s:cj):Bool:=s.es.any λx=>decide (x.r.name=nm)
def Ay (l:List iH):Bool:=bI (λi=>decide (MW l i=0)) 0 l.length
def Fu (l:List iH)(nm:av):Int:=iD (λp=>decide (p.name=nm)) l 0
def fU (pins:List iH)(nm:av):Int×Int:=
 if eR shop=false then(0,1)else if Ay pins=false then(0,15)
 else if 0<=Fu pins nm then(if mz shop pins[(Fu pins nm).toNat]!.shelf<0 then(0,12)else(mz shop pins[(Fu pins nm).toNat]!.shelf,0))
 else if iD (CP nm) shop 0<0 then(0,9)else(iD (CP nm) shop 0,0)
def Bj (es:List j8)(l:List Int)(i k:Nat):Nat:=k+((l.drop k).takeWhile λj=>decide (jm es[j.toNat]!.r.v es[i]!.r.v<0)).length
def HF (es:List j8)(l:List Int)(i:Nat):List Int:=(l.take (Bj es l i 0)++[(i:Int)])++l.drop (Bj es l i 0)
def eF (es:List j8)(nm:av):Nat->List Int
 |0=>[]
 |i+1=>if es[i]!.r.name=nm then HF es (eF es nm i) i else eF es nm i
def kg (s:cj)(nm:av):List Int:=if gy s=false then []else eF s.es nm s.es.length
def cH (pins:List iH)(nm:av):Int×List Int×Int:=if(fU shop pins nm).2≠0 then(0,[],(fU shop pins nm).2)else((fU shop pins nm).1,kg shop[(fU shop pins nm).1.toNat]! nm,0)
def Mb (ks:List Kp)(r:Rec):Bool:=ks.any λk=>decide (k.name=r.name)&&MG k.v r.v
def kL (l:List gI)(nm:av):cu:=if l[0]!.hs.length≠0/\l[0]!.hs[0]!.name=nm then ff l[0]!.hs[0]!.range else pH
def S3 (nm:av)(x:j8):Bool:=(!x.off ||Mb y.keeps x.r)&&pe (kL y.l nm) x.r.v
def iS (y:cx)(nm:av)(at':Nat):List Int->List uG
 |[]=>[]
 |i::r=>(if S3 y nm y.shop[at']!.es[i.toNat]! =true then [⟨y.shop[at']!.es[i.toNat]!.r,(at':Int)⟩]else [])++iS y nm at' r
def dI (nm:av):List uG:=
 if 0<=lM y.l nm then [⟨y.l[(lM y.l nm).toNat]!.r,-1⟩]else if(cH y.shop y.pins nm).2.2≠0 then []else iS y nm (cH y.shop y.pins nm).1.toNat (cH y.shop y.pins nm).2.1
def YU (ft:av)(x:uG):Bool:=decide (ft=[]) ||isF x.r.feats ft
def eG (k:Key):List uG:=(dI y k.n).filter (YU k.f)
def cZ (k:Key):List fN:=if k=fI then eH y.l else(eG y k).flatMap λx=>cJ x.r y.e k.f
structure oX where
 all:List Key
 todo:List Key
 deriving Inhabited,DecidableEq
def mw (s:oX)(a:jk):oX:=if s.all.length<(sN s.all a.k).length then⟨sN s.all a.k,s.todo++[a.k]⟩else s
def P4 (s:oX)(r:List fN):oX:=r.foldl (λs row=>row.foldl mw s) s
def Bt (s:oX):oX:=P4 ⟨s.all,s.todo.drop 1⟩ (cZ y s.todo[0]!)
def Bs (y:cx):Nat->oX->Option (List Key)
 |0,_=>none
 |n+1,s=>if s.todo.length=0 then some s.all else if 48<(Bt y s).all.length then none else Bs y n (Bt y s)
def nB:oX:=⟨[fI],[fI]⟩
def mN:Option (List Key):=Bs y 49 nB
def dF (all:List Key)(l:List fN):List nM:=l.map λr=>r.map λa=>⟨eu all a.k,a.s⟩
def qz (all:List Key)(e:Env)(b:mF):List Want:=if 0<=eu all ⟨b.name,[]⟩/\Gj b.when' e=true then [⟨eu all ⟨b.name,[]⟩,ff b.range⟩]else []
def wK (all:List Key)(r:Rec)(e:Env):List Want:=r.bars.flatMap (qz all e)
def dA (all:List Key)(k:Key)(x:uG):fj:=⟨x.r.v,x.sh,dF all (cJ x.r y.e k.f),if k.f=[]then wK all x.r y.e else []⟩
def ot (c:fj):Bool:=decide (24<c.needs.length) ||decide (24<c.bars.length)
def eo (all:List Key)(k:Key):List fj×Bool:=
 if k=fI then([⟨zV,-1,dF all (eH y.l),[]⟩],true)
 else if((eG y k).map (dA y all k)).any ot=true then([],false)else((eG y k).map (dA y all k),decide ((dI y k.n).length<=16))
def qi (all:List Key)(k:Key):dz:=⟨k.n,k.f,(eo y all k).1⟩
def nF (y:cx)(all:List Key):Nat->List dz×Bool
 |0=>([],true)
 |i+1=>if(nF y all i).2=true then((nF y all i).1++[qi y all all[i]!],(eo y all all[i]!).2)else nF y all i
def cK:cA×Bool:=match mN y with
 |none=>(⟨[]⟩,false)
 |some all=>(⟨(nF y all all.length).1⟩,(nF y all all.length).2)
def gu (l:List gI):List iH:=l[0]!.ps
def fV (l:List gI)(shop:List cj)(e:Env)(keeps:List Kp):cA×Int:=
 if eR shop=false\/pd e=false then(⟨[]⟩,1)else if(gu l).any (λp=>decide (mz shop p.shelf<0))=true then(⟨[]⟩,12)
 else if(cK ⟨l,shop,e,keeps,gu l⟩).2=false then(⟨[]⟩,10)else((cK ⟨l,shop,e,keeps,gu l⟩).1,0)
end Go.Abs
