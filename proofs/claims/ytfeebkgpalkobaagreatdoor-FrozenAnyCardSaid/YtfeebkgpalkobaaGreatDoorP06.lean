/- A part of the proofs. -/
import Derived.Test.YtfeebkgpalkobaaGreatDoorP05
set_option linter.all false
set_option maxRecDepth 60000
set_option maxHeartbeats 2000000
namespace Go.Abs
section
variable [di]
section
variable {P:Program} {ν:List (Nat×Nat)} {cr:List Nat} {Y:Ctx}
def RD.re {x x':X}{σ:List (Nat×Nat)}(hw:x'.w=x.w)(hI:x'.I=x.I)(hβ:∀l l',gD 0 σ l=some l'->x'.β l'=x.β l){v:Value}{d d':D}(hv:RD ν x v d)(hd:Pv 0 σ d d'):RD ν x' v d':=by
 rcases hd with⟨rfl,hn⟩|hd|hd
 .exact hv.aZ hn (fun _ h=>by rw[hI];exact h) (fun _ _=>by rw[hw])
 .grind [RD.rn]
 grind [RD.nl]
def mG.re {x x':X}{σ:List (Nat×Nat)}(hw:x'.w=x.w)(hI:x'.I=x.I)(hβ:∀l l',gD 0 σ l=some l'->x'.β l'=x.β l){b base tot:Nat}{b0 blk:bL}(o2:mG ν x b base tot b0)(q3:lZ 0 σ b0 blk):mG ν x' b base tot blk:=by
 cases b0 with
 |iter s p=>
  cases blk with
  |iter s' p'=>simp only[lZ]at q3;obtain⟨rfl,rfl⟩:=q3;simp only[mG,hw]at o2⊢;exact o2
  |_=>simp[lZ]at q3
 |row s=>
  cases blk with
  |row s'=>simp only[lZ]at q3;subst q3;simp only[mG,hw]at o2⊢;exact o2
  |_=>simp[lZ]at q3
 |bld o n u=>
  cases blk with
  |bld o' n' u'=>
   simp only[lZ]at q3;obtain⟨q3,rfl,rfl⟩:=q3;obtain⟨p1,v,p2,p3⟩:=o2;refine⟨p1,v,by rw[hw];exact p2, ?_⟩;cases o with
   |none=>simp only at q3;subst q3;exact p3
   |some l0=>
    obtain⟨l1,q4,rfl⟩:=q3;obtain⟨g,t,p4,p5,p6⟩:=p3;exact⟨g,t,p4,p5,by rw[hβ l0 l1 q4];exact p6⟩
  |_=>simp[lZ]at q3
 |mpb s=>
  cases blk with
  |mpb s'=>
   simp only[lZ]at q3;subst q3;obtain⟨p1,es2,cl,p2,p3,p4,p5⟩:=o2;exact⟨p1,es2,cl,by rw[hw];exact p2,p3,p4,fun i hi=>(p5 i hi).aZ (cH p1 i) (fun _ h=>by rw[hI];exact h) (fun _ _=>by rw[hw])⟩
  |_=>simp[lZ]at q3
 |buf k es=>
  cases blk with
  |iter s' p'=>simp[lZ]at q3
  |row s'=>simp[lZ]at q3
  |bld o' n' u'=>simp[lZ]at q3
  |mpb s'=>simp[lZ]at q3
  |buf k' es'=>
   simp only[lZ]at q3;obtain⟨rfl,q3⟩:=q3;obtain⟨p1,p2,cc,T,fr,p3,p4,p5,p6⟩:=o2;rw[<-hw]at p3;rcases q3 with⟨rfl,hn⟩|q3|q3
   .exact⟨p1,p2,cc,T,fr,p3,p4,p5,fun i hi=>⟨(p6 i hi).1,fun j hj=>⟨((p6 i hi).2 j hj).1,RD.re hw hI hβ ((p6 i hi).2 j hj).2 (.inl ⟨rfl,j1 (cH hn i) j⟩)⟩⟩⟩
   .obtain⟨r1,r2⟩:=gR q3;refine⟨p1,ah,cc,T,fr,p3,p4,p5,fun i hi=>?_⟩;have hi':i<es.length:=ah;obtain⟨s1,s2⟩:=Ac (r2 i hi');exact⟨s1.trans (p6 i hi').1,fun j hj=>⟨((p6 i hi').2 j hj).1,RD.re hw hI hβ ((p6 i hi').2 j hj).2 (.inr (.inl (s2 j (by rw[(p6 i hi').1];exact hj))))⟩⟩
   .obtain⟨r1,r2⟩:=oN q3;refine⟨p1,ah,cc,T,fr,p3,p4,p5,fun i hi=>?_⟩;have hi':i<es.length:=ah;obtain⟨s1,s2⟩:=zd (r2 i hi');exact⟨s1.trans (p6 i hi').1,fun j hj=>⟨((p6 i hi').2 j hj).1,RD.re hw hI hβ ((p6 i hi').2 j hj).2 (.inr (.inr (s2 j (by rw[(p6 i hi').1];exact hj))))⟩⟩
def HN {lo c:Nat}{σ:List (Nat×Nat)}{l l':Nat}(h0:fk 0 c σ=true)(h:gD 0 σ l=some l'):l'<c/\(l,l')∈σ:=by
 obtain⟨h1,h2⟩:=sn h0 h
 grind
def sa {c:Nat}:∀{σ:List (Nat×Nat)}{a b:Nat},fk 0 c σ=true->(a,b)∈σ->gD 0 σ a=some b
 |[],a,b,_,h=>by cases h
 |(a0,b0)::r,a,b,h0,h=>by
  unfold gD;simp only[fk,br,List.all_eq_true,cW]at h0;obtain⟨_,_,p4,p5⟩:=h0;rcases cM.1 h with h|h
  .simp only[dm]at h;obtain⟨rfl,rfl⟩:=h;simp
  .have:=(p4 _ h).1;simp only at this;have hne:Nat.beq a0 a=false:=by
    cases hb:Nat.beq a0 a with
    |false=>rfl
    |true=>obtain rfl:=Nat.eq_of_beq_eq_true hb;simp at this
   rw[hne];exact sa p5 h
structure Fr (σi σo:List (Nat×Nat))(q q1:Nat)(m0 m1:List (Nat×bL))(st st':St):Prop where
 oki:fk 0 q σi=true
 oko:fk 0 st'.nx σo=true
 nx:st.nx<=st'.nx
 lt:∀l i,(l,i)∈σi->look st.m l≠none
 io:∀i l,(i,l)∈σo->(l,i)∈σi\/st.nx<=l
 m0:∀i b,look m0 i=some b->∃l b',(l,i)∈σi/\look st.m l=some b'/\lZ 0 σi b' b
 m1:∀l b,look st'.m l=some b->(∃i b1,(i,l)∈σo/\look m1 i=some b1/\lZ 0 σo b1 b)\/(kv σo l=none/\(∀i,(l,i)∉σi)/\look st.m l=some b)
def P2 {fid:Nat}{fn:Func}{af:ax}{K:D->St->Prop}(hΓ:Ok P ν cr Y)(hmix:P.follows .mixedOrders=true)(hf:P.funcs[fid]? =some fn)(hc:compile P ν cr fn=some af)
  {x:X} {args:Array Value} {ds cs:List D} {st:St} {σi:List (Nat×Nat)} {q:Nat} {m0:List (Nat×bL)} (hl:args.size=ds.length) (hargs:∀i,i<ds.length->RD ν x (args.getD i undef) (ds.getD i .any))
  (hs:eK ν x (look st.m)) (hfr:ez st x) (hlen:cs.length=ds.length) (hds:∀i,i<ds.length->Pv 0 σi (ds.getD i .any) (cs.getD i .any)) (hnp:cs.length=af.np)
  (oki:fk 0 q σi=true) (hlt:∀l i,(l,i)∈σi->look st.m l≠none) (hm0:∀i b,look m0 i=some b->∃l b',(l,i)∈σi/\look st.m l=some b'/\lZ 0 σi b' b)
  (hw:bO (Y.at q) af.body (fun e env st1=>e.home/\mN st1.m env af.res/\∃(σo:List (Nat×Nat)) (q1:Nat) (m1:List (Nat×bL)) (st':St) (vd':D),Fr σi σo q q1 m0 m1 st st'/\Pv 0 σo (jl af env st1) vd'/\K vd' st'/\∀i,look st1.m i=look m1 i) (fC af cs) ⟨q,m0⟩):
  Calls P fid args x.w fun
   | .returned v,w'=>∃x' d st',K d st'/\x'.w=w'/\Step x x'/\RD ν x' v d/\eK ν x' (look st'.m)/\ez st' x'
   |_,_=>False:=by
 obtain⟨body,c1,c2,c3,c4,c5,c6⟩:=fI hc
 let x0:X:=⟨x.w,x.I,fun i=>(kv σi i).bind x.β⟩
 have hx0:∀l i,(l,i)∈σi->x0.β i=x.β l:=fun l i h=>by simp only[x0,vv oki h,Option.bind_some]
 have hβ0:∀l i,gD 0 σi l=some i->x0.β i=x.β l:=fun l i h=>hx0 l i (HN (lo:=0) oki h).2
 have hx0':∀i p,x0.β i=some p->∃l,(l,i)∈σi/\x.β l=some p/\i<q:=by
  intro i p h;obtain⟨l,h1,h2⟩:=Option.bind_eq_some_iff.1 (show(kv σi i).bind x.β=some p from h);exact⟨l,kA h1,h2,pN oki (kA h1)⟩
 have hs0:eK ν x0 (look m0):=by
  refine⟨fun i blk b base tot e1 e2=>?_,fun i j b base tot base' tot' e1 e2 e3 e4=>?_,hs.imm,fun i b base tot e=>?_,di.le x _ (fun _ h=>h) (fun _ _=>rfl) hs.gd⟩
  .obtain⟨l,b',h1,h2,h3⟩:=hm0 i blk e1;rw[hx0 l i h1]at e2;obtain⟨o1,o2⟩:=hs.own l b' b base tot h2 e2;exact⟨o1,mG.re (x:=x) (x':=x0) rfl rfl hβ0 o2 h3⟩
  .obtain⟨l,h1,h2,_⟩:=hx0' i _ e3;obtain⟨l',h1',h2',_⟩:=hx0' j _ e4;have:=hs.inj l l' b base tot base' tot' (hlt _ _ h1) (hlt _ _ h1') h2 h2';subst this;have:=sa oki h1;rw[sa oki h1']at this;exact(bd this).symm
  .obtain⟨l,_,h2,_⟩:=hx0' i _ e;exact hs.ek l b base tot h2
 have hf0:ez ⟨q,m0⟩ x0:=by
  refine⟨fun i hi=>?_,fun i hi=>?_⟩
  .cases h:x0.β i with
   |none=>rfl
   |some p=>obtain⟨_,_,_,h4⟩:=hx0' i p h;simp only at hi;omega
  .cases h:look m0 i with
   |none=>exact absurd h hi
   |some b=>obtain⟨l,b',h1,_⟩:=hm0 i b h;exact pN oki h1
 have hi:=qb (P:=P) (ν:=ν) (cr:=cr) (x:=x0) (ds:=cs) (st:=⟨q,m0⟩) c4 c5 c6 (args:=args) ah hnp (fun i hi=>RD.re (x:=x) (x':=x0) rfl rfl hβ0 (hargs i ah) (hds i ah)) hs0 hf0;have hcs:=nK (C:={P,ν,cr,slots:=slotsOf fn,ntmps:=fn.ntmps,vm:=GJ P fn}) (hΓ.at q) (kH fn).1 hmix x0 (fun l h=>hf0.β l h) body af.body c2 _ _ _ _ x0 hw hi (.refl _);refine calls_of_wp hf c1 (wp_mono hcs fun e a w' hp=>?_);obtain⟨e',x',env',st1,he,hxw,hst,hi',hh,hro,σo,q1,m1,st',vd',hfm,hvd,hK,hlk⟩:=hp;subst hxw;obtain⟨v,r1,r2,r3⟩:=mC hΓ.small hi' c3 hro
 let x2:X:=⟨x'.w,x'.I,fun l=>match kv σo l with|some i=>x'.β i|none=>x.β l⟩
 have hx2:∀i l,(i,l)∈σo->x2.β l=x'.β i:=fun i l h=>by simp only[x2,vv hfm.oko h]
 have hx2n:∀l,kv σo l=none->x2.β l=x.β l:=fun l h=>by simp only[x2,h]
 have hβ2:∀i l,gD 0 σo i=some l->x2.β l=x'.β i:=fun i l h=>hx2 i l (HN (lo:=0) hfm.oko h).2
 have hx0s:∀l i p,(l,i)∈σi->x.β l=some p->x'.β i=some p:=fun l i p h e=>hst.β _ _ (by rw[hx0 l i h];exact e)

 have hnew:∀i p,x'.β i=some p->(∃l,(l,i)∈σi/\x.β l=some p)\/x.w.heap.size<=p.1\/∃l p',(∃j,(l,j)∈σi)/\x.β l=some p'/\p'.1=p.1:=by
  intro i p e;rcases hst.newβ i p e with h|h|⟨j,p',h1,h2⟩
  .obtain⟨l,h3,h4,_⟩:=hx0' i p h;exact .inl ⟨l,h3,h4⟩
  .exact .inr (.inl h)
  .obtain⟨l,h3,h4,_⟩:=hx0' j p' h1;exact .inr (.inr ⟨l,p',⟨j,h3⟩,h4,h2⟩)
 have hstep:Step x x2:=by
  refine⟨hst.os,hst.tape,hst.output,hst.size,hst.I,hst.lK,fun l p hp=>?_,fun b hb hn=>hst.old b hb fun i p h e=>?_,fun b h=>?_,fun l p h=>?_⟩
  .cases h:kv σo l with
   |none=>rw[hx2n l h];exact hp
   |some i=>
    have hm:=kA h;rw[hx2 i l hm];rcases hfm.io i l hm with h2|h2
    .exact hx0s l i p h2 hp
    .rw[hfr.β l h2]at hp;cases hp
  .obtain⟨l,_,h2,_⟩:=hx0' i p h;exact hn l p h2 e
  .rcases hst.newI b h with h|h|⟨i,p,h1,h2⟩
   .exact .inl h
   .exact .inr (.inl h)
   .obtain⟨l,_,h3,_⟩:=hx0' i p h1;exact .inr (.inr ⟨l,p,h3,h2⟩)
  .cases h1:kv σo l with
   |none=>rw[hx2n l h1]at h;exact .inl h
   |some i=>
    have hm:=kA h1;rw[hx2 i l hm]at h;rcases hnew i p h with⟨l',h2,h3⟩|h2|⟨l',p',_,h3,h4⟩
    .exact .inr (.inr ⟨l',p,h3,rfl⟩)
    .exact .inr (.inl h2)
    .exact .inr (.inr ⟨l',p',h3,h4⟩)
 have hsim:eK ν x2 (look st'.m):=by
  refine⟨fun l blk b base tot e1 e2=>?_,fun l1 l2 b base tot base' tot' e1 e2 e3 e4=>?_,hi'.lC.imm,fun l b base tot e=>?_,di.le x' _ (fun _ h=>h) (fun _ _=>rfl) hi'.lC.gd⟩
  .rcases hfm.m1 l blk e1 with⟨i,b1,h1,h2,h3⟩|⟨h1,h2,h3⟩
   .rw[hx2 i l h1]at e2;obtain⟨o1,o2⟩:=hi'.lC.own i b1 b base tot (by rw[hlk];exact h2) e2;exact⟨o1,mG.re (x:=x') (x':=x2) rfl rfl hβ2 o2 h3⟩
   .rw[hx2n l h1]at e2;obtain⟨o1,o2⟩:=hs.own l blk b base tot h3 e2;have hlt:=hs.ek l b base tot e2;have hno:∀i p,x0.β i=some p->p.1≠b:=by
     rintro i ⟨b',base',tot'⟩ h e;simp only at e;subst e;obtain⟨l',h4,h5,_⟩:=hx0' i _ h;have:=hs.inj l' l b' base' tot' base tot (hfm.lt _ _ h4) (by rw[h3];simp) h5 e2;subst this;exact h2 _ h4
    refine⟨fun h=>?_,o2.mono hstep.le (hst.old b hlt hno)⟩;rcases hst.newI b h with h|h|⟨i,p,h4,h5⟩
    .exact o1 h
    .exact absurd hlt (Nat.not_lt.2 h)
    .exact hno i p h4 h5
  .have mix:∀l1 l2 base tot base' tot',(∃i b1,(i,l1)∈σo/\look m1 i=some b1)->kv σo l2=none->(∀i,(l2,i)∉σi)->look st.m l2≠none->x2.β l1=some (b,base,tot)->x2.β l2=some (b,base',tot')->False:=by
    rintro l1 l2 base tot base' tot' ⟨i,b1,h1,h2⟩ h3 h4 h5 e3 e4;rw[hx2 i l1 h1]at e3;rw[hx2n l2 h3]at e4;rcases hnew i _ e3 with⟨l',h6,h7⟩|h6|⟨l',⟨pb,pt,pq⟩,⟨j,h6⟩,h7,h8⟩
    .have:=hs.inj l' l2 b base tot base' tot' (hfm.lt _ _ h6) h5 h7 e4;subst this;exact h4 _ h6
    .have:=hs.ek l2 b base' tot' e4;simp only at h6;omega
    .simp only at h8;subst h8;have:=hs.inj l' l2 pb pt pq base' tot' (hfm.lt _ _ h6) h5 h7 e4;subst this;exact h4 _ h6
   cases f1:look st'.m l1 with
   |none=>exact absurd f1 e1
   |some b1=>
    cases f2:look st'.m l2 with
    |none=>exact absurd f2 e2
    |some b2=>
     rcases hfm.m1 l1 b1 f1 with⟨i,c1,h1,h2,_⟩|⟨h1,h2,h3⟩<;>rcases hfm.m1 l2 b2 f2 with⟨j,c2,k1,k2,_⟩|⟨k1,k2,k3⟩
     .rw[hx2 i l1 h1]at e3;rw[hx2 j l2 k1]at e4;have:=hi'.lC.inj i j b base tot base' tot' (by rw[hlk,h2];simp) (by rw[hlk,k2];simp) e3 e4;subst this;have:=sa hfm.oko h1;rw[sa hfm.oko k1]at this;exact(bd this).symm
     .exact(mix l1 l2 base tot base' tot' ⟨i,c1,h1,h2⟩ k1 k2 (by rw[k3];simp) e3 e4).elim
     .exact(mix l2 l1 base' tot' base tot ⟨j,c2,k1,k2⟩ h1 h2 (by rw[h3];simp) e4 e3).elim
     .rw[hx2n l1 h1]at e3;rw[hx2n l2 k1]at e4;exact hs.inj l1 l2 b base tot base' tot' (by rw[h3];simp) (by rw[k3];simp) e3 e4
  .cases h1:kv σo l with
   |none=>rw[hx2n l h1]at e;exact iV (hs.ek l b base tot e) hst.size
   |some i=>
    rw[hx2 i l (kA h1)]at e;exact hi'.lC.ek i b base tot e
 have hfr2:ez st' x2:=by
  refine⟨fun l hl=>?_,fun l hl=>?_⟩
  .cases h1:kv σo l with
   |none=>rw[hx2n l h1];exact hfr.β l (by have:=hfm.nx;omega)
   |some i=>have:=pN hfm.oko (kA h1);omega
  .cases f1:look st'.m l with
   |none=>exact absurd f1 hl
   |some b1=>
    rcases hfm.m1 l b1 f1 with⟨i,c1,h1,_⟩|⟨_,_,h3⟩
    .exact pN hfm.oko h1
    .have:=hfr.m l (by rw[h3];simp);have:=hfm.nx;omega
 have hrd:=RD.re (ν:=ν) (x:=x') (x':=x2) rfl rfl hβ2 r2 hvd;rcases Ex.vy hh with h|h<;>rw[h]at he<;>subst he<;>exact⟨hi'.defers,v,r1,x2,vd',st',hK,rfl,hstep,hrd,hsim,hfr2⟩
end
end
section
structure Zh where
 tr:List D->St->(D->St->Prop)->Prop
 mu:List D->St->Nat
 mono:∀(ds:List D) (st:St) (K K':D->St->Prop),(∀d st',K d st'->K' d st')->tr ds st K->tr ds st K'
def Zh.no:Zh:=⟨fun _ _ _=>False,fun _ _=>0,fun _ _ _ _ _ h=>h⟩
def nC (af:ax)(Q:D->List (Nat×bL)->Prop):Ex->List bI->St->Prop:=fun e env st=>e.home/\mN st.m env af.res/\∃m1,(∀i,look st.m i=look m1 i)/\Q (jl af env st) m1
def eD {af:ax}{Q:D->List (Nat×bL)->Prop}{vd:D}{m1:List (Nat×bL)}{e:Ex}{env:List bI}{st:St}(h1:e.home)(h2:mN st.m env af.res)(h3:jl af env st=vd)(h4:st.m=m1)(h5:Q vd m1):nC af Q e env st:=⟨h1,h2,m1,fun i=>by rw[h4],by rw[h3];exact h5⟩
section
variable [di] {P:Program} {ν:List (Nat×Nat)} {cr:List Nat} {Y:Ctx}
def LA (P:Program)(ν:List (Nat×Nat))(Γ':Ctx)(cr:List Nat)(tr:List D->St->(D->St->Prop)->Prop)(fid:Nat):Prop:=
 ∀(ds:List D) (st:St) (K:D->St->Prop),tr ds st K->Ok P ν cr Γ'->∀(x:X) (args:Array Value),args.size=ds.length->(∀i,i<ds.length->RD ν x (args.getD i undef) (ds.getD i .any))->eK ν x (look st.m)->ez st x->
  iI P x (fun v x'=>∃d st',K d st'/\Step x x'/\RD ν x' v d/\eK ν x' (look st'.m)/\ez st' x') ((callFunc fid args).run P x.w)
end
end
section
abbrev RT:=List D->D->Prop
abbrev FT:=D->List D->D->D->Prop
abbrev TT:=List D->St->(D->St->Prop)->Prop
def Cn (T:TT):Prop:=∀ds st K K',(∀d st',K d st'->K' d st')->T ds st K->T ds st K'
def Bi (A:RT->Prop):RT:=fun ds d=>∀T,A T->T ds d
def lL (A:FT->Prop):FT:=fun d ds v s=>∀T,A T->T d ds v s
def RN (T:TT):Ctx:=⟨fun _ _=>False,fun _ _=>.any,fun _=>T,fun _ _ _=>False,fun _ _ _=>.any,fun _ _ _=>.any,0⟩
def MP (C:Ctx->Prop):TT:=fun ds st K=>∀T,Cn T->C (RN T)->T ds st K
def C5 (C:Ctx->Prop):Cn (MP C):=fun _ _ _ _ h h1 T hT hC=>hT _ _ _ _ h (h1 T hT hC)
def noR:RT:=fun _ _=>False
def V4:FT:=fun _ _ _ _=>False
def noT:TT:=fun _ _ _=>False
def xG:Cn noT:=fun _ _ _ _ _ h=>h.elim
structure lF where
 key:Nat
 rel:RT
 mu:List D->Nat
 relF:FT
 tr:TT
 muE:List D->St->Nat
 mono:Cn tr
def mu0:List D->Nat:=fun _=>0
def Qk:List D->St->Nat:=fun _ _=>0
def lq:lF:=⟨0,noR,mu0,V4,noT,Qk,xG⟩
def rP (k:Nat)(A:RT->Prop)(mu:List D->Nat:=mu0):lF:=⟨k,Bi A,mu,V4,noT,Qk,xG⟩
def rF (k:Nat)(A:FT->Prop):lF:=⟨k,noR,mu0,lL A,noT,Qk,xG⟩
def rG (k:Nat)(C:Ctx->Prop)(mu:List D->St->Nat:=Qk):lF:=⟨k,noR,mu0,V4,MP C,mu,C5 C⟩
noncomputable def pick (r:D->Prop):D:=Classical.epsilon r
def j2 {r:D->Prop}(h:∃d,r d):r (pick r):=Classical.epsilon_spec h
def VR (R:RT):Prop:=∀ds d d',R ds d->R ds d'->d=d'
def sI (R:FT):Prop:=∀d ds v s v' s',R d ds v s->R d ds v' s'->v=v'/\s=s'
def Te {A:RT->Prop}(h:A fun ds d=>A fun ds' d'=>ds'=ds->d=d'):VR (Bi A):=fun ds d d' h1 h2=>h2 _ (h1 _ h) rfl
def PS {A:FT->Prop}(h:A fun d ds v s=>A fun d' ds' v' s'=>d'=d->ds'=ds->v=v'/\s=s'):sI (lL A):=fun d ds v s v' s' h1 h2=>h2 _ (h1 _ h) rfl rfl
noncomputable def yU (t:List (Nat×lF)):Ctx where
 pre n ds:=∃d,(lk t n lq).rel ds d
 val n ds:=pick ((lk t n lq).rel ds)
 tr n:=(lk t n lq).tr
 fp n d ds:=∃v s,(lk t n lq).relF d ds v s
 fv n d ds:=pick fun v=>∃s,(lk t n lq).relF d ds v s
 fs n d ds:=pick fun s=>∃v,(lk t n lq).relF d ds v s
 lo:=0
def NT (t:List (Nat×lF)):SW:=⟨fun n=>(lk t n lq).key,fun n=>(lk t n lq).mu,fun n=>(lk t n lq).muE⟩
noncomputable abbrev under (t:List (Nat×lF))(k u:Nat):Ctx:=(yU t).under (NT t) k u
def qA (t:List (Nat×lF))(k u n:Nat):(((yU t).under (NT t) k u).at n).cj:=
 fun f ds st K K' h hh=>⟨hh.1,(lk t f lq).mono ds st K K' h hh.2⟩
section
variable {t:List (Nat×lF)} {n k u:Nat} {ds:List D} {d v s:D} {st:St} {K:D->St->Prop}
def ZZ (hD:VR (lk t n lq).rel)(hk:(lk t n lq).key<k\/(lk t n lq).key=k/\(lk t n lq).mu ds<u)(h:(lk t n lq).rel ds d):(under t k u).pre n ds/\(under t k u).val n ds=d:=
 ⟨⟨hk,d,h⟩,hD _ _ _ (j2 ⟨d,h⟩) h⟩
def UK (hD:sI (lk t n lq).relF)(hk:(lk t n lq).key<k)(h:(lk t n lq).relF d ds v s):(under t k u).fp n d ds/\(under t k u).fv n d ds=v/\(under t k u).fs n d ds=s:=by
 refine⟨⟨.inl hk,v,s,h⟩, ?_, ?_⟩
 .obtain⟨s',h'⟩:=j2 (r:=fun v=>∃s,(lk t n lq).relF d ds v s) ⟨v,s,h⟩;exact(hD _ _ _ _ _ _ h' h).1
 .obtain⟨v',h'⟩:=j2 (r:=fun s=>∃v,(lk t n lq).relF d ds v s) ⟨s,v,h⟩;exact(hD _ _ _ _ _ _ h' h).2
def Kk (hk:(lk t n lq).key<k\/(lk t n lq).key=k/\(lk t n lq).muE ds st<u)(h:(lk t n lq).tr ds st K):(under t k u).tr n ds st K:=⟨hk,h⟩
end
section
variable [di] {P:Program} {ν:List (Nat×Nat)} {cr:List Nat} {Y:Ctx} {t:List (Nat×lF)} {fid n key:Nat}
def Cl (P:Program)(ν:List (Nat×Nat))(cr:List Nat)(Y:Ctx)(fid:Nat)(ds:List D)(d:D):Prop:=Ok P ν cr Y->∀(x:X) (args:Array Value),args.size=ds.length->(∀i,i<ds.length->RD ν x (args.getD i undef) (ds.getD i .any))->aR ds=true->
  (∀b,x.I b->b<x.w.heap.size)->di.gd x->iI P x (fun v x'=>lE x x'/\RD ν x' v d) ((callFunc fid args).run P x.w)
def GW (P:Program)(ν:List (Nat×Nat))(cr:List Nat)(Y:Ctx)(fid:Nat)(d:D)(ds:List D)(vd new:D):Prop:=Ok P ν cr Y->∀(x:X) (f:Nat->Option bL) (args:Array Value) (l k:Nat),args.size=ds.length+1->
   RD ν x (args.getD 0 undef) (.ptr l k 0 0)->(∀i,i<ds.length->RD ν x (args.getD (i+1) undef) (ds.getD i .any))->eK ν x f->f l=some (.buf k [d])->d.aZ=true->aR ds=true->
   iI P x (fun v x'=>Step x x'/\RD ν x' v vd/\eK ν x' (fun l'=>if l'=l then some (.buf k [new])else f l')/\x'.β=x.β) ((callFunc fid args).run P x.w)
def mf (P:Program)(ν:List (Nat×Nat))(cr:List Nat)(Y:Ctx)(fid:Nat)(ds:List D)(st:St)(K:D->St->Prop):Prop:=Ok P ν cr Y->∀(x:X) (args:Array Value),args.size=ds.length->(∀i,i<ds.length->RD ν x (args.getD i undef) (ds.getD i .any))->eK ν x (look st.m)->ez st x->
  iI P x (fun v x'=>∃d st',K d st'/\Step x x'/\RD ν x' v d/\eK ν x' (look st'.m)/\ez st' x') ((callFunc fid args).run P x.w)
structure VT (P:Program)(ν:List (Nat×Nat))(cr:List Nat)(t:List (Nat×lF))(fid n:Nat):Prop where
 p:∀ds d,(lk t n lq).rel ds d->Cl P ν cr (under t (lk t n lq).key ((lk t n lq).mu ds)) fid ds d
 f:sI (lk t n lq).relF/\∀d ds v s,(lk t n lq).relF d ds v s->GW P ν cr (under t (lk t n lq).key ((lk t n lq).mu (d::ds))) fid d ds v s
 g:∀ds st K,(lk t n lq).tr ds st K->mf P ν cr (under t (lk t n lq).key ((lk t n lq).muE ds st)) fid ds st K
def okA (hsm:∀fid n,dp ν fid=some n->n<1000000)(hB:∀t,cr.contains (1000000000+t)=true->t=di.tB)(hG:∀g,cr.contains (500000000+g)=true/\g<400000000->di.gz g)(h:∀fid n,dp ν fid=some n->VT P ν cr t fid n):Ok P ν cr (yU t):=by
 refine ZY (NT t) hsm hB hG (fun fid n hn ds hp hok=>(h fid n hn).p ds _ (j2 hp) hok) (fun fid n hn _ d ds hp hok=>?_) (fun fid n hn ds st K htr hok=>(h fid n hn).g ds st K htr hok);obtain⟨v,s,hr⟩:=hp;obtain⟨hD,hf⟩:=(h fid n hn).f;have h2:(yU t).fv n d ds=v/\(yU t).fs n d ds=s:=by
  constructor
  .obtain⟨s',h'⟩:=j2 (r:=fun v=>∃s,(lk t n lq).relF d ds v s) ⟨v,s,hr⟩;exact(hD _ _ _ _ _ _ h' hr).1
  .obtain⟨v',h'⟩:=j2 (r:=fun s=>∃v,(lk t n lq).relF d ds v s) ⟨s,v,hr⟩;exact(hD _ _ _ _ _ _ h' hr).2
 rw[h2.1,h2.2];exact hf d ds v s hr hok
def Br {Y:D->List D->Ctx}:sI V4/\∀d ds v s,V4 d ds v s->GW P ν cr (Y d ds) fid d ds v s:=⟨fun _ _ _ _ _ _ h=>h.elim,fun _ _ _ _ h=>h.elim⟩
def bz {A:RT->Prop}{mu:List D->Nat}(hr:lk t n lq=rP key A mu)(h:A fun ds d=>Cl P ν cr (under t key (mu ds)) fid ds d):VT P ν cr t fid n:=by
 refine⟨?_, ?_, ?_⟩<;>rw[hr]
 .exact fun ds d hd=>hd (fun ds d=>Cl P ν cr (under t key (mu ds)) fid ds d) h
 .exact Br
 .exact fun _ _ _ h=>h.elim
def FP {A:FT->Prop}(hr:lk t n lq=rF key A)(hD:sI (lL A))(h:A fun d ds v s=>GW P ν cr (under t key 0) fid d ds v s):VT P ν cr t fid n:=by
 refine⟨?_, ?_, ?_⟩<;>rw[hr]
 .exact fun _ _ h=>h.elim
 .exact⟨hD,fun d ds v s hd=>hd _ h⟩
 .exact fun _ _ _ h=>h.elim
def JW {Y:List D->St->Ctx}:Cn fun ds st K=>mf P ν cr (Y ds st) fid ds st K:=fun ds st K K' h hg hok x args hl ha hs hf=>(hg hok x args hl ha hs hf).mono fun v x' ⟨d,st',h1,h2⟩=>⟨d,st',h _ _ h1,h2⟩
def uQ {C:Ctx->Prop}{mu:List D->St->Nat}(hr:lk t n lq=rG key C mu)(h:C (RN fun ds st K=>mf P ν cr (under t key (mu ds st)) fid ds st K)):VT P ν cr t fid n:=by
 refine⟨?_, ?_, ?_⟩<;>rw[hr]
 .exact fun _ _ h=>h.elim
 .exact Br
 .exact fun ds st K hd=>hd (fun ds st K=>mf P ν cr (under t key (mu ds st)) fid ds st K) JW h
def ER (P:Program)(ν:List (Nat×Nat))(cr:List Nat)(fid:Nat)(af:ax):Prop:=(P.funcs[fid]?).map (fun f=>(compile P ν cr f,f.name== "runtime.NumGoroutine"))=some (some af,false)
def ER.split {af:ax}(h:ER P ν cr fid af):∃fn,P.funcs[fid]? =some fn/\compile P ν cr fn=some af/\(fn.name== "runtime.NumGoroutine")=false:=by
 grind [ER]
def aJ {af:ax}{ds:List D}{d:D}(hmix:P.follows .mixedOrders=true)(hC:ER P ν cr fid af)(h1:ds.length=af.np)(h2:bO (Y.at 0) af.body (SX af d) (fC af ds) ⟨0,[]⟩):Cl P ν cr Y fid ds d:=by
 intro hok x args hl hargs hnl himm hgd;obtain⟨fn,hf,hc,hn⟩:=hC.split;obtain⟨body,c1,_⟩:=fI hc;exact .inr ⟨fid,args,fY hf hn (by rw[c1];rfl) args x.w,P3 hok hmix hf hc hl hargs hnl himm hgd h1 h2⟩
def w9 {af:ax}{d:D}{ds:List D}{vd new:D}(k0:Nat)(hmix:P.follows .mixedOrders=true)(hC:ER P ν cr fid af)(h1:ds.length+1=af.np)(hk:d.cells.length=k0)
  (h2:bO (Y.at 1) af.body (AI af k0 vd new) (fC af (.ptr 0 k0 0 0::ds)) ⟨1,[(0,.buf k0 [d])]⟩):GW P ν cr Y fid d ds vd new:=by
 intro hok x f args l k hl h0 hargs hs hfl hd hnl;obtain⟨fn,hf,hc,hn⟩:=hC.split;obtain⟨body,c1,_⟩:=fI hc;have hkk:k=k0:=by
  generalize args.getD 0 undef=v0 at h0;cases h0 with
  |ptr _ _ _ _ b base tot at_ hβ hat=>
   obtain⟨p1,p2,c,T,fr,p3,p4,p5,p6⟩:=(hs.own l _ b base tot hfl hβ).2;have:=(p6 0 bg).1
   grind
 subst hkk;exact .inr ⟨fid,args,fY hf hn (by rw[c1];rfl) args x.w,P1 hok hmix hf hc hl h0 hargs hs hfl hd hnl h1 h2⟩
def r0 {af:ax}{ds:List D}{st:St}{K:D->St->Prop}{σi:List (Nat×Nat)}{q:Nat}{m0:List (Nat×bL)}{cs:List D}{Q:D->List (Nat×bL)->Prop}(hmono:∀q,(Y.at q).cj)(hmix:P.follows .mixedOrders=true)(hC:ER P ν cr fid af)
  (h1:cs.length=ds.length) (h2:∀i,i<ds.length->Pv 0 σi (ds.getD i .any) (cs.getD i .any)) (h3:cs.length=af.np)
  (h4:fk 0 q σi=true) (h5:∀l i,(l,i)∈σi->look st.m l≠none) (h6:∀i b,look m0 i=some b->∃l b',(l,i)∈σi/\look st.m l=some b'/\lZ 0 σi b' b)
  (h7:bO (Y.at q) af.body (nC af Q) (fC af cs) ⟨q,m0⟩) (h8:∀d m1,Q d m1->∃(σo:List (Nat×Nat)) (q1:Nat) (st':St) (vd':D),Fr σi σo q q1 m0 m1 st st'/\Pv 0 σo d vd'/\K vd' st'):mf P ν cr Y fid ds st K:=by
 intro hok x args hl hargs hs hfr;obtain⟨fn,hf,hc,hn⟩:=hC.split;obtain⟨body,c1,_⟩:=fI hc;refine .inr ⟨fid,args,fY hf hn (by rw[c1];rfl) args x.w, ?_⟩;refine Calls.mono (P2 (K:=K) hok hmix hf hc hl hargs hs hfr h1 h2 h3 h4 h5 h6 (gy (hmono q) _ _ _ _ _ (fun e env st1 h=>?_) h7)) fun e w' he=>?_
 .obtain⟨g1,g2,m1,g3,g4⟩:=h
  grind
 grind
end
end
theorem pk {α:Type}{f:α->D}(hf:∀x y,f x=f y↔x=y):∀a b:List α,a.map f=b.map f↔a=b
 |[],[]=>bg
 |[],_::_=>bg
 |_::_,[]=>bg
 |x::a,y::b=>by simp only[List.map_cons,pJ,hf,pk hf a b]
def Ul (a b:Nat):((a:Nat):Int)=(b:Nat)↔a=b:=ah
theorem iU8 (x y:UInt8):((x.toNat:Nat):Int)=(y.toNat:Nat)↔x=y:=(Ul _ _).trans od
def MC (a b:List aU):a.map D.str=b.map D.str↔a=b:=pk (fun _ _=>bg) a b
def Uj (a b:List Int):a.map (D.int .i64)=b.map (D.int .i64)↔a=b:=pk (fun _ _=>bg) a b
def ZG (a b:aU):(a.map fun c=>D.int .u8 c.toNat)=(b.map fun c=>D.int .u8 c.toNat)↔a=b:=by grind [pk,iU8]
def ZM (a b:aQ):aQ.D a=aQ.D b↔a=b:=by cases a;cases b;simp[aQ.D]
structure Cut where
 e:Int
 v:aQ
 a:Bool
 deriving Inhabited,DecidableEq
def Cut.D (c:Cut):D:=.agg [.int .i64 c.e,.int .i64 c.v.major,.int .i64 c.v.minor,.int .i64 c.v.patch,.str c.v.pre,.str c.v.build,.bool c.a]
structure Span where
 f:Cut
 t:Cut
 deriving Inhabited,DecidableEq
def Span.D (s:Span):D:=.agg [.int .i64 s.f.e,.int .i64 s.f.v.major,.int .i64 s.f.v.minor,.int .i64 s.f.v.patch,.str s.f.v.pre,.str s.f.v.build,.bool s.f.a,
 .int .i64 s.t.e,.int .i64 s.t.v.major,.int .i64 s.t.v.minor,.int .i64 s.t.v.patch,.str s.t.v.pre,.str s.t.v.build,.bool s.t.a]
structure bQ where
 rel:List Span
 pr:List Span
 deriving Inhabited,DecidableEq
def bQ.D (s:bQ):D:=.agg [.sl 14 (s.rel.map Span.D),.sl 14 (s.pr.map Span.D)]
structure Want where
 u:Int
 s:bQ
 deriving Inhabited,DecidableEq
def Want.D (w:Want):D:=.agg [.int .i64 w.u,.sl 14 (w.s.rel.map Span.D),.sl 14 (w.s.pr.map Span.D)]
abbrev nE:=List Want
def ei (r:nE):D:=.sl 3 (r.map Want.D)
structure dA where
 v:aQ
 sh:Int
 needs:List nE
 bars:List Want
 deriving Inhabited,DecidableEq
def dA.D (c:dA):D:=.agg [.int .i64 c.v.major,.int .i64 c.v.minor,.int .i64 c.v.patch,.str c.v.pre,.str c.v.build,.int .i64 c.sh,.sl 1 (c.needs.map ei),.sl 3 (c.bars.map Want.D)]
structure cQ where
 name:aU
 feat:aU
 cands:List dA
 deriving Inhabited,DecidableEq
def cQ.D (u:cQ):D:=.agg [.str u.name,.str u.feat,.sl 8 (u.cands.map dA.D)]
structure bZ where
 us:List cQ
 deriving Inhabited,DecidableEq
def bZ.D (w:bZ):D:=.agg [.sl 3 (w.us.map cQ.D)]
structure yO where
 u:Int
 m:Int
 deriving Inhabited,DecidableEq
def yO.D (t:yO):D:=.agg [.int .i64 t.u,.int .i64 t.m]
structure iR where
 kind:Int
 unit:Int
 a:Int
 b:Int
 terms:List yO
 deriving Inhabited,DecidableEq
def iR.D (r:iR):D:=.agg [.int .i64 r.kind,.int .i64 r.unit,.int .i64 r.a,.int .i64 r.b,.sl 2 (r.terms.map yO.D)]
structure ru where
 w:bZ
 allow:List Int
 rows:List iR
 deriving Inhabited,DecidableEq
def ru.D (c:ru):D:=.agg [.sl 3 (c.w.us.map cQ.D),.sl 1 (c.allow.map (D.int .i64)),.sl 5 (c.rows.map iR.D)]
def T8 (a b:Bool):iw (D.bool a).cells (D.bool b).cells=decide (a=b):=by cases a<;>cases b<;>rfl
def oZ (f:Nat->Int):Nat->Nat->Int
 |_,0=>0
 |i,k+1=>if f i=0 then oZ f (i+1) k else f i
def e8 (f:Nat->Int)(i n:Nat):Int:=oZ f i (n-i)
def mX {f:Nat->Int}{i n:Nat}(h:i<n)(hf:f i=0):e8 f i n=e8 f (i+1) n:=by
 unfold e8;obtain⟨k,hk⟩:∃k,n-i=k+1:=⟨n-i-1,ah⟩
 grind [oZ]
def jW {f:Nat->Int}{i n:Nat}(h:i<n)(hf:f i≠0):e8 f i n=f i:=by
 unfold e8;obtain⟨k,hk⟩:∃k,n-i=k+1:=⟨n-i-1,ah⟩
 rw[hk];simp only[oZ,hf,aS]
def mW {f:Nat->Int}{i n:Nat}(h:n<=i):e8 f i n=0:=by
 unfold e8;rw[show n-i=0 by omega];rfl
def dw (a b:Int):Int:=if a<b then-1 else if b<a then 1 else 0
def mb (a b:aU):Int:=if Op.bytesLess a b=true then-1 else if a=b then 0 else 1
def qm (a b:aU):Int:=if cV a=true/\cV b=true then dw (tt a) (tt b)else if cV a=true then-1 else if cV b=true then 1 else mb a b
def Es (l m:List aU):Nat->Nat->Int
 |_,0=>dw l.length m.length
 |i,k+1=>if qm l[i]! m[i]! ≠0 then qm l[i]! m[i]! else Es l m (i+1) k
def qy (l m:List aU)(i:Nat):Int:=Es l m i (min l.length m.length-i)
def Ap {l m:List aU}{i:Nat}(h:i<l.length/\i<m.length)(hn:qm l[i]! m[i]! ≠0):qy l m i=qm l[i]! m[i]! :=by
 unfold qy;rw[show min l.length m.length-i=(min l.length m.length-(i+1))+1 by omega,Es,ay hn]
def Er {l m:List aU}{i:Nat}(h:i<l.length/\i<m.length)(hn:qm l[i]! m[i]! =0):qy l m i=qy l m (i+1):=by
 unfold qy;rw[show min l.length m.length-i=(min l.length m.length-(i+1))+1 by omega,Es,aj (by rw[hn];simp)]
def Ao {l m:List aU}{i:Nat}(h:l.length<=i\/m.length<=i):qy l m i=dw l.length m.length:=by
 unfold qy;rw[show min l.length m.length-i=0 by omega,Es]
def tv (a b:aU):Int:=if a=b then 0 else if a=[]then 1 else if b=[]then-1 else qy (bE a 46) (bE b 46) 0
def ki (a b:aQ):Int:=if fE a=false\/fE b=false then 0 else
 if dw a.major b.major≠0 then dw a.major b.major else if dw a.minor b.minor≠0 then dw a.minor b.minor else
 if dw a.patch b.patch≠0 then dw a.patch b.patch else tv a.pre b.pre
def kj (v:aQ):aQ:=⟨v.major,v.minor,v.patch,v.pre,[]⟩
theorem JM (a:Int):dw a a=0:=by simp[dw]
def sP {a b:Int}:dw a b=0↔a=b:=by
 grind [dw]
def zk {a b:aQ}(h:kj a=kj b):ki a b=0:=by
 grind [kj,ki,tv,JM]
theorem Mm (x y z:Int):e8 (fun i=>[x,y,z][i]!) 0 [x,y,z].length=if x≠0 then x else if y≠0 then y else z:=by
 grind [e8,oZ]
def Mo {x y z:Int}(h:e8 (fun i=>[x,y,z][i]!) 0 [x,y,z].length=0):x=0/\y=0/\z=0:=by
 grind [Mm]
def Mn {a b:aQ}(hv:¬(fE a=false\/fE b=false))(h:¬e8 (fun i=>[dw a.major b.major,dw a.minor b.minor,dw a.patch b.patch][i]!) 0 [dw a.major b.major,dw a.minor b.minor,dw a.patch b.patch].length=0):
  e8 (fun i=>[dw a.major b.major,dw a.minor b.minor,dw a.patch b.patch][i]!) 0 [dw a.major b.major,dw a.minor b.minor,dw a.patch b.patch].length=ki a b:=by
 grind [Mm,ki]
def LZ {a b:aQ}(hv:¬(fE a=false\/fE b=false))(h1:dw a.major b.major=0)(h2:dw a.minor b.minor=0)(h3:dw a.patch b.patch=0):ki a b=tv a.pre b.pre:=by
 grind [ki]
def PO {a b:aQ}(h1:dw a.major b.major=0)(h2:dw a.minor b.minor=0)(h3:dw a.patch b.patch=0)(h4:a.pre=b.pre):kj a=kj b:=by
 unfold kj;rw[sP.1 h1,sP.1 h2,sP.1 h3,h4]
def JN (a:aQ):ki a a=0:=zk rfl
def Dn (a b:aQ):Bool:=fE a&&fE b&&decide (ki a b=0)
def Kl {v:aQ}(h:fE v=true):Dn v v=true:=by simp[Dn,h,JN]
def Cut.sm (c:Cut):Prop:=c.v.sm
def Span.sm (s:Span):Prop:=s.f.sm/\s.t.sm
def bR (l:List Span):Prop:=∀s∈l,s.sm
def bQ.sm (s:bQ):Prop:=bR s.rel/\bR s.pr
def Want.sm (w:Want):Prop:=w.s.sm
def dA.sm (c:dA):Prop:=c.v.sm/\(∀r∈c.needs,∀w∈r,w.sm)/\∀w∈c.bars,w.sm
def cQ.sm (u:cQ):Prop:=u.cands.length<=16/\∀c∈u.cands,c.sm
def bZ.sm (w:bZ):Prop:=∀u∈w.us,u.sm
def zV:aQ:=⟨0,0,0,[],[]⟩
def mc (c:Cut):Bool:=if c.e=0 then fE c.v&&decide (c.v.build=[])else(decide (c.e=-1) ||decide (c.e=1))&&decide (c.v=zV)&& !c.a
def gP (a b:Cut):Int:=if mc a=false\/mc b=false then 0 else if a.e≠0\/b.e≠0 then dw a.e b.e else
 if ki a.v b.v≠0 then ki a.v b.v else if a.a=b.a then 0 else if b.a=true then-1 else 1
def kI (s:Span):Bool:=mc s.f&&mc s.t&&decide (gP s.f s.t<0)
def ir (c:Cut)(v:aQ):Bool:=if mc c=false\/fE v=false then false else if c.e≠0 then decide (c.e<0)else decide (ki c.v v<0) ||(decide (ki c.v v=0)&& !c.a)
def mI (s:Span)(v:aQ):Bool:=kI s&&fE v&&ir s.f v&& !ir s.t v
def uU (l:List Span)(i:Nat):Bool:=kI l[i]! && !(decide (0<i)&&decide (0<=gP l[i-1]!.t l[i]!.f))
def mP (l:List Span):Bool:=cF (uU l) 0 l.length
def qC (f:Nat->Bool)(i n:Nat):Bool:=!cF (fun i=>!f i) i n
def j7 {f:Nat->Bool}{i n:Nat}(h:i<n):qC f i n=(f i ||qC f (i+1) n):=by
 unfold qC;rw[aN h];simp
def rA {f:Nat->Bool}{i n:Nat}(h:n<=i):qC f i n=false:=by
 unfold qC;rw[b7 h];rfl
def LL {f:Nat->Bool}{i n:Nat}:qC f i n=true↔∃j,i<=j/\j<n/\f j=true:=by
 unfold qC;rw[cW,<-Bool.not_eq_true,dL];simp
def n6 (l:List Span)(v:aQ):Bool:=mP l&&qC (fun i=>mI l[i]! v) 0 l.length
def qS (v:aQ):Bool:=decide (v.major=0)&&decide (v.minor=0)&&decide (v.patch=0)
def j3 (c:Cut):Bool:=decide (c.e≠0) ||(!c.a&&decide (c.v.pre=[])&& !qS c.v)
def nq (c:Cut):Bool:=decide (c.e≠0) ||(!c.a&&decide (c.v.pre=[])&& !decide (c.v=zV))
def sr (s:bQ):Bool:=mP s.rel&&mP s.pr&&cF (fun i=>j3 s.rel[i]!.f&&j3 s.rel[i]!.t) 0 s.rel.length
def RG (s:bQ):Bool:=cF (fun i=>nq s.rel[i]!.f&&nq s.rel[i]!.t) 0 s.rel.length&&(mP s.rel&&mP s.pr)
def pd (s:bQ)(v:aQ):Bool:=sr s&&fE v&&(if v.pre=[]then n6 s.rel v else n6 s.pr v)
def yq {c:Cut}(h:mc c=true):nq c=j3 c:=by
 obtain⟨e,⟨a,b,c,p,q⟩,f⟩:=c;by_cases he:e=0
 .simp only[mc,he,aY,br,bU]at h;obtain⟨_,rfl⟩:=h;simp only[nq,j3,qS,zV,aQ.mk.injEq];by_cases h1:p=[]<;>by_cases h2:a=0<;>by_cases h3:b=0<;>by_cases h4:c=0<;>simp[h1,h2,h3,h4]
 .simp[nq,j3,he]
def Oe {l:List Span}(h:mP l=true){i:Nat}(hi:i<l.length):mc l[i]!.f=true/\mc l[i]!.t=true:=by
 unfold mP at h;rw[dL]at h;have:=h i ah hi;simp only[uU,kI,br]at this;exact⟨this.1.1.1,this.1.1.2⟩
def QQ (s:bQ):RG s=sr s:=by
 unfold RG sr;cases h:mP s.rel with
 |false=>simp
 |true=>
  have:cF (fun i=>nq s.rel[i]!.f&&nq s.rel[i]!.t) 0 s.rel.length=cF (fun i=>j3 s.rel[i]!.f&&j3 s.rel[i]!.t) 0 s.rel.length:=by
   rw[Bool.eq_iff_iff,dL,dL];constructor<;>intro g j h1 h2<;>have q:=Oe h h2<;>have:=g j h1 h2<;>rw[yq q.1,yq q.2]at* <;>exact this
  rw[this];cases mP s.pr<;>simp
def nP:Cut:=⟨-1,zV,false⟩
def r5:Cut:=⟨1,zV,false⟩
def mg (v:aQ):Cut:=⟨0,kj v,false⟩
def vg (v:aQ):Cut:=⟨0,kj v,true⟩
def oF (v:aQ):aQ:=⟨v.major,v.minor,v.patch,[],[]⟩
def fq (v:aQ)(p:Int):aQ:=if p=0 then⟨v.major+1,0,0,[],[]⟩else if p=1 then⟨v.major,v.minor+1,0,[],[]⟩else⟨v.major,v.minor,v.patch+1,[],[]⟩
def gF (v:aQ)(p:Int):aQ×Bool:=if fE v=false\/p<0\/2<p then(zV,false)else if fE (fq v p)=false then(zV,false)else(fq v p,true)
def xF (v:aQ):Nat->aQ×Bool
 |0=>(zV,false)
 |n+1=>if(gF v (n:Int)).2=true then((gF v (n:Int)).1,true)else xF v n
def jq (v:aQ):aQ×Bool:=if fE v=false then(zV,false)else if v.pre≠[]then(oF v,true)else xF v 3
def oP (v:aQ):Cut:=if qS v=true then nP else mg (oF v)
def Cv (v:aQ):Cut:=if(jq (oF v)).2=false then r5 else mg (jq (oF v)).1
def kP (l:List Cut)(c:Cut)(i:Nat):Nat:=i+((l.drop i).takeWhile fun x=>decide (gP x c<0)).length
def Qf {l:List Cut}{c:Cut}{i:Nat}(h:i<l.length)(hc:gP l[i]! c<0):kP l c i=kP l c (i+1):=by
 unfold kP;rw[gZ h,List.takeWhile_cons_of_pos (by simpa[h]using hc)];simp;omega
def Qg {l:List Cut}{c:Cut}{i:Nat}(h:i<l.length->¬gP l[i]! c<0):kP l c i=i:=by
 unfold kP;rcases dQ i l.length with hi|hi
 .rw[gZ hi,List.takeWhile_cons_of_neg (by simpa[hi]using h hi)];rfl
 .rw[kR hi];rfl
def uE (l:List Cut)(c:Cut):List Cut:=if kP l c 0<l.length/\gP l[kP l c 0]! c=0 then l else(l.take (kP l c 0)++[c])++l.drop (kP l c 0)
def mU (l:List Span):Nat->List Cut
 |0=>[nP,r5]
 |i+1=>uE (uE (mU l i) l[i]!.f) l[i]!.t
def cT (l:List Span):List Cut:=mU l l.length
def qO (l:List Span)(f t:Cut):Bool:=qC (fun i=>decide (gP l[i]!.f f<=0)&&decide (gP t l[i]!.t<=0)) 0 l.length
def lI (l:List Span)(f t:Cut):List Span:=if 0<l.length/\gP l[l.length-1]!.t f=0 then l.set (l.length-1) ⟨l[l.length-1]!.f,t⟩else l++[⟨f,t⟩]
def eO (p:Cut->Cut->Bool)(c:List Cut):Nat->List Span
 |0=>[]
 |i+1=>if p c[i]! c[i+1]! =true then lI (eO p c i) c[i]! c[i+1]! else eO p c i
def Ee (p:Cut->Cut->Bool)(c:List Cut):List Span:=eO p c (c.length-1)
def pj (l:List Span):List Span×Bool:=if cF (fun i=>kI l[i]!) 0 l.length=true then(Ee (qO l) (cT l),true)else([],false)
def Lh (a b:List Span):List Span:=if mP a=false\/mP b=false then []else(pj (a++b)).1
def uO (a:List Span):List Span:=if mP a=false then []else Ee (fun x y=>!qO a x y) (cT a)
def xI:bQ:=⟨[],[]⟩
def rq:List Span:=[⟨nP,r5⟩]
def LK:bQ:=⟨rq,rq⟩
def bX (v:aQ):bQ:=if fE v=false then xI else if v.pre≠[]then⟨[],[⟨mg v,vg v⟩]⟩else⟨[⟨oP v,Cv v⟩],[]⟩
def Ni (a b:bQ):bQ:=if sr a=false\/sr b=false then xI else⟨Lh a.rel b.rel,Lh a.pr b.pr⟩
def Bs (a:bQ):bQ:=if sr a=false then xI else⟨uO a.rel,uO a.pr⟩
def oL (l:List Cut):Prop:=∀c∈l,c.sm
def JG (l:List Span):Prop:=bR l/\l.length<=1000
def EZ (s:bQ):Prop:=JG s.rel/\JG s.pr
def yL:zV.sm:=by simp[zV,aQ.sm]
def pV:nP.sm:=yL
def r6:r5.sm:=yL
def vj {v:aQ}(h:v.sm):(kj v).sm:=⟨h.1,by simp[kj]⟩
def BY (v:aQ):(oF v).sm:=by simp[oF,aQ.sm]
def rJ (v:aQ)(p:Int):(fq v p).sm:=by unfold fq;split<;>(try split)<;>simp[aQ.sm]
def LV (v:aQ)(p:Int):(gF v p).1.sm:=by unfold gF;split<;>(try split)<;>first|exact yL|exact rJ v p
def Dj (v:aQ):∀n,(xF v n).1.sm
 |0=>yL
 |n+1=>by
  rw[xF];split
  .exact LV v _
  .exact Dj v n
def M5 (v:aQ):(jq v).1.sm:=by
 unfold jq;repeat' split
 all_goals first|exact yL|exact BY v|exact Dj v _
def OG {v:aQ}(h:fE v=true):(0<=v.major/\v.major<=9999)/\(0<=v.minor/\v.minor<=9999)/\0<=v.patch/\v.patch<=9999:=by
 simp only[fE,o8,br,bU]at h;omega
def AR {l:List Cut}{c:Cut}(hl:oL l)(hc:c.sm):oL (uE l c):=by
 unfold uE;split
 .exact hl
 .intro x hx;simp only[List.mem_append,bJ]at hx;rcases hx with(hx|rfl)|hx
  .exact hl _ (GR hx)
  .exact hc
  .exact hl _ (List.mem_of_mem_drop hx)
def wH (l:List Cut)(c:Cut):(uE l c).length<=l.length+1:=by
 unfold uE;split<;>simp<;>omega
def wM {l:List Span}(hl:bR l):∀{i:Nat},i<=l.length->oL (mU l i)
 |0,_=>by intro x hx;simp[mU]at hx;rcases hx with rfl|rfl;exact pV;exact r6
 |i+1,h=>AR (AR (wM hl ah) (hl _ (aq ah)).1) (hl _ (aq ah)).2
def rO {l:List Span}(hl:bR l):oL (cT l):=wM hl (aM _)
def sQ (l:List Span):∀i,(mU l i).length<=2+2*i
 |0=>by simp[mU]
 |i+1=>by
  have h1:=sQ l i;have h2:=wH (mU l i) l[i]!.f;have h3:=wH (uE (mU l i) l[i]!.f) l[i]!.t;simp only[mU];omega
def pT (l:List Span):(cT l).length<=2+2*l.length:=sQ l _
def Mv {l:List Span}{f t:Cut}(hl:bR l)(hf:f.sm)(ht:t.sm):bR (lI l f t):=by
 unfold lI;split
 .rename_i h;intro x hx;rcases List.mem_or_eq_of_mem_set hx with hx|rfl
  .exact hl x hx
  .exact⟨(hl _ (aq ah)).1,ht⟩
 .intro x hx;rcases List.mem_append.1 hx with hx|hx
  .exact hl x hx
  .obtain rfl:=bJ.1 hx;exact⟨hf,ht⟩
def sZ (l:List Span)(f t:Cut):(lI l f t).length<=l.length+1:=by
 unfold lI;split<;>simp
def pE {p:Cut->Cut->Bool}{c:List Cut}(hc:oL c):∀{i:Nat},i<c.length\/i=0->bR (eO p c i)
 |0,_=>fun _ h=>by cases h
 |i+1,h=>by
  rw[eO];split
  .exact Mv (pE hc ah) (hc _ (aq ah)) (hc _ (aq ah))
  .exact pE hc ah
def qa {p:Cut->Cut->Bool}{c:List Cut}:∀i,(eO p c i).length<=i
 |0=>by simp[eO]
 |i+1=>by
  have h1:=qa (p:=p) (c:=c) i;rw[eO];split
  .have:=sZ (eO p c i) c[i]! c[i+1]!;omega
  .omega
def Ef {p:Cut->Cut->Bool}{c:List Cut}(hc:oL c):bR (Ee p c):=pE hc ah
def Ad {p:Cut->Cut->Bool}{c:List Cut}:(Ee p c).length<=c.length:=by
 have:=qa (p:=p) (c:=c) (c.length-1);unfold Ee;omega
def LO {a b:List Span}(ha:bR a)(hb:bR b):bR (a++b):=fun x hx=>(List.mem_append.1 hx).elim (ha x) (hb x)
def j0:bR []:=fun _ h=>by cases h
def Nh {a b:List Span}(ha:bR a)(hb:bR b):bR (Lh a b):=by
 unfold Lh pj;split
 .exact j0
 .split
  .exact Ef (rO (LO ha hb))
  .exact j0
def HC {a:List Span}(ha:bR a):bR (uO a):=by
 unfold uO;split
 .exact j0
 .exact Ef (rO ha)
def UX {a b:bQ}(ha:a.sm)(hb:b.sm):(Ni a b).sm:=by
 unfold Ni;split
 .exact⟨j0,j0⟩
 .exact⟨Nh ha.1 hb.1,Nh ha.2 hb.2⟩
def Qp {a:bQ}(ha:a.sm):(Bs a).sm:=by
 unfold Bs;split
 .exact⟨j0,j0⟩
 .exact⟨HC ha.1,HC ha.2⟩
def JI (v:aQ):(oP v).sm:=by
 unfold oP;split
 .exact pV
 .exact vj (BY v)
def PD (v:aQ):(Cv v).sm:=by
 unfold Cv;split
 .exact r6
 .exact vj (M5 _)
def zr {v:aQ}(h:v.sm):(bX v).sm:=by
 unfold bX;split
 .exact⟨j0,j0⟩
 .split
  .exact⟨j0,fun x hx=>by obtain rfl:=bJ.1 hx;exact⟨vj h,vj h⟩⟩
  .exact⟨fun x hx=>by obtain rfl:=bJ.1 hx;exact⟨JI v,PD v⟩,j0⟩
def PA:LK.sm:=⟨fun x hx=>by obtain rfl:=bJ.1 hx;exact⟨pV,r6⟩,fun x hx=>by obtain rfl:=bJ.1 hx;exact⟨pV,r6⟩⟩
def VG {xs:List Span}{k:Nat}{t:Cut}(h:k<xs.length):(xs.map Span.D).set k (uV ((xs.map Span.D).getD k .any) 14 7 7 (Cut.D t))=(xs.set k ⟨xs[k]!.f,t⟩).map Span.D:=by
 rw[getD_map h,List.map_set];rfl
structure Key where
 n:aU
 f:aU
 deriving Inhabited
def Key.D (k:Key):D:=.agg [.str k.n,.str k.f]
def pF (n:Int)(w:Want):Bool:=decide (0<w.u)&&decide (w.u<n)&&sr w.s
def oc (n:Int)(l:List Want):Bool:=cF (fun i=>pF n l[i]!) 0 l.length
def oz (n:Int)(l:List Want):Bool:=oc n l&&(decide (0<l.length)&&decide (l.length<=24))
def mh (n:Int)(c:dA):Bool:=decide (c.needs.length<=24)&&decide (c.bars.length<=24)&&cF (fun i=>oz n c.needs[i]!) 0 c.needs.length&&oc n c.bars
def xP (a b:Key):Int:=if mb a.n b.n≠0 then mb a.n b.n else mb a.f b.f
def jz (a b:cQ):Bool:=Op.bytesLess a.name b.name ||(decide (a.name=b.name)&&Op.bytesLess a.feat b.feat)
def oV (n:Int)(cs:List dA)(k:Nat):Bool:=fE cs[k]!.v&&mh n cs[k]! && !(decide (0<k)&&decide (0<=ki cs[k-1]!.v cs[k]!.v))
def lX (us:List cQ)(i:Nat):Bool:=!(decide (0<i)&&decide (us[i]!.name=[]))&& !(decide (1<i)&& !jz us[i-1]! us[i]!)&&decide (us[i]!.cands.length<=16)&&cF (oV us.length us[i]!.cands) 0 us[i]!.cands.length
def ub (us:List cQ):Bool:=decide (us[0]!.name=[])&&decide (us[0]!.feat=[])&&decide (us[0]!.cands.length=1)
def jo (w:bZ):Bool:=decide (1<=w.us.length)&&decide (w.us.length<=48)&&ub w.us&&cF (lX w.us) 0 w.us.length
def oB (us:List cQ)(i:Nat):Bool:=lX us i&& !(decide (i=0)&& !ub us)
def xk (a:aU):Op.bytesLess a a=false:=by
 induction a with
 |nil=>rfl
 |cons x r ih=>unfold Op.bytesLess;simp[ih]
def Kr (a b:cQ):decide (0<=xP ⟨a.name,a.feat⟩ ⟨b.name,b.feat⟩)=!jz a b:=by
 unfold xP jz mb;have h:=xk b.name;by_cases h1:Op.bytesLess a.name b.name=true<;>by_cases h2:a.name=b.name<;>by_cases h3:Op.bytesLess a.feat b.feat=true<;>by_cases h4:a.feat=b.feat<;>simp_all
def yG (w:bZ):jo w=(decide (1<=w.us.length)&&decide (w.us.length<=48)&&cF (oB w.us) 0 w.us.length):=by
 unfold jo;by_cases h:1<=w.us.length
 .have:cF (oB w.us) 0 w.us.length=(ub w.us&&cF (lX w.us) 0 w.us.length):=by
   rw[Bool.eq_iff_iff,br,dL,dL];simp only[oB,br,cW,ey,dn];constructor
   .intro g;have h0:=(g 0 ah ah).2;exact⟨by rcases h0 with h0|h0;exact absurd rfl h0;simpa using h0,fun j h1 h2=>(g j h1 h2).1⟩
   .rintro⟨g1,g2⟩ j h1 h2;exact⟨g2 j h1 h2,.inr (by simpa using g1)⟩
  rw[this];simp only[Bool.and_assoc]
 .simp[h]
def Uh (a b:Cut):Cut.D a=Cut.D b↔a=b:=by
 obtain⟨e,⟨v1,v2,v3,v4,v5⟩,x⟩:=a;obtain⟨e',⟨w1,w2,w3,w4,w5⟩,x'⟩:=b;simp[Cut.D,and_assoc]
def Rn (a b:List Cut):a.map Cut.D=b.map Cut.D↔a=b:=pk Uh a b
def MB (a b:Span):Span.D a=Span.D b↔a=b:=by
 obtain⟨⟨e,⟨v1,v2,v3,v4,v5⟩,x⟩,⟨f,⟨u1,u2,u3,u4,u5⟩,y⟩⟩:=a;obtain⟨⟨e',⟨w1,w2,w3,w4,w5⟩,x'⟩,⟨f',⟨t1,t2,t3,t4,t5⟩,y'⟩⟩:=b;simp[Span.D,and_assoc]
def A9 (a b:List Span):a.map Span.D=b.map Span.D↔a=b:=pk MB a b
def ZL (a b:bQ):bQ.D a=bQ.D b↔a=b:=by cases a;cases b;simp[bQ.D,A9]
def ME (a b:Want):Want.D a=Want.D b↔a=b:=by
 obtain⟨u,⟨x,y⟩⟩:=a;obtain⟨u',⟨x',y'⟩⟩:=b;simp[Want.D,A9]
def Ba (a b:List Want):a.map Want.D=b.map Want.D↔a=b:=pk ME a b
def MG (a b:nE):ei a=ei b↔a=b:=by simp[ei,Ba]
def Fs (a b:List nE):a.map ei=b.map ei↔a=b:=pk MG a b
def Ug (a b:dA):dA.D a=dA.D b↔a=b:=by
 obtain⟨⟨v1,v2,v3,v4,v5⟩,s,x,y⟩:=a;obtain⟨⟨w1,w2,w3,w4,w5⟩,s',x',y'⟩:=b;simp[dA.D,Fs,Ba,and_assoc]
def Mw (a b:List dA):a.map dA.D=b.map dA.D↔a=b:=pk Ug a b
def Un (a b:cQ):cQ.D a=cQ.D b↔a=b:=by cases a;cases b;simp[cQ.D,Mw]
def MD (a b:List cQ):a.map cQ.D=b.map cQ.D↔a=b:=pk Un a b
def ZN (a b:bZ):bZ.D a=bZ.D b↔a=b:=by cases a;cases b;simp[bZ.D,MD]
def ZI (a b:Key):Key.D a=Key.D b↔a=b:=by cases a;cases b;simp[Key.D]
def iGs (a b:Gs):Gs.D a=Gs.D b↔a=b:=by cases a;cases b;simp[Gs.D,Uj]
end Go.Abs
section
namespace Go.Abs
structure dY where
 name:aU
 range:aU
 feats:List aU
 bare:Bool
 deriving Inhabited,DecidableEq
def dY.D (x:dY):D:=.agg [.str x.name,.str x.range,.sl 1 (x.feats.map D.str),.bool x.bare]
structure cG where
 any:List dY
 when':aU
 option:aU
 deriving Inhabited,DecidableEq
def cG.D (x:cG):D:=.agg [.sl 4 (x.any.map dY.D),.str x.when',.str x.option]
structure ma where
 name:aU
 range:aU
 when':aU
 deriving Inhabited,DecidableEq
def ma.D (x:ma):D:=.agg [.str x.name,.str x.range,.str x.when']
structure cZ where
 name:aU
 of:List aU
 deriving Inhabited,DecidableEq
def cZ.D (x:cZ):D:=.agg [.str x.name,.sl 1 (x.of.map D.str)]
structure Rec where
 name:aU
 v:aQ
 needs:List cG
 bars:List ma
 feats:List cZ
 deriving Inhabited,DecidableEq
def Rec.D (x:Rec):D:=.agg [.str x.name,.int .i64 x.v.major,.int .i64 x.v.minor,.int .i64 x.v.patch,.str x.v.pre,.str x.v.build,.sl 3 (x.needs.map cG.D),.sl 3 (x.bars.map ma.D),.sl 2 (x.feats.map cZ.D)]
structure Cmp where
 op:Int
 parts:Int
 v:aQ
 deriving Inhabited,DecidableEq
def Cmp.D (x:Cmp):D:=.agg [.int .i64 x.op,.int .i64 x.parts,.int .i64 x.v.major,.int .i64 x.v.minor,.int .i64 x.v.patch,.str x.v.pre,.str x.v.build]
structure Nd where
 op:Int
 a:Int
 b:Int
 key:Int
 text:aU
 deriving Inhabited,DecidableEq
def Nd.D (x:Nd):D:=.agg [.int .i64 x.op,.int .i64 x.a,.int .i64 x.b,.int .i64 x.key,.str x.text]
def ma.eq (a b:ma):iw (ma.D a).cells (ma.D b).cells=decide (a=b):=by
 obtain⟨a1,a2,a3⟩:=a;obtain⟨b1,b2,b3⟩:=b
 grind [ma.D,D.cells,iw,vu]
def dY.same {a b:dY}(e1:a.name=b.name)(e2:a.range=b.range)(e3:a.bare=b.bare):decide (a=b)=decide (a.feats=b.feats):=by
 obtain⟨a1,a2,a3,a4⟩:=a;obtain⟨b1,b2,b3,b4⟩:=b
 grind
def rising (l:List aU):Bool:=cF (fun i=>Op.bytesLess l[i-1]! l[i]!) 1 l.length
def dR (s:aU):Int×aU×aU:=
 if fj s=true then(1,s,[])
 else if s.length>0/\at8 s 0=63/\fj (s.drop 1)=true then(2,s.drop 1,[])
 else if(bE s 47).length=2/\fS (bE s 47)[0]! =true/\fj (bE s 47)[1]! =true then(3,(bE s 47)[0]!,(bE s 47)[1]!)
 else(0,[],[])
def findF (l:List cZ)(nm:aU)(i:Nat):Int:=match(l.drop i).findIdx? (fun x=>decide (x.name=nm))with
 |some k=>((i+k:Nat):Int)
 |none=>-1
def Zv:aU:=[100,101,102,97,117,108,116]
def VZ (l:List cZ)(nm:aU):Bool:=decide (nm=Zv) ||decide (0<=findF l nm 0)
def Us (l:List cZ)(s:aU):Bool:=!(decide ((dR s).1=0) ||(decide ((dR s).1=1)&& !VZ l (dR s).2.1))
def MK (l:List cZ)(of:List aU):Bool:=decide (of.length<=6)&&rising of&&cF (fun i=>Us l of[i]!) 0 of.length
def Mh (l:List cZ)(i:Nat):Bool:=fj l[i]!.name&& !(decide (0<i)&& !Op.bytesLess l[i-1]!.name l[i]!.name)&&MK l l[i]!.of
def en (l:List cZ):Bool:=decide (l.length<=8)&&cF (Mh l) 0 l.length
def cZ.sm (x:cZ):Prop:=x.name.length<=1048576/\x.of.length<=1048576/\∀t∈x.of,t.length<=1048576
def ofL:List (List aU):=[[],[[63,111]],[[97,110,116,47,102]],[[98,101,101,47,102]],[[99,111,119,47,102]],[[100,111,103,47,102]],[[63,111],[97,110,116,47,102]],[[63,111],[98,101,101,47,102]],[[63,111],[99,111,119,47,102]],[[63,111],[100,111,103,47,102]]]
def zw:List (List cZ):=[]::ofL.map fun o=>[⟨[102],o⟩]
def je (l:List cZ):Prop:=l∈zw
def zC (b:aU):∀(l:List aU) (i:Nat),(cL b (l.take i)).length<=(cL b l).length
 |[],i=>bg
 |[t],0=>by simp[cL]
 |[t],i+1=>bg
 |t::u::r,0=>by simp[cL]
 |t::u::r,1=>by simp[cL]
 |t::u::r,i+2=>by
  have:=zC b (u::r) (i+1)
  grind [cL]
def xh (b t:aU):∀(l:List aU),l≠[]->cL b (l++[t])=cL b l++b++t
 |[],h=>absurd rfl h
 |[u],_=>by simp[cL]
 |u::v::r,_=>by
  have:=xh b t (v::r) bg
  grind [cL]
def xi (b:aU)(l:List aU)(i:Nat)(h:i<l.length):cL b (l.take (i+1))=(if 0<i then cL b (l.take i)++b else [])++l[i]! :=by
 have e:l.take (i+1)=l.take i++[l[i]!]:=by
  rw[List.take_add_one,List.getElem?_eq_getElem h];simp[h]
 rw[e];by_cases h0:0<i
 .rw[ay h0,xh _ _ _ (by intro hn;have:=aC List.length hn;simp only[pH,aX]at this;omega)]
 grind [cL]
end Go.Abs
namespace Go.Abs
end Go.Abs
end
namespace Go.Abs
def iD:aU->aU->List aU
 |[],cur=>[cur]
 |[c],cur=>[cur++[c]]
 |c::d::r,cur=>if c=124/\d=124 then cur::iD r []else iD (d::r) (cur++[c])
def tP:aU->aU
 |[]=>[]
 |c::r=>if c=32 then tP r else c::r
def wE (s:aU):aU:=(tP (tP s).reverse).reverse
def lU:List aU:=[[42],[94,49,46,48,46,48],[61,49,46,50,46,48],[62,61,49,46,50,46,48],[60,50,46,48,46,48],[94,50,46,48,46,48,45,97,46,49],[61,49,46,48,46,48,32,124,124,32,61,50,46,48,46,48],[33,61,49,46,50,46,48]]
def J9:List aU:=[[],[111,115,32,61,32,108,105,110,117,120],[111,115,32,33,61,32,108,105,110,117,120]]
def ML:List aU:=[[63,111],[97,110,116,47,102],[98,101,101,47,102],[99,111,119,47,102],[100,111,103,47,102]]
def vB (s:aU):Bool:=lU.contains s
def r9 (s:aU):Bool:=J9.contains s
def oy (s:aU):Prop:=s∈lU
def pw (s:aU):Prop:=s∈J9
def oo (s:aU):Prop:=s∈ML
def oy.len {s:aU}(h:oy s):s.length<=1048576:=by
 have:∀s∈lU,s.length<=1048576:=bj
 exact this s h
def pw.len {s:aU}(h:pw s):s.length<=1048576:=by
 have:∀s∈J9,s.length<=1048576:=bj
 exact this s h
def oo.len {s:aU}(h:oo s):s.length<=1048576:=by
 have:∀s∈ML,s.length<=1048576:=bj
 exact this s h
theorem je.sm {l:List cZ}(h:je l):∀x∈l,x.sm:=by
 have:∀l∈zw,∀x∈l,x.name.length<=1048576/\x.of.length<=1048576/\∀t∈x.of,t.length<=1048576:=bj
 exact this l h
def je.it {l:List cZ}(h:je l):∀x∈l,∀s∈x.of,oo s:=by
 have:∀l∈zw,∀x∈l,∀s∈x.of,s∈ML:=bj
 exact this l h
def nQ (f:Nat->Int):Nat->Nat->Int×Int
 |_,0=>(0,0)
 |i,k+1=>if f i=0 then nQ f (i+1) k else(f i,((i:Nat):Int))
def iy (f:Nat->Int)(i n:Nat):Int×Int:=nQ f i (n-i)
def lA {f:Nat->Int}{i n:Nat}(h:i<n)(hf:f i=0):iy f i n=iy f (i+1) n:=by
 unfold iy;obtain⟨k,hk⟩:∃k,n-i=k+1:=⟨n-i-1,ah⟩
 grind [nQ]
def ji {f:Nat->Int}{i n:Nat}(h:i<n)(hf:f i≠0):iy f i n=(f i,((i:Nat):Int)):=by
 unfold iy;obtain⟨k,hk⟩:∃k,n-i=k+1:=⟨n-i-1,ah⟩
 rw[hk];simp only[nQ,hf,aS]
def lz {f:Nat->Int}{i n:Nat}(h:n<=i):iy f i n=(0,0):=by
 unfold iy;rw[show n-i=0 by omega];rfl
def fT (r:Rec)(name rng:aU):Int:=if fS name=false then 4 else if name=r.name then 8 else if vB rng=false then 6 else 0
def RP (l:List aU)(i:Nat):Bool:=fj l[i]! && !(decide (0<i)&& !Op.bytesLess l[i-1]! l[i]!)
def kg (l:List aU)(alone:Bool):Bool:=(decide (l.length<=6)&&(alone ||decide (l.length=0)))&&cF (RP l) 0 l.length
def jK (r:Rec)(w:dY)(alone:Bool):Int:=if fT r w.name w.range≠0 then fT r w.name w.range else if kg w.feats alone=false then 11 else 0
def mD (r:Rec)(l:List dY):Int:=e8 (fun i=>jK r l[i]! (decide ((l.length:Int)=1))) 0 l.length
def iP (r:Rec)(n:cG):Int:=if n.any.length=0 then 9 else if 3<n.any.length then 3 else if mD r n.any≠0 then mD r n.any else
 if r9 n.when'=false then 7 else if n.option≠[]/\fj n.option=false then 14 else 0
def oQ (r:Rec)(b:ma):Int:=if fT r b.name b.range≠0 then fT r b.name b.range else if r9 b.when'=false then 7 else 0
def Ko (l:List cG)(x:aU):Bool:=l.any fun n=>decide (n.option=x)
def zP (l:List cG)(x:aU):Bool:=l.any fun n=>decide (n.any.length=1)&&decide (n.any[0]!.name=x)
def kU (r:Rec)(s:aU):Int:=if(dR s).1=2/\Ko r.needs (dR s).2.1=false then 14 else if(dR s).1=3/\zP r.needs (dR s).2.1=false then 16 else 0
def jZ (r:Rec)(of:List aU):Int:=e8 (fun i=>kU r of[i]!) 0 of.length
def lQ (r:Rec):Int×Int:=iy (fun i=>iP r r.needs[i]!) 0 r.needs.length
def rC (r:Rec):Int×Int:=iy (fun i=>oQ r r.bars[i]!) 0 r.bars.length
def AV (r:Rec):Int×Int:=iy (fun i=>jZ r r.feats[i]!.of) 0 r.feats.length
def eB (r:Rec):Int×Int:=if(lQ r).1≠0 then lQ r else if(rC r).1≠0 then rC r else if en r.feats=false then(11,0)else AV r
def OH (n:Nat)(al:Bool):(decide ((6:Int)<(n:Nat)) ||(decide ((0:Int)<(n:Nat))&& !al))=!(decide (n<=6)&&(al ||decide (n=0))):=by
 grind
def wf_c (l:List aU)(i:Nat):(!fj l[i]! ||(decide ((0:Int)<(i:Nat))&& !Op.bytesLess l[i-1]! l[i]!))=!RP l i:=by
 unfold RP
 grind
def wf_2 (l:List aU)(al:Bool):(cF (fun i=>fj l[i]!) 0 l.length&&((decide (l.length<=6)&&rising l)&&(al ||decide (l.length=0))))=kg l al:=by
 grind [cF,RP,fj,rising,dL,kg]
def ZT (k:Int)(x:aU)(n:cG):Bool:=(decide (k=2)&&decide (n.option=x)) ||((decide (k=3)&&decide ((n.any.length:Int)=1))&&decide (n.any[0]!.name=x))
def Ur (k:Int):Int:=if k=2 then 14 else if k=3 then 16 else 0
def MJ (r:Rec)(s:aU):kU r s=if r.needs.any (ZT (dR s).1 (dR s).2.1)=true then 0 else Ur (dR s).1:=by
 grind [kU,Ur,Ko,zP,dR,ZT]
def AL {α:Type} [Inhabited α]{c:α->Bool}{l:List α}{i:Nat}(h:i<l.length)(hc:c l[i]! =true):(l.drop i).any c=true:=by
 rw[gZ h,List.any_cons]
 grind
def E1 {α:Type} [Inhabited α]{c:α->Bool}{l:List α}{i:Nat}(h:i<l.length)(hc:c l[i]! =false):(l.drop i).any c=(l.drop (i+1)).any c:=by
 rw[gZ h,List.any_cons]
 grind
def AK {α:Type}{c:α->Bool}{l:List α}{i:Nat}(h:l.length<=i):(l.drop i).any c=false:=by
 rw[kR h];rfl
def Ax:aU:=[110,101,101,100]
def oI:aU:=[97,110,121]
def sy:aU:=[119,104,101,110]
def lr:aU:=[111,112,116,105,111,110]
def tK:aU:=[98,97,114]
def jc:aU:=[102,101,97,116,117,114,101]
def nw:aU:=[112,97,99,107,97,103,101]
def oD:aU:=[102,117,108,108]
def oC:aU:=[98,97,114,101]
def cO (l:List aU):aU:=cL [32] l++[10]
def pG (w:dY):List aU:=[oI,w.name,if w.feats.length=0 then [45]else cL [44] w.feats,if w.bare=true then oC else oD,w.range]
def jd (s:aU):aU:=if s=[]then []else cO [sy,s]
def se (s:aU):aU:=if s=[]then []else cO [lr,s]
def ue (n:cG):aU:=cO [Ax]++(n.any.map fun w=>cO (pG w)).flatten++jd n.when'++se n.option
def AO (b:ma):aU:=cO [tK,b.name,b.range]++jd b.when'
def rT (f:cZ):aU:=cO ([jc,f.name]++f.of)
def qv (r:Rec):aU:=cO [nw,r.name,oH r.v]
def sv (r:Rec):aU:=qv r++(r.needs.map ue).flatten++(r.bars.map AO).flatten++(r.feats.map rT).flatten
def dD (r:Rec):Int×Int:=if fS r.name=false then(4,0)else if fE r.v=false then(5,0)else if 8<r.needs.length\/8<r.bars.length then(3,0)else
 if(eB r).1≠0 then eB r else if 4096<(sv r).length then(3,0)else(0,0)
def er (r:Rec):aU×Int:=if(dD r).1≠0 then([],(dD r).1)else(sv r,0)
def dY.sm (w:dY):Prop:=(w.name.length<=1048576/\oy w.range)/\∀t∈w.feats,t.length<=1048576
def cG.sm (n:cG):Prop:=(∀w∈n.any,w.sm)/\pw n.when'/\n.option.length<=1048576
def ma.sm (b:ma):Prop:=b.name.length<=1048576/\oy b.range/\pw b.when'
def eC (r:Rec):Prop:=(r.name.length<=1048576/\r.v.sm)/\(∀n∈r.needs,n.sm)/\(∀b∈r.bars,b.sm)/\je r.feats
def Dx {r:Rec}{e:Int×Int}(h:lQ r=e)(hn:e.1≠0):eB r=e:=by grind [eB]
def xQ {r:Rec}{e:Int×Int}(h0:lQ r=(0,0))(h:rC r=e)(hn:e.1≠0):eB r=e:=by grind [eB]
def Dy {r:Rec}(h0:lQ r=(0,0))(h1:rC r=(0,0))(h:en r.feats=false):eB r=(11,0):=by grind [eB]
def sg {r:Rec}{e:Int×Int}(h0:lQ r=(0,0))(h1:rC r=(0,0))(h:en r.feats=true)(h2:AV r=e):eB r=e:=by grind [eB]
def CJ (f:Nat->Int):∀(k i:Nat),(nQ f i k).1=0->nQ f i k=(0,0)
 |0,_,_=>rfl
 |k+1,i,h=>by
  simp only[nQ]at h⊢;by_cases hf:f i=0
  .rw[ay hf]at h⊢;exact CJ f k (i+1) h
  .rw[aj hf]at h;exact absurd h hf
def Dz {r:Rec}(h:(eB r).1=0):eB r=(0,0):=by
 unfold eB at h⊢;split
 .rename_i h1;rw[ay h1]at h;exact absurd h h1
 .rename_i h1;rw[aj h1]at h;split
  .rename_i h2;rw[ay h2]at h;exact absurd h h2
  .rename_i h2;rw[aj h2]at h;split
   .rename_i h3;rw[ay h3]at h;cases h
   .rename_i h3;rw[aj h3]at h;exact CJ _ _ _ h
def mT {r:Rec}{e:Int×Int}(h0:fS r.name=true)(h1:fE r.v=true)(h2:¬8<r.needs.length)(h3:¬8<r.bars.length)(hp:eB r=e)(hn:e.1≠0):dD r=e:=by
 grind [dD]
def rN {r:Rec}(h0:fS r.name=true)(h1:fE r.v=true)(h2:¬8<r.needs.length)(h3:¬8<r.bars.length)(hp:eB r=(0,0)):dD r=if 4096<(sv r).length then(3,0)else(0,0):=by
 grind [dD]
def xa (r:Rec):Prop:=(fS r.name=true/\fE r.v=true)/\(r.needs.length<=8/\r.bars.length<=8)/\eB r=(0,0)
def wU {f:Nat->Int}:∀{k i:Nat},oZ f i k=0->∀j,i<=j->j<i+k->f j=0
 |0,i,_,j,h1,h2=>absurd h2 ah
 |k+1,i,h,j,h1,h2=>by
  simp only[oZ]at h;by_cases hf:f i=0
  .rw[ay hf]at h;by_cases hj:j=i
   .rw[hj];exact hf
   .exact wU h j ah ah
  .rw[aj hf]at h;exact absurd h hf
def Fl {f:Nat->Int}{n:Nat}(h:e8 f 0 n=0)(j:Nat)(hj:j<n):f j=0:=wU h j ah ah
def wV {f:Nat->Int}:∀{k i:Nat},(nQ f i k).1=0->∀j,i<=j->j<i+k->f j=0
 |0,i,_,j,h1,h2=>absurd h2 ah
 |k+1,i,h,j,h1,h2=>by
  simp only[nQ]at h;by_cases hf:f i=0
  .rw[ay hf]at h;by_cases hj:j=i
   .rw[hj];exact hf
   .exact wV h j ah ah
  .rw[aj hf]at h;exact absurd h hf
def Fk {f:Nat->Int}{n:Nat}(h:(iy f 0 n).1=0)(j:Nat)(hj:j<n):f j=0:=wV h j ah ah
def dY.fit (w:dY):Prop:=w.sm/\(w.feats.length<=6/\∀t∈w.feats,t.length<=12)
def cG.fit (n:cG):Prop:=(n.any.length<=3/\∀w∈n.any,w.fit)/\n.when'.length<=1048576/\n.option.length<=1048576
def cZ.fit (x:cZ):Prop:=x.sm/\x.of.length<=6
structure Rec.fit (r:Rec):Prop where
 nm:r.name.length<=1048576
 v:r.v.sm
 ns:r.needs.length<=8
 n:∀x∈r.needs,x.fit
 bs:r.bars.length<=8
 b:∀x∈r.bars,x.sm
 fs:r.feats.length<=8
 f:∀x∈r.feats,x.fit
theorem vx {α:Type} [Inhabited α]{l:List α}{x:α}(h:x∈l):∃i,i<l.length/\l[i]! =x:=by
 obtain⟨i,hi,e⟩:=List.mem_iff_getElem.1 h;exact⟨i,hi,by rw[<-e];simp[hi]⟩
def OI {r:Rec}{w:dY}{al:Bool}(h:jK r w al=0)(hs:w.sm):w.fit:=by
 refine⟨hs, ?_⟩
 grind [jK,kg,dL,vx,RP,fj]
def M4 {r:Rec}{n:cG}(h:iP r n=0)(hs:n.sm):n.fit:=by
 unfold iP at h;split at h
 .cases h
 split at h
 .cases h
 rename_i h1 h2;split at h
 .rename_i h3;exact absurd h h3
 rename_i h3;refine⟨⟨ah,fun w hw=>?_⟩,hs.2.1.len,hs.2.2⟩;obtain⟨i,hi,rfl⟩:=vx hw;exact OI (Fl (Classical.not_not.1 h3) i hi) (hs.1 _ hw)
def zz {r:Rec}(h:xa r/\eC r):r.fit:=by
 obtain⟨⟨_,⟨h1,h2⟩,hp⟩,⟨s1,s2⟩,s3,s4,s5⟩:=h;have h0:(lQ r).1=0/\en r.feats=true:=by
  grind [eB]
 obtain⟨h3,h4⟩:=h0;simp only[en,br,bU,dL]at h4;refine⟨s1,s2,h1,fun x hx=>?_,h2,s4,h4.1,fun x hx=>⟨s5.sm x hx, ?_⟩⟩
 .obtain⟨i,hi,rfl⟩:=vx hx;exact M4 (Fk h3 i hi) (s3 _ hx)
 grind [vx,Mh,MK]
def m6 (x:UInt8)(B:Nat):∀l:List aU,(∀t∈l,t.length<=B)->(cL [x] l).length<=l.length*(B+1)
 |[],_=>by simp[cL]
 |[t],h=>by have:=h t (.head _);simp only[cL,aT,aX];omega
 |t::u::r,h=>by
  have h1:=h t (.head _);have h2:=m6 x B (u::r) fun y hy=>h y (.tail _ hy)
  simp only[cL,bS,aT,aX,Nat.succ_mul]at h2⊢;omega
def yE {w:dY}(h:w.fit):(cL [44] w.feats).length<=6291462:=by
 have h1:=m6 44 1048576 w.feats h.1.2;have h2:=fg (1048576+1) h.2.1;omega
def Cc {w:dY}(h:w.fit):(cL [44] w.feats).length<=78:=by
 have h1:=m6 44 12 w.feats h.2.2;have h2:=fg (12+1) h.2.1;omega
def iQ (w:dY):aU:=cO (pG w)
def tL {w:dY}(h:w.fit):(iQ w).length<=8400000:=by
 have h1:=yE h;have h2:=And.intro h.1.1.1 h.1.1.2.len;simp only[iQ,cO,pG,cL,bS,aT,aX]
 grind [oI,oC,oD]
def lD {s:aU}(h:s.length<=1048576):(jd s).length<=1048590:=by
 unfold jd;split
 .simp
 .simp only[cO,cL,sy,bS,aT,aX];omega
def Nf {s:aU}(h:s.length<=1048576):(se s).length<=1048590:=by
 unfold se;split
 .simp
 .simp only[cO,cL,lr,bS,aT,aX];omega
def rX {α:Type}(q:α->aU)(B:Nat){l:List α}(h:∀x∈l,(q x).length<=B)(i:Nat):(((l.take i).map q).flatten).length<=i*B:=by
 have h1:=o9 q B (l.take i) fun x hx=>h x (GR hx)
 have h2:=fg B (List.length_take_le i l);omega
theorem pX {α:Type} [Inhabited α](q:α->aU){l:List α}{i:Nat}(h:i<l.length):((l.take (i+1)).map q).flatten=((l.take i).map q).flatten++q l[i]! :=by
 rw[List.take_add_one,List.getElem?_eq_getElem h,List.map_append,List.flatten_append];simp[h]
def Ka {n:cG}(h:n.fit):(ue n).length<=27400000:=by
 have h1:=o9 iQ 8400000 n.any fun w hw=>tL (h.1.2 w hw)
 have h2:=fg 8400000 h.1.1;have h3:=lD h.2.1;have h4:=Nf h.2.2;have h5:(cO [Ax]).length=5:=rfl;unfold iQ at h1
 grind [ue]
def LR {b:ma}(h:b.sm):(AO b).length<=3145800:=by
 have h1:=lD h.2.2.len;have h2:=h.1;have h3:=h.2.1.len;simp only[AO,cO,cL,tK,bS,aT,aX];omega
def zx {x:cZ}(h:x.fit):(rT x).length<=8400000:=by
 have h1:=m6 32 1048576 ([jc,x.name]++x.of) (by
  intro t ht;simp only[fR,fQ,cM]at ht;rcases ht with rfl|rfl|ht
  .simp[jc]
  .exact h.1.1
  .exact h.1.2.2 _ ht)
 have h2:=h.2
 grind [jc,rT,cO]
def JZ {r:Rec}(h1:r.name.length<=1048576)(h2:r.v.sm):(qv r).length<=3145800:=by
 have h3:=yB r.v h2;simp only[qv,cO,cL,nw,bS,aT,aX];omega
def dT (n:cG)(j:Nat):aU:=cO [Ax]++((n.any.take j).map iQ).flatten
def Qm (n:cG):dT n 0=[110,101,101,100,10]:=rfl
def lP {n:cG}{j:Nat}(h:j<n.any.length):dT n (j+1)=dT n j++iQ n.any[j]! :=by grind [dT,pX,iQ]
def tq {n:cG}{j:Nat}(h:n.any.length<=j):ue n=dT n j++jd n.when'++se n.option:=by
 rw[dT,gY h];rfl
def zH {n:cG}(h:n.fit)(j:Nat)(hj:j<=3):(dT n j).length<=25200005:=by
 have h1:=rX iQ 8400000 (fun w hw=>tL (h.1.2 w hw)) j;have h2:=fg 8400000 hj;have h5:(cO [Ax]).length=5:=rfl
 grind [dT]
def jy (r:Rec)(i:Nat):aU:=qv r++((r.needs.take i).map ue).flatten
def yx (r:Rec)(i:Nat):aU:=jy r r.needs.length++((r.bars.take i).map AO).flatten
def Ar (r:Rec)(i:Nat):aU:=yx r r.bars.length++((r.feats.take i).map rT).flatten
def Oy (r:Rec):jy r 0=qv r:=by simp[jy]
def Oz (r:Rec):yx r 0=jy r r.needs.length:=by simp[yx]
def OA (r:Rec):Ar r 0=yx r r.bars.length:=by simp[Ar]
def B5 (r:Rec):Ar r r.feats.length=sv r:=by grind [Ar,yx,jy,sv]
def kJ {r:Rec}{i:Nat}(h:i<r.needs.length):jy r (i+1)=jy r i++ue r.needs[i]! :=by grind [jy,pX,ue]
def Eu {r:Rec}{i:Nat}(h:i<r.bars.length):yx r (i+1)=yx r i++AO r.bars[i]! :=by grind [yx,pX,AO]
def Ev {r:Rec}{i:Nat}(h:i<r.feats.length):Ar r (i+1)=Ar r i++rT r.feats[i]! :=by grind [Ar,pX,rT]
def B3 {r:Rec}(h:r.fit)(i:Nat)(hi:i<=r.needs.length):(jy r i).length<=222400000:=by
 have a0:=JZ h.nm h.v;have a1:=rX ue 27400000 (fun x hx=>Ka (h.n x hx)) i;have b1:=fg 27400000 (eP hi h.ns);simp only[jy,bS];omega
def B4 {r:Rec}(h:r.fit)(i:Nat)(hi:i<=r.bars.length):(yx r i).length<=247600000:=by
 have a0:=B3 h r.needs.length (aM _);have a1:=rX AO 3145800 (fun x hx=>LR (h.b x hx)) i;have b1:=fg 3145800 (eP hi h.bs);simp only[yx,bS];omega
def HX {r:Rec}(h:r.fit)(i:Nat)(hi:i<=r.feats.length):(Ar r i).length<=314800000:=by
 have a0:=B4 h r.bars.length (aM _);have a1:=rX rT 8400000 (fun x hx=>zx (h.f x hx)) i;have b1:=fg 8400000 (eP hi h.fs);simp only[Ar,bS];omega
theorem oU {r:Rec}(h:(dD r).1=0):xa r:=by
 unfold dD at h;split at h
 .cases h
 split at h
 .cases h
 split at h
 .cases h
 rename_i a b c;split at h
 .rename_i d;exact absurd h d
 rename_i d;exact⟨⟨by simpa using a,by simpa using b⟩,⟨ah,ah⟩,Dz (Classical.not_not.1 d)⟩
def oG (r:Rec):Int:=if(er r).2≠0 then 0 else KZ (er r).1
def qo (m:List (Nat×bL))(l:Nat)(t:List UInt8):Prop:=(∃u,look m l=some (.bld none 0 u)/\t=[])\/(∃l2 u,look m l=some (.bld (some l2) t.length u)/\look m l2=some (.row t))
@[go_sem] def fD (m:List (Nat×bL))(l:Nat):List (Nat×bL):=match look m l with
 |some (.bld (some l2) _ _)=>cA m l2
 |_=>m
@[go_sem] def oS (m:List (Nat×bL))(l L:Nat)(t:List UInt8):List (Nat×bL):=(L,.row t)::cR (fD m l) l (.bld (some L) t.length true)
def TrW (amf:D)(s:List UInt8)(ds:List D)(st:St)(K:D->St->Prop):Prop:=∃l t,ds=[.ptr l 2 0 0,amf]/\qo st.m l t/\l<st.nx/\s≠[]/\t.length+s.length<=1099511627776/\K .any ⟨st.nx+1,oS st.m l st.nx (t++s)⟩
def trWS (ds:List D)(st:St)(K:D->St->Prop):Prop:=∃s,TrW (.str s) s ds st K
def trWB (ds:List D)(st:St)(K:D->St->Prop):Prop:=∃c,TrW (.int .u8 c.toNat) [c] ds st K
def trBS (ds:List D)(st:St)(K:D->St->Prop):Prop:=∃l t,ds=[.ptr l 2 0 0]/\qo st.m l t/\t≠[]/\K (.str t) ⟨st.nx,cA (fD st.m l) l⟩
def Sg (Y:Ctx):Prop:=∀(ds:List D) (st:St) (K:D->St->Prop),trWS ds st K->Y.tr 489 ds st K
def Su (Y:Ctx):Prop:=∀(ds:List D) (st:St) (K:D->St->Prop),trWB ds st K->Y.tr 664 ds st K
def Se (Y:Ctx):Prop:=∀(ds:List D) (st:St) (K:D->St->Prop),trBS ds st K->Y.tr 452 ds st K
def J1 (b a:aU)(l:List aU)(h:a≠[]):cL b (a::l)≠[]:=by
 match l with
 |[]=>exact h
 |c::r=>
  rw[qP b a (c::r) bg];intro e;have:=List.append_eq_nil_iff.1 e;exact h (List.append_eq_nil_iff.1 this.1).1
def AH (ws:List aU)(t:aU):Prop:=(cL [32] ws≠[]/\ws.length<=1048600)/\(∀w∈ws,w.length<=2097200)/\t.length+(cL [32] ws).length+1<=1099511627776
def AH.mk {a:aU}{l:List aU}{t:aU}(h1:a≠[])(h2:l.length<=99)(h3:∀w∈a::l,w.length<=2097200)(h4:t.length<=1000000000):AH (a::l) t:=by
 have h5:=m6 32 2097200 (a::l) h3;have h6:(a::l).length<=100:=by simp only[aT];omega
 have h7:=fg (2097200+1) h6;exact⟨⟨J1 _ _ _ h1,ah⟩,h3,ah⟩
def Sd (Y:Ctx):Prop:=∀(ws:List aU) (t:aU) (l lw nx:Nat) (m:List (Nat×bL)) (K:D->St->Prop),qo m l t->look m lw=some (.buf 1 (ws.map D.str))->l<nx->lw<nx->AH ws t->
 K (.tup []) ⟨nx+1,oS (cA m lw) l nx (t++cO ws)⟩->Y.tr 450 [.ptr l 2 0 0,.own lw 1 0 ws.length] ⟨nx,m⟩ K
def tg {m:List (Nat×bL)}{l L:Nat}{t:List UInt8}(h:l≠L):look (oS m l L t) l=some (.bld (some L) t.length true)/\look (oS m l L t) L=some (.row t):=by
 constructor
 .simp only[oS,look,aj (fun e=>h (Eq.symm e))]
  haveI:di:={gd:=fun _=>True,le:=fun _ _ _ _ _=>trivial}
  rw[cE,ay rfl]
 .simp only[oS,look,ay]
def PF {m:List (Nat×bL)}{l L:Nat}{t:List UInt8}(h:l≠L):qo (oS m l L t) l t:=.inr ⟨L,true,tg h⟩
end Go.Abs
section
namespace Go.Abs
structure gC where
 r:Rec
 sum:Int
 off:Bool
 deriving Inhabited,DecidableEq
def gC.D (x:gC):D:=.agg [.str x.r.name,.int .i64 x.r.v.major,.int .i64 x.r.v.minor,.int .i64 x.r.v.patch,.str x.r.v.pre,.str x.r.v.build,.sl 3 (x.r.needs.map cG.D),.sl 3 (x.r.bars.map ma.D),.sl 2 (x.r.feats.map cZ.D),.int .u64 x.sum,.bool x.off]
structure cC where
 name:aU
 es:List gC
 deriving Inhabited,DecidableEq
def cC.D (s:cC):D:=.agg [.str s.name,.sl 11 (s.es.map gC.D)]
def C1 (nm:aU)(v:aQ)(x:gC):Bool:=decide (x.r.name=nm)&&Dn x.r.v v
def Up {nm:aU}{v:aQ}{x:gC}(h:¬x.r.name=nm\/Dn x.r.v v=false):C1 nm v x=false:=by
 grind [C1]
def Qd {nm:aU}{v:aQ}{x:gC}(h:x.r.name=nm/\Dn x.r.v v=true):C1 nm v x=true:=by
 grind [C1]
def ow (l:List gC)(nm:aU)(v:aQ)(i:Nat):Int:=match(l.drop i).findIdx? (C1 nm v)with
 |some k=>((i+k:Nat):Int)
 |none=>-1
def Nn {l:List gC}{nm:aU}{v:aQ}{i:Nat}(h:i<l.length)(he:C1 nm v l[i]! =true):ow l nm v i=(i:Nat):=by
 unfold ow;rw[gZ h,List.findIdx?_cons]
 grind
def No {l:List gC}{nm:aU}{v:aQ}{i:Nat}(h:i<l.length)(he:C1 nm v l[i]! =false):ow l nm v i=ow l nm v (i+1):=by
 unfold ow;have:C1 nm v l[i]=false:=by simpa[h]using he
 rw[gZ h,List.findIdx?_cons]
 grind
def HF {l:List gC}{nm:aU}{v:aQ}{i:Nat}(h:l.length<=i):ow l nm v i=-1:=by
 unfold ow;rw[kR h];rfl
def qI (l:List gC)(i:Nat):Bool:=decide ((er l[i]!.r).2=0)&&decide (oG l[i]!.r=l[i]!.sum)&&decide (ow (l.take i) l[i]!.r.name l[i]!.r.v 0<0)
def jn (s:cC):Bool:=(fS s.name&&decide (s.es.length<=64))&&cF (qI s.es) 0 s.es.length
theorem xT {r:Rec}(h:(er r).2=0):fE r.v=true:=by
 grind [dD,er,oU]
def U2 {l:List gC}{nm:aU}{v:aQ}:ow l nm v 0<0↔∀x∈l,C1 nm v x=false:=by
 grind [ow,C1]
theorem zO {l:List gC}{i:Nat}(h:i<l.length)(hv:fE l[i]!.r.v=true):decide (ow l l[i]!.r.name l[i]!.r.v 0=(i:Nat))=decide (ow (l.take i) l[i]!.r.name l[i]!.r.v 0<0):=by
 have hi:C1 l[i]!.r.name l[i]!.r.v l[i]! =true:=by unfold C1;rw[Kl hv,cX rfl];rfl
 apply mQ.2;rw[U2];constructor
 .intro he x hx;obtain⟨j,hj,rfl⟩:=List.mem_take_iff_getElem.1 hx;have hj2:j<i:=ah;unfold ow at he;rw[bP]at he;cases hf:l.findIdx? (C1 l[i]!.r.name l[i]!.r.v)with
  |none=>rw[hf]at he;simp only at he;omega
  |some k=>
   rw[hf]at he;obtain⟨h1,h2,h3⟩:=List.findIdx?_eq_some_iff_getElem.1 hf;have hk:k=i:=by simp only at he;omega
   subst hk;have:=h3 j hj2;simpa using this
 .intro hx;unfold ow;rw[bP];have:l.findIdx? (C1 l[i]!.r.name l[i]!.r.v)=some i:=by
   rw[List.findIdx?_eq_some_iff_getElem];refine⟨h,by simpa[h]using hi,fun j hj=>?_⟩;have:=hx l[j] (List.mem_take_iff_getElem.2 ⟨j,ah,rfl⟩);rw[this];decide
  rw[this];simp
def L4 {l:List gC}{i:Nat}(h:i<l.length)(h1:(er l[i]!.r).2=0)(h2:oG l[i]!.r=l[i]!.sum)(h3:ow l l[i]!.r.name l[i]!.r.v 0=(i:Nat)):qI l i=true:=by
 grind [zO,xT,qI]
def PY {l:List gC}{i:Nat}(h:i<l.length)(h1:(¬(er l[i]!.r).2=0\/¬oG l[i]!.r=l[i]!.sum)\/¬ow l l[i]!.r.name l[i]!.r.v 0=(i:Nat)):qI l i=false:=by
 grind [qI,er,oG,zO,xT]
end Go.Abs
namespace Go.Abs
def QU {s:cC}(h:jn s=true):s.name.length<=16/\s.es.length<=64:=by
 grind [jn,fS]
end Go.Abs
end
namespace Go.Abs
def PI (a b:Int):Int:=IntKind.i64.wrap ((BitVec.ofInt 64 a&&&BitVec.ofInt 64 b).toNat)
def bvN (a b:Int):Int:=IntKind.i64.wrap ((BitVec.ofInt 64 a&&& ~~~ BitVec.ofInt 64 b).toNat)
def bvO (a b:Int):Int:=IntKind.i64.wrap ((BitVec.ofInt 64 a |||BitVec.ofInt 64 b).toNat)
def CP (us:List cQ)(u:Int):Int:=if u<0\/(us.length:Int)<=u then 0 else 2^(us[u.toNat]!.cands.length+1) -1
def UC (cs:List dA)(s:bQ):Nat->Int
 |0=>0
 |k+1=>if pd s cs[k]!.v=true then UC cs s k+2^(k+1)else UC cs s k
def Qj (us:List cQ)(w:Want):Int:=if w.u<0\/(us.length:Int)<=w.u then 0 else UC us[w.u.toNat]!.cands w.s us[w.u.toNat]!.cands.length
def kV (us:List cQ):List yO->Int->Int
 |[],u=>CP us u
 |t::r,u=>if t.u=u then t.m else kV us r u
def trmB (us:List cQ)(t:yO):Bool:=decide (t.m≠0)&&decide (PI t.m (CP us t.u)=t.m)&&decide (t.m≠CP us t.u)
def Et (us:List cQ)(l:List yO):Bool:=cF (fun i=>trmB us l[i]! && !(decide (0<i)&&decide (l[i]!.u<=l[i-1]!.u))) 0 l.length
def sureB (us:List cQ)(row:iR)(k:Int)(w:Want):Bool:=if w.u=row.unit then decide (PI (Qj us w) (2^(k+1).toNat)≠0)else decide (bvN (kV us row.terms w.u) (Qj us w)=0)
def ZW (us:List cQ)(row:iR)(k:Int)(w:Want):Bool:=if w.u=row.unit then decide (PI (Qj us w) (2^(k+1).toNat)=0)else decide (PI (Qj us w) (kV us row.terms w.u)=0)
def ju {α:Type}(f:α->Bool):List α->Nat->Int
 |[],_=>-1
 |x::r,i=>if f x=true then(i:Int)else ju f r (i+1)
def lJ {α:Type} [Inhabited α]{f:α->Bool}{l:List α}{i:Nat}(hi:i<l.length)(h:f l[i]! =true):ju f (l.drop i) i=i:=by
 rw[gZ hi,ju,ay (by simpa[hi]using h)]
def jY {α:Type} [Inhabited α]{f:α->Bool}{l:List α}{i:Nat}(hi:i<l.length)(h:f l[i]! =false):ju f (l.drop i) i=ju f (l.drop (i+1)) (i+1):=by
 rw[gZ hi,ju,aj (by simpa[hi]using h)]
def mZ {α:Type}{f:α->Bool}{l:List α}{i:Nat}(hi:l.length<=i):ju f (l.drop i) i=-1:=by
 rw[kR hi,ju]
def fB (b:Bool)(us:List cQ)(row:iR)(k:Int)(w:Want):Bool:=if b=true then sureB us row k w else !ZW us row k w
def QN (us:List cQ)(row:iR)(k:Int)(r:nE):Bool:=!r.any (fB false us row k)
def saysP (us:List cQ)(row:iR)(k:Nat)(mild:Bool):Bool:=if mild=true then us[row.unit.toNat]!.cands[k]!.bars.any (fB true us row (k:Int))else us[row.unit.toNat]!.cands[k]!.needs.any (QN us row (k:Int))
def dA.fz (l k:Nat)(es:List Abs.D)(c:dA):eS l k es c.D=c.D:=kL l k es _ (by simp only[dA.D,D.aZ,aR,fh])
def ru.fz (l k:Nat)(es:List Abs.D)(c:ru):eS l k es c.D=c.D:=kL l k es _ (by simp only[ru.D,D.aZ,aR,fh])
def iR.fz (l k:Nat)(es:List Abs.D)(c:iR):eS l k es c.D=c.D:=kL l k es _ (by simp only[iR.D,D.aZ,aR,fh])
def hasU (l:List yO)(u:Int):Bool:=l.any fun t=>decide (t.u=u)
def Hb (us:List cQ)(row:iR)(mild:Bool):Bool:=hasU row.terms row.unit&&decide (PI (kV us row.terms row.unit) 1=0)&&cF (fun k=>decide (PI (kV us row.terms row.unit) (2^(k+1))=0) ||saysP us row k mild) 0 us[row.unit.toNat]!.cands.length
def Zs (us:List cQ)(A B:List yO)(row:iR)(u:Nat):Bool:=decide (bvN (kV us row.terms (u:Int)) (if(u:Int)=row.unit then bvO (kV us A (u:Int)) (kV us B (u:Int))else PI (kV us A (u:Int)) (kV us B (u:Int)))=0)
def Zr (c:ru)(row:iR)(i:Int):Bool:=decide (CP c.w.us row.unit≠0)&&(decide (0<=row.a)&&decide (row.a<i))&&(decide (0<=row.b)&&decide (row.b<i))&&(Et c.w.us c.rows[row.a.toNat]!.terms&&Et c.w.us c.rows[row.b.toNat]!.terms)&&cF (Zs c.w.us c.rows[row.a.toNat]!.terms c.rows[row.b.toNat]!.terms row) 0 c.w.us.length
def askP (c:ru)(row:iR):Bool:=decide (CP c.w.us row.unit≠0)&&decide (row.unit<c.allow.length)&&decide (PI (kV c.w.us row.terms row.unit) c.allow[row.unit.toNat]! =0)
def ZV (c:ru)(row:iR)(i:Int):Bool:=if row.kind=5 then Zr c row i else decide (row.a=0)&&decide (row.b=0)&&(if row.kind=1 then decide (row.unit=0)&&decide (kV c.w.us row.terms 0=1)else if row.kind=2\/row.kind=3 then Hb c.w.us row (decide (row.kind=3))else if row.kind=4 then askP c row else false)
def Ut (c:ru)(i:Int):Bool:=decide (0<=i)&&decide (i<c.rows.length)&&Et c.w.us c.rows[i.toNat]!.terms&&ZV c c.rows[i.toNat]! i
def JK (m:Int)(i:Nat):Bool:=decide (IntKind.i64.wrap ((BitVec.ofInt 64 (m.fdiv (2^(min (i:Int).toNat 64))))&&&(BitVec.ofInt 64 1)).toNat=1)
def yN (m:Int)(vs:List aQ):Nat->bQ
 |0=>xI
 |i+1=>if JK m i=true then Ni (yN m vs i) (bX vs[i]!)else yN m vs i
def y5 (g:Gs)(vs:List aQ):bQ:=if g.au.val 6=0 then LK else if g.au.val 6=1 then Bs (yN (g.val 8) vs vs.length)else yN (g.val 8) vs vs.length
def c9 (g:Gs)(n:Nat)(vs:Nat->List aQ):Want:=⟨1+g.val ((n:Int) -1),y5 g.au (vs (1+g.val ((n:Int) -1)).toNat)⟩
def Gs.eX (g:Gs):Gs:=g.au.au.au
def kW (n:Nat)(vs:Nat->List aQ):Nat->Gs->List nE->List nE×Gs
 |0,g,acc=>(acc,g)
 |k+1,g,acc=>if g.eX.val 3=0 then kW n vs k g.eX.au.eX (acc++[[c9 g n vs,c9 g.eX.au n vs]])else kW n vs k g.eX.au (acc++[[c9 g n vs]])
def aA (g:Gs)(n:Nat)(vs:Nat->List aQ)(most:Int):List nE×Gs:=kW n vs (g.val (most+1)).toNat g.au []
def qf (n:Nat)(s:bQ):Prop:=s.sm/\s.rel.length<=n/\s.pr.length<=n
def qf.s {n:Nat}{s:bQ}(h:qf n s)(hn:n<=1000):EZ s:=⟨⟨h.1.1,eP h.2.1 hn⟩,⟨h.1.2,eP h.2.2 hn⟩⟩
def qf.mono {n k:Nat}{s:bQ}(h:qf n s)(hn:n<=k):qf k s:=⟨h.1,eP h.2.1 hn,eP h.2.2 hn⟩
def Qo {n:Nat}:qf n xI:=⟨⟨j0,j0⟩,Nat.zero_le _,Nat.zero_le _⟩
def rS {v:aQ}(h:v.sm):qf 1 (bX v):=by
 refine⟨zr h, ?_, ?_⟩<;>(unfold bX;split;exact Nat.zero_le _;split<;>simp)
def HE (a b:List Span):(Lh a b).length<=2+2*(a.length+b.length):=by
 unfold Lh pj;split
 .exact Nat.zero_le _
 .split
  .have h1:=Ad (p:=qO (a++b)) (c:=cT (a++b));have h2:=pT (a++b);simp only[bS]at h2;dsimp only;omega
  .exact Nat.zero_le _
def Dk (a:List Span):(uO a).length<=2+2*a.length:=by
 unfold uO;split
 .exact Nat.zero_le _
 .have h1:=Ad (p:=fun x y=>!qO a x y) (c:=cT a);have h2:=pT a;omega
def Z0 {a b:bQ}{n k:Nat}(ha:qf n a)(hb:qf k b):qf (2+2*(n+k)) (Ni a b):=by
 refine⟨UX ha.1 hb.1, ?_, ?_⟩<;>unfold Ni<;>split
 .exact Nat.zero_le _
 .have:=HE a.rel b.rel;have:=ha.2.1;have:=hb.2.1;dsimp only;omega
 .exact Nat.zero_le _
 .have:=HE a.pr b.pr;have:=ha.2.2;have:=hb.2.2;dsimp only;omega
def UI {a:bQ}{n:Nat}(ha:qf n a):qf (2+2*n) (Bs a):=by
 refine⟨Qp ha.1, ?_, ?_⟩<;>unfold Bs<;>split
 .exact Nat.zero_le _
 .have:=Dk a.rel;have:=ha.2.1;dsimp only;omega
 .exact Nat.zero_le _
 .have:=Dk a.pr;have:=ha.2.2;dsimp only;omega
def Ru {m:Int}{vs:List aQ}(hv:∀v∈vs,v.sm):∀{k:Nat},k<=vs.length->qf (4*2^k-4) (yN m vs k)
 |0,_=>Qo
 |k+1,h=>by
  have ih:=Ru (m:=m) hv (show k<=vs.length by omega);have h2:4*2^(k+1)=8*2^k:=by rw[Nat.pow_succ];omega
  have h1:1<=2^k:=Nat.one_le_two_pow;rw[yN];split
  .exact(Z0 ih (rS (hv _ (aq ah)))).mono ah
  .exact ih.mono ah
def S3:qf 1 LK:=⟨PA,bj,bj⟩
def Ng {m:Int}{vs:List aQ}(hv:∀v∈vs,v.sm)(h4:vs.length<=4){k:Nat}(hk:k<=vs.length):qf 60 (yN m vs k):=(Ru hv hk).mono (by
 have:2^k<=2^4:=Nat.pow_le_pow_right bj ah;omega)
def Vy {g:Gs}{vs:List aQ}(hv:∀v∈vs,v.sm)(h4:vs.length<=4):qf 122 (y5 g vs):=by
 have h:=Ng (m:=g.val 8) hv h4 (aM _);unfold y5;split
 .exact S3.mono bj
 .split
  .exact UI h
  .exact h.mono bj
inductive NF where
 |nil|sl (l:List nE)|own (k:Nat)
 deriving Inhabited
inductive BF where
 |nil|sl (l:List Want)|own (k:Nat)
 deriving Inhabited
def NF.D (e:Nat):NF->D
 | .nil=>.bM
 | .sl l=>.sl 1 (l.map ei)
 | .own k=>.own e 1 0 k
def BF.D (e:Nat):BF->D
 | .nil=>.bM
 | .sl l=>.sl 3 (l.map Want.D)
 | .own k=>.own e 3 0 k
structure CW where
 v:aQ
 sh:Int
 n:NF
 b:BF
 deriving Inhabited
def CW.D (e:Nat)(c:CW):D:=.agg [.int .i64 c.v.major,.int .i64 c.v.minor,.int .i64 c.v.patch,.str c.v.pre,.str c.v.build,.int .i64 c.sh,c.n.D e,c.b.D e]
def NF.pl:NF->Bool
 | .own _=>false
 |_=>true
def BF.pl:BF->Bool
 | .own _=>false
 |_=>true
def CW.pl (c:CW):Bool:=c.n.pl&&c.b.pl
def Ke (l:List Want):aR (l.map Want.D)=true:=bH (fun _=>by simp only[Want.D,D.aZ,aR,fh]) _
def Kd (r:nE):(ei r).aZ=true:=by simp only[ei,D.aZ]
def jr (l:List nE):aR (l.map ei)=true:=bH Kd _
def CW.aZ {e:Nat}{c:CW}(h:c.pl=true):(c.D e).aZ=true:=by
 obtain⟨v,sh,n,b⟩:=c;cases n<;>cases b<;>first|(simp[CW.pl,NF.pl,BF.pl]at h;done)|rfl
theorem CW.rn {e e' lo:Nat}{σ:List (Nat×Nat)}(h:gD lo σ e=some e')(c:CW):kO lo σ (c.D e)=some (c.D e'):=by
 obtain⟨v,sh,n,b⟩:=c;cases n<;>cases b<;>simp[CW.D,NF.D,BF.D,kO,jm,vC,h]
def dM {e e' lo:Nat}{σ:List (Nat×Nat)}(h:gD lo σ e=some e'):∀xs:List CW,jm lo σ (xs.map (CW.D e))=some (xs.map (CW.D e'))
 |[]=>rfl
 |c::r=>by simp only[List.map_cons,jm,CW.rn h c,dM h r]
def CW.ZE {l e k:Nat}{es:List Abs.D}(h:e≠l)(c:CW):eS l k es (c.D e)=c.D e:=by
 obtain⟨v,sh,n,b⟩:=c;cases n<;>cases b<;>simp[CW.D,NF.D,BF.D,eS,fL,h]
def gO {l e k:Nat}{es:List D}(h:e≠l):∀xs:List CW,fL l k es (xs.map (CW.D e))=xs.map (CW.D e)
 |[]=>rfl
 |c::r=>by simp only[List.map_cons,fL,CW.ZE (es:=es) (k:=k) h c,gO h r]
def CW.pl_e {e e':Nat}{c:CW}(h:c.pl=true):c.D e=c.D e':=by
 obtain⟨v,sh,n,b⟩:=c;cases n<;>cases b<;>first|(simp[CW.pl,NF.pl,BF.pl]at h;done)|rfl
def vi {e e':Nat}{xs:List CW}(h:∀c∈xs,c.pl=true):xs.map (CW.D e)=xs.map (CW.D e'):=List.map_congr_left fun c hc=>CW.pl_e (h c hc)
def cz {e:Nat}:∀{xs:List CW},(∀c∈xs,c.pl=true)->aR (xs.map (CW.D e))=true
 |[],_=>rfl
 |c::r,h=>by simp only[List.map_cons,aR,CW.aZ (h c (.head _)),cz fun x hx=>h x (.tail _ hx),fh]
def De {α β:Type} [Inhabited α] [Inhabited β]{f:α->β}{xs:List α}{i:Nat}(h:i<xs.length):(xs.map f)[i]! =f xs[i]! :=by
 simp[List.getElem!_eq_getElem?_getD,h]
def UD (nm ft:Nat->aU)(ln:Nat->Nat)(j:Nat):D:=.agg [.str (nm j),.str (ft j),.own (2+j) 8 0 (ln j)]
def UB (n:Nat)(nm ft:Nat->aU)(ln:Nat->Nat):List D:=(List.range n).map (UD nm ft ln)
def lB {n i:Nat}(h:i<n):(List.range n)[i]! =i:=by
 simp[List.getElem!_eq_getElem?_getD,h]
def oO {l k n:Nat}{es:List D}{nm ft:Nat->aU}{ln:Nat->Nat}(h:8≠k):fL l k es (UB n nm ft ln)=UB n nm ft ln:=by
 unfold UB;generalize List.range n=r;induction r with
 |nil=>rfl
 |cons a r ih=>simp only[List.map_cons,fL,ih,UD,eS,h,cv,cw,aS]
def jO {lo n:Nat}{nm ft:Nat->aU}{ln:Nat->Nat}(σ:List (Nat×Nat))(h:∀j,j<n->gD lo σ (2+j)=some (2+j)):jm lo σ (UB n nm ft ln)=some (UB n nm ft ln):=by
 unfold UB;have h2:∀j∈List.range n,gD lo σ (2+j)=some (2+j):=fun j hj=>h j (List.mem_range.1 hj)
 revert h2;generalize List.range n=r;intro h2;induction r with
 |nil=>rfl
 |cons a r ih=>
  have:=h2 a (.head _);simp only[List.map_cons,jm,UD,kO,vC,this,ih fun j hj=>h2 j (.tail _ hj)]
def iL {a b:bL}{r:List (Nat×bL)}(cs:Nat->List D){v:Nat}(h:v<8):look ((0,a)::(1,b)::(2,.buf 8 (cs 0))::(3,.buf 8 (cs 1))::(4,.buf 8 (cs 2))::(5,.buf 8 (cs 3))::(6,.buf 8 (cs 4))::(7,.buf 8 (cs 5))::(8,.buf 8 (cs 6))::(9,.buf 8 (cs 7))::r) (2+v)=some (.buf 8 (cs v)):=by
 match v,h with
 |0,_=>rfl
 |1,_=>rfl
 |2,_=>rfl
 |3,_=>rfl
 |4,_=>rfl
 |5,_=>rfl
 |6,_=>rfl
 |7,_=>rfl
def Pz (m:List (Nat×bL))(g:Gs)(n:Nat)(nm ft:Nat->aU)(cs:Nat->List CW)(kk:Nat)(E:List D):Prop:=
 look m 0=some (.buf 2 [g.D])/\look m 1=some (.buf 3 (UB n nm ft fun j=>(cs j).length))/\(∀v,v<8->look m (2+v)=some (.buf 8 ((cs v).map (CW.D 10))))/\look m 10=some (.buf kk E)
def eight {P:Nat->Prop}(h0:P 0)(h1:P 1)(h2:P 2)(h3:P 3)(h4:P 4)(h5:P 5)(h6:P 6)(h7:P 7):∀v,v<8->P v
 |0,_=>h0
 |1,_=>h1
 |2,_=>h2
 |3,_=>h3
 |4,_=>h4
 |5,_=>h5
 |6,_=>h6
 |7,_=>h7
def Lr (n:Nat)(cs:Nat->List CW):Prop:=(2<=n/\n<=8)/\∀t,(cs t).length<=4/\∀c∈cs t,c.v.sm
def iE (cs:Nat->List CW)(t:Nat):List aQ:=(cs t).map CW.v
def iz (l k:Nat)(es:List D)(rs:List nE):fL l k es (rs.map ei)=rs.map ei:=jj l k es _ (jr rs)
def gp (l k:Nat)(es:List D)(rs:List Want):fL l k es (rs.map Want.D)=rs.map Want.D:=jj l k es _ (Ke rs)
def Want.fz (l k:Nat)(es:List Abs.D)(w:Want):eS l k es w.D=w.D:=kL l k es _ (by simp only[Want.D,D.aZ,aR,fh])
def Gs.fz (l k:Nat)(es:List Abs.D)(g:Gs):eS l k es g.D=g.D:=kL l k es _ (by simp only[Gs.D,D.aZ,aR,fh])
def Od {lo l:Nat}{σ:List (Nat×Nat)}(h:l<lo)(hs:(σ.all fun p=>Nat.ble lo p.1)=true:=by rfl):gD lo σ l=some l:=by
 induction σ with
 |nil=>simp[gD,Nat.blt,show Nat.ble (l+1) lo=true from dH]
 |cons a r ih=>
  simp only[List.all_cons,br,Nat.ble_eq]at hs;have hb:Nat.beq a.1 l=false:=by
   cases e:Nat.beq a.1 l with
   |false=>rfl
   |true=>have:=Nat.eq_of_beq_eq_true e;omega
  simp only[gD,hb,cond_false];exact ih (by simpa using hs.2)
structure RU where
 name:aU
 feat:aU
 cs:List CW
 deriving Inhabited
def bn (v:aQ):CW:=⟨v,0,.nil,.nil⟩
def AF:CW:=⟨zV,-1,.nil,.nil⟩
def ca:List aU:=[[97,110,116],[98,101,101],[99,111,119],[100,111,103],[101,108,107]]
def xz:ca.length=5:=rfl
def bN (m:Int):Nat->List aQ
 |0=>[]
 |i+1=>if JK m i=true then bN m i++[cu[i]!]else bN m i
def hJ (vs:List aQ):Nat->Gs->List aQ->List aQ×Gs
 |0,g,acc=>(acc,g)
 |r+1,g,acc=>hJ vs r g.au (if 0<g.val 3 then acc++[vs[vs.length-(r+1)]!]else acc)
def gN (few:Int):Nat->Gs->List RU->List RU×Gs
 |0,g,us=>(us,g.au)
 |r+1,g,us=>
  if((4-r:Nat):Int)<1+g.val few then
   if 4-r<2/\g.au.au.val 3=0 then
    gN few r (hJ (bN (g.au.val 16) 4) (bN (g.au.val 16) 4).length g.eX []).2
     ((us++[⟨ca[4-r]!,[],(bN (g.au.val 16) 4).map bn⟩])++[⟨ca[4-r]!,[102],(hJ (bN (g.au.val 16) 4) (bN (g.au.val 16) 4).length g.eX []).1.map bn⟩])
   else gN few r (if 4-r<2 then g.eX else g.au.au) (us++[⟨ca[4-r]!,[],(bN (g.au.val 16) 4).map bn⟩])
  else(us,g.au)
def Av:List RU:=[⟨[],[],[AF]⟩]
def ff (g:Gs)(few:Int):List RU×Gs:=gN few 5 g Av
def ze (us:List RU):List D:=UB us.length (fun j=>us[j]!.name) (fun j=>us[j]!.feat) (fun j=>us[j]!.cs.length)
def UM (g:Gs)(us:List RU):List (Nat×bL):=[(0,.buf 2 [g.D]),(1,.buf 3 (ze us)),(2,.buf 8 (us[0]!.cs.map (CW.D 10))),(3,.buf 8 (us[1]!.cs.map (CW.D 10))),(4,.buf 8 (us[2]!.cs.map (CW.D 10))),
 (5,.buf 8 (us[3]!.cs.map (CW.D 10))),(6,.buf 8 (us[4]!.cs.map (CW.D 10))),(7,.buf 8 (us[5]!.cs.map (CW.D 10))),(8,.buf 8 (us[6]!.cs.map (CW.D 10))),(9,.buf 8 (us[7]!.cs.map (CW.D 10)))]
def CT {us:List RU}{x:RU}{t:Nat}(h:t<us.length):(us++[x])[t]! =us[t]! :=by
 simp[List.getElem!_eq_getElem?_getD,List.getElem?_append_left h]
def wY {us:List RU}{x:RU}{t:Nat}(h:t=us.length):(us++[x])[t]! =x:=by
 subst h;simp[List.getElem!_eq_getElem?_getD]
def wZ {us:List RU}{t:Nat}(h:us.length<=t):us[t]! =default:=by
 simp[List.getElem!_eq_getElem?_getD,h]
def Pw (us:List RU)(x:RU):ze (us++[x])=ze us++[.agg [.str x.name,.str x.feat,.own (2+us.length) 8 0 x.cs.length]]:=by
 unfold ze UB;rw[bS,List.length_singleton,List.range_succ,List.map_append];congr 1
 .apply List.map_congr_left;intro j hj;simp only[UD,CT (List.mem_range.1 hj)]
 .simp only[List.map_cons,List.map_nil,UD,wY rfl]
def Eb {lo:Nat}{σ:List (Nat×Nat)}:∀{a b a' b':List D},jm lo σ a=some a'->jm lo σ b=some b'->jm lo σ (a++b)=some (a'++b')
 |[],b,a',b',h1,h2=>by simp only[jm,aP]at h1;subst h1;exact h2
 |d::r,b,a',b',h1,h2=>by
  simp only[jm]at h1;split at h1
  .rename_i d' r' e1 e2;obtain rfl:=bd h1;simp only[fR,jm,e1,Eb e2 h2]
  .cases h1
def Gu (LU LC p:Nat):List (Nat×Nat):=(LU,1)::(LC,2+p)::(List.range p).map fun t=>(2+t,2+t)
def ik {a b:Nat}(h:a≠b):Nat.beq a b=false:=by
 cases e:Nat.beq a b with
 |false=>rfl
 |true=>exact absurd (Nat.eq_of_beq_eq_true e) h
def RH {lo:Nat}:∀{r:List Nat}{t:Nat},t∈r->gD lo (r.map fun t=>(2+t,2+t)) (2+t)=some (2+t)
 |a::r,t,h=>by
  simp only[List.map_cons,gD];cases e:Nat.beq (2+a) (2+t)with
  |true=>rw[cond_true,Nat.eq_of_beq_eq_true e]
  |false=>
   rw[cond_false];rcases cM.1 h with rfl|h
   .simp at e
   .exact RH h
def Oj {LU LC p t:Nat}(hU:10<=LU)(hC:10<=LC)(hp:p<8)(ht:t<p):gD 1 (Gu LU LC p) (2+t)=some (2+t):=by
 simp only[Gu,gD,ik (show LU≠2+t by omega),ik (show LC≠2+t by omega),cond_false];exact RH (List.mem_range.2 ht)
def VB {LU LC p:Nat}(hU:10<=LU)(hC:10<=LC)(hne:LU≠LC)(hp:p<8):fk 1 10 (Gu LU LC p)=true:=by
 have b1:=ik hne;have b2:=ik (Ne.symm hne);have u2:=ik (show 2≠LU by omega);have u3:=ik (show 3≠LU by omega);have u4:=ik (show 4≠LU by omega);have u5:=ik (show 5≠LU by omega);have u6:=ik (show 6≠LU by omega);have u7:=ik (show 7≠LU by omega);have u8:=ik (show 8≠LU by omega);have c2:=ik (show 2≠LC by omega);have c3:=ik (show 3≠LC by omega);have c4:=ik (show 4≠LC by omega);have c5:=ik (show 5≠LC by omega);have c6:=ik (show 6≠LC by omega);have c7:=ik (show 7≠LC by omega);have c8:=ik (show 8≠LC by omega)
 match p,hp with
 |0,_|1,_|2,_|3,_|4,_|5,_|6,_|7,_=>
  simp only[Gu,List.range,List.range.loop,List.map_cons,List.map_nil,fk,List.all_cons,List.all_nil,b1,b2,u2,u3,u4,u5,u6,u7,u8,c2,c3,c4,c5,c6,c7,c8,Nat.reduceAdd,Bool.not_false,eJ,fh];rfl
def sgU_2 {LU LC p t:Nat}(hp:p<t)(h8:t<8):((Gu LU LC p).all fun q=>!Nat.beq q.2 (2+t))=true:=by
 simp only[Gu,List.all_cons,br,cW,List.all_eq_true,fF,List.mem_range];refine⟨ik ah,ik ah, ?_⟩;rintro q ⟨j,hj,rfl⟩;exact ik (by simp only;omega)
def ZO (r:List Nat):gD 1 (r.map fun t=>(2+t,2+t)) 0=some 0:=by
 induction r with
 |nil=>rfl
 |cons a r ih=>simp only[List.map_cons,gD,ik (show 2+a≠0 by omega),cond_false];exact ih
def Gr {lo k i n l l':Nat}{σ:List (Nat×Nat)}(h:gD lo σ l=some l'):kO lo σ (.own l k i n)=some (.own l' k i n):=by simp only[kO,vC,h]
def HO {a b k:Nat}{c d:Nat}{r:List (Nat×Nat)}(h:gD 1 r 0=some 0)(ha:a≠0)(hb:c≠0):kO 1 ((a,b)::(c,d)::r) (.ptr 0 k 0 0)=some (.ptr 0 k 0 0):=by simp only[kO,vC,gD,ik ha,ik hb,cond_false,h]
def sgU_0 {LU LC p:Nat}(hU:10<=LU)(hC:10<=LC):gD 1 (Gu LU LC p) 0=some 0:=by
 simp only[Gu,gD,ik (show LU≠0 by omega),ik (show LC≠0 by omega),cond_false];generalize List.range p=r;induction r with
 |nil=>rfl
 |cons a r ih=>simp only[List.map_cons,gD,ik (show 2+a≠0 by omega),cond_false];exact ih
def RU.pl (u:RU):Prop:=∀c∈u.cs,c.pl=true
def At {nx LU LC:Nat}{g:Gs}{us:List RU}{x:RU}{m:List (Nat×bL)}{env env':List bI}(hp:us.length<8)(hU:10<=LU)(hC:10<=LC)(hne:LU≠LC)(hpl:∀u∈us,u.pl)(hx:x.pl)(h0:look m 0=some (.buf 2 [g.D]))
  (h1:look m LU=some (.buf 3 (ze us++[.agg [.str x.name,.str x.feat,.own LC 8 0 x.cs.length]]))) (h2:look m LC=some (.buf 8 (x.cs.map (CW.D 10)))) (hcs:∀t,t<us.length->look m (2+t)=some (.buf 8 (us[t]!.cs.map (CW.D 10))))
  (he:∀r,gD 1 r 0=some 0->aL 1 ((LU,1)::(LC,2+us.length)::r) env env'):aO 1 env ⟨nx,m⟩ env' ⟨10,UM g (us++[x])⟩:=by
 refine aO.to (Gu LU LC us.length) rfl (VB hU hC hne hp) (he _ (ZO _)) ?_;have hLC:gD 1 (Gu LU LC us.length) LC=some (2+us.length):=by simp only[Gu,gD,ik hne,cond_false,Nat.beq_refl,cond_true]
 have ent:∀t,t<8->((∃l b,gD 1 (Gu LU LC us.length) l=some (2+t)/\look m l=some b/\lZ 1 (Gu LU LC us.length) b (.buf 8 ((us++[x])[t]!.cs.map (CW.D 10))))\/
   (Nat.ble 1 (2+t)=true/\Nat.blt (2+t) 10=true/\(Gu LU LC us.length).all (fun p=>!Nat.beq p.2 (2+t))=true/\∃k,bL.buf 8 ((us++[x])[t]!.cs.map (CW.D 10))=.buf k [])):=by
  intro t ht;rcases Nat.lt_trichotomy t us.length with h|h|h
  .exact .inl ⟨2+t,_,Oj hU hC hp h,hcs t h,rfl,.inl ⟨by rw[CT h],cz (hpl _ (aq h))⟩⟩
  .subst h;exact .inl ⟨LC,_,hLC,h2,rfl,.inl ⟨by rw[wY rfl],cz hx⟩⟩
  .refine .inr ⟨by rw[Nat.ble_eq];omega,by rw[Nat.blt,Nat.ble_eq];omega,sgU_2 h ht,8, ?_⟩;rw[wZ dH];rfl
 refine⟨.inl ⟨0,_,sgU_0 hU hC,h0,rfl,.inl ⟨rfl,rfl⟩⟩,.inl ⟨LU,_,by simp only[Gu,gD,Nat.beq_refl,cond_true],h1,rfl,.inr (.inl ?_)⟩,ent 0 bj,ent 1 bj,ent 2 bj,ent 3 bj,ent 4 bj,ent 5 bj,ent 6 bj,ent 7 bj,trivial⟩;rw[Pw];refine Eb (jO _ fun j hj=>Oj hU hC hp hj) ?_;simp only[jm,kO,vC,hLC]
def lu (m:Int):∀i,(bN m i).length<=i
 |0=>aM _
 |i+1=>by
  have:=lu m i;rw[bN];split
  .simp only[bS,List.length_singleton];omega
  .omega
def Aw:cu.length=4:=rfl
def rD (m:Int):∀i,i<=4->∀v∈bN m i,v.sm
 |0,_,v,h=>by cases h
 |i+1,hi,v,h=>by
  rw[bN]at h;have hm:∀v∈cu,v.sm:=by
   intro v hv;simp only[cu,cM,dI,or_false]at hv;rcases hv with rfl|rfl|rfl|rfl<;>simp[aQ.sm]
  split at h
  .rcases List.mem_append.1 h with h|h
   .exact rD m i ah v h
   .obtain rfl:=bJ.1 h;exact hm _ (aq (by rw[Aw];omega))
  .exact rD m i ah v h
def fP (vs:List aQ):∀c∈vs.map bn,c.pl=true:=by
 intro c hc;obtain⟨v,_,rfl⟩:=fF.1 hc;rfl
def C9 {a:bL}{r:List (Nat×bL)}(cs:Nat->List D){v:Nat}(h:v<8):look ((0,a)::(2,.buf 8 (cs 0))::(3,.buf 8 (cs 1))::(4,.buf 8 (cs 2))::(5,.buf 8 (cs 3))::(6,.buf 8 (cs 4))::(7,.buf 8 (cs 5))::(8,.buf 8 (cs 6))::(9,.buf 8 (cs 7))::r) (2+v)=some (.buf 8 (cs v)):=by
 match v,h with
 |0,_=>rfl
 |1,_=>rfl
 |2,_=>rfl
 |3,_=>rfl
 |4,_=>rfl
 |5,_=>rfl
 |6,_=>rfl
 |7,_=>rfl
def jJ {us:List RU}(h:∀u∈us,u.pl)(t:Nat):aR (us[t]!.cs.map (CW.D 10))=true:=by
 rcases dQ t us.length with ht|ht
 .exact cz (h _ (aq ht))
 .rw[wZ ht];rfl
def Np {us:List RU}{x:RU}(h:∀u∈us,u.pl)(hx:x.pl):∀u∈us++[x],u.pl:=fun u hu=>(List.mem_append.1 hu).elim (h u) fun e=>by obtain rfl:=bJ.1 e;exact hx
def nD {lo:Nat}{us:List RU}(σ:List (Nat×Nat))(h:∀j,j<us.length->gD lo σ (2+j)=some (2+j)):jm lo σ (ze us)=some (ze us):=jO σ h
def iO {lo v:Nat}{r:List (Nat×Nat)}(h:v<8):gD lo ((1,1)::(2,2)::(3,3)::(4,4)::(5,5)::(6,6)::(7,7)::(8,8)::(9,9)::r) (2+v)=some (2+v):=by
 match v,h with
 |0,_=>rfl
 |1,_=>rfl
 |2,_=>rfl
 |3,_=>rfl
 |4,_=>rfl
 |5,_=>rfl
 |6,_=>rfl
 |7,_=>rfl
def zt (vs:List aQ):∀r g acc,(hJ vs r g acc).1.length<=acc.length+r
 |0,g,acc=>aM _
 |r+1,g,acc=>by
  have:=zt vs r g.au (if 0<g.val 3 then acc++[vs[vs.length-(r+1)]!]else acc);rw[hJ];split at this<;>rename_i h
  .rw[ay h];simp only[bS,List.length_singleton]at this;omega
  .rw[aj h];omega
def Gs.Ew (g:Gs)(n:Int):(1<=n->0<=g.val n/\g.val n<n)/\(n<1->g.val n=0):=⟨fun h=>gL _ _ h,fun h=>by simp only[Gs.val,gW];rw[ay h]⟩
def K0 {few:Int}{i:Nat}{h:Gs}{us:List RU}(h5:i<5)(hl:(i:Int)<1+h.val few):gN few (5-i) h us=
   if i<2/\h.au.au.val 3=0 then
    gN few (4-i) (hJ (bN (h.au.val 16) 4) (bN (h.au.val 16) 4).length h.eX []).2
     ((us++[⟨ca[i]!,[],(bN (h.au.val 16) 4).map bn⟩])++[⟨ca[i]!,[102],(hJ (bN (h.au.val 16) 4) (bN (h.au.val 16) 4).length h.eX []).1.map bn⟩])
   else gN few (4-i) (if i<2 then h.eX else h.au.au) (us++[⟨ca[i]!,[],(bN (h.au.val 16) 4).map bn⟩]):=by
 obtain⟨r,hr⟩:∃r,5-i=r+1:=⟨4-i,ah⟩
 rw[hr,gN];obtain rfl:r=4-i:=ah;rw[show 4-(4-i)=i by omega,ay hl]
def GG {few:Int}{i:Nat}{h:Gs}{us:List RU}(h5:i<=5)(hl:i=5\/¬(i:Int)<1+h.val few):gN few (5-i) h us=(us,h.au):=by
 rcases dQ i 5 with h6|h6
 .obtain⟨r,hr⟩:∃r,5-i=r+1:=⟨4-i,ah⟩
  rw[hr,gN];obtain rfl:r=4-i:=ah;rw[show 4-(4-i)=i by omega,aj (by rcases hl with hl|hl;omega;exact hl)]
 .rw[show 5-i=0 by omega,gN]
def Mf {vs:List aQ}{j:Nat}{k:Gs}{acc:List aQ}(hj:j<vs.length):hJ vs (vs.length-j) k acc=hJ vs (vs.length-(j+1)) k.au (if 0<k.val 3 then acc++[vs[j]!]else acc):=by
 obtain⟨r,hr⟩:∃r,vs.length-j=r+1:=⟨vs.length-j-1,ah⟩
 rw[hr,hJ,<-hr,show vs.length-(vs.length-j)=j by omega,show r=vs.length-(j+1)by omega]
def RU.raw (u:RU):Prop:=∃vs:List aQ,u.cs=vs.map bn/\vs.length<=4/\∀v∈vs,v.sm
def Cw (m:Int)(a b:aU):(⟨a,b,(bN m 4).map bn⟩:RU).raw:=⟨_,rfl,lu m 4,rD m 4 (aM _)⟩
def zu (vs:List aQ):∀r g acc,(∀v∈acc,v∈vs)->r<=vs.length->∀v∈(hJ vs r g acc).1,v∈vs
 |0,g,acc,h,_=>h
 |r+1,g,acc,h,hr=>by
  rw[hJ];refine zu vs r _ _ ?_ ah;intro v hv;split at hv
  .rcases List.mem_append.1 hv with hv|hv
   .exact h v hv
   .obtain rfl:=bJ.1 hv;exact aq ah
  .exact h v hv
def Mk (m:Int)(g:Gs)(a b:aU):(⟨a,b,(hJ (bN m 4) (bN m 4).length g []).1.map bn⟩:RU).raw:=by
 refine⟨_,rfl, ?_,fun v hv=>rD m 4 (aM _) v (zu _ _ _ _ (fun _ h=>by cases h) (aM _) v hv)⟩;have:=zt (bN m 4) (bN m 4).length g [];have:=lu m 4;simp only[aX]at*;omega
def Hi (vs:List aQ):∀r g acc,(hJ vs r g acc).2.i=g.i+r
 |0,g,acc=>by simp[hJ]
 |r+1,g,acc=>by rw[hJ,Hi vs r];simp only[Gs.au];omega
def nv (few:Int):∀(r:Nat) (g:Gs) (us:List RU),r<=5->∃more,(gN few r g us).1=us++more/\(∀u∈more,u.raw)/\more.length<=r+(r-3)/\g.i<=(gN few r g us).2.i/\(gN few r g us).2.i<=g.i+10*r+1
 |0,g,us,_=>⟨[],by simp[gN],bg,bg,by simp only[gN,Gs.au];omega,by simp only[gN,Gs.au];omega⟩
 |r+1,g,us,hr=>by
  rw[gN];split
  .split
   .rename_i h1 h2;have hf:=Hi (bN (g.au.val 16) 4) (bN (g.au.val 16) 4).length g.eX [];have hb:=lu (g.au.val 16) 4;obtain⟨more,e,hm,hl,hi1,hi2⟩:=nv few r (hJ (bN (g.au.val 16) 4) (bN (g.au.val 16) 4).length g.eX []).2 ((us++[⟨ca[4-r]!,[],(bN (g.au.val 16) 4).map bn⟩])++[⟨ca[4-r]!,[102],(hJ (bN (g.au.val 16) 4) (bN (g.au.val 16) 4).length g.eX []).1.map bn⟩]) ah;refine⟨_::_::more,by rw[e];simp only[eV,List.singleton_append];rfl, ?_, ?_, ?_, ?_⟩
    .intro u hu;rcases cM.1 hu with rfl|hu
     .exact Cw _ _ _
     .rcases cM.1 hu with rfl|hu
      .exact Mk _ _ _ _
      .exact hm u hu
    .simp only[aT];omega
    .rw[hf]at hi1;simp only[Gs.eX,Gs.au]at*;omega
    .rw[hf]at hi2;simp only[Gs.eX,Gs.au]at*;omega
   .have hg:g.i+2<=(if 4-r<2 then g.eX else g.au.au).i/\(if 4-r<2 then g.eX else g.au.au).i<=g.i+3:=by
     split<;>simp only[Gs.eX,Gs.au]<;>omega
    obtain⟨more,e,hm,hl,hi1,hi2⟩:=nv few r (if 4-r<2 then g.eX else g.au.au) (us++[⟨ca[4-r]!,[],(bN (g.au.val 16) 4).map bn⟩]) ah;refine⟨_::more,by rw[e];simp only[eV,List.singleton_append];rfl, ?_, ?_, ?_, ?_⟩
    .intro u hu;rcases cM.1 hu with rfl|hu
     .exact Cw _ _ _
     .exact hm u hu
    .simp only[aT];omega
    .omega
    .omega
  .refine⟨[],bg,bg,bg, ?_, ?_⟩<;>simp only[Gs.au]<;>omega
def GD {g:Gs}{few:Int}:2<=(ff g few).1.length:=by
 have hv:=g.Ew few;have h:(0:Int)<1+g.val few:=ah;unfold ff;rw[show 5=4+1 from rfl,gN,ay (by simpa using h)];split
 .obtain⟨more,e,_⟩:=nv few 4 (hJ (bN (g.au.val 16) 4) (bN (g.au.val 16) 4).length g.eX []).2 ((Av++[⟨ca[4-4]!,[],(bN (g.au.val 16) 4).map bn⟩])++[⟨ca[4-4]!,[102],(hJ (bN (g.au.val 16) 4) (bN (g.au.val 16) 4).length g.eX []).1.map bn⟩]) ah;rw[e];simp[Av]
 .obtain⟨more,e,_⟩:=nv few 4 (if 4-4<2 then g.eX else g.au.au) (Av++[⟨ca[4-4]!,[],(bN (g.au.val 16) 4).map bn⟩]) ah;rw[e];simp[Av]
def As {g:Gs}{few:Int}:∃more,(ff g few).1=Av++more/\(∀u∈more,u.raw)/\(1<=more.length/\more.length<=7)/\g.i<=(ff g few).2.i/\(ff g few).2.i<=g.i+51:=by
 obtain⟨more,e,hm,hl,h1,h2⟩:=nv few 5 g Av ah;have h3:=GD (g:=g) (few:=few);unfold ff at*
 rw[e]at h3⊢;refine⟨more,rfl,hm,⟨?_,ah⟩,h1,ah⟩;simp only[Av,bS,List.length_singleton]at h3;omega
def uu (h:Gs)(n:Nat)(vs:Nat->List aQ)(i:Nat)(f:aU)(v:aQ):List nE:=(if f=[]then []else [[⟨(i:Int) -1,bX v⟩]])++(aA h n vs 2).1
def iX (h:Gs)(n:Nat)(vs:Nat->List aQ)(i:Nat)(f:aU)(v:aQ):CW×Gs:=
 if(aA h n vs 2).2.val 4=0 then(⟨v,0,.sl (uu h n vs i f v),.sl [c9 (aA h n vs 2).2.au n vs]⟩,(aA h n vs 2).2.au.eX)
 else(⟨v,0,.sl (uu h n vs i f v),.nil⟩,(aA h n vs 2).2.au)
def eE (n:Nat)(vs:Nat->List aQ)(i:Nat)(f:aU):List aQ->Gs->List CW×Gs
 |[],h=>([],h)
 |v::r,h=>((iX h n vs i f v).1::(eE n vs i f r (iX h n vs i f v).2).1,(eE n vs i f r (iX h n vs i f v).2).2)
def cb (cs:Nat->List CW)(i:Nat)(x:List CW)(t:Nat):List CW:=if t=i then x else cs t
def lR (n:Nat)(vs:Nat->List aQ)(ft:Nat->aU):Nat->Nat->Gs->(Nat->List CW)->Nat->List CW
 |0,_,_,cs=>cs
 |r+1,i,h,cs=>lR n vs ft r (i+1) (eE n vs i (ft i) (vs i) h).2 (cb cs i (eE n vs i (ft i) (vs i) h).1)
def Bq (n:Nat)(vs:Nat->List aQ):∀k g acc,g.i<=(kW n vs k g acc).2.i/\(kW n vs k g acc).2.i<=g.i+7*k
 |0,g,acc=>by simp[kW]
 |k+1,g,acc=>by
  rw[kW];split
  .have:=Bq n vs k g.eX.au.eX (acc++[[c9 g n vs,c9 g.eX.au n vs]]);simp only[Gs.eX,Gs.au]at*;omega
  .have:=Bq n vs k g.eX.au (acc++[[c9 g n vs]]);simp only[Gs.eX,Gs.au]at*;omega
def xB {g:Gs}{n:Nat}{vs:Nat->List aQ}{most:Int}(h0:0<=most)(h3:most<=3):g.i<=(aA g n vs most).2.i/\(aA g n vs most).2.i<=g.i+22:=by
 have hv:=gL (JJ g.l g.i) (most+1) ah;have hv2:g.val (most+1)=gW (JJ g.l g.i) (most+1):=rfl;have:=Bq n vs (g.val (most+1)).toNat g.au [];unfold aA;simp only[Gs.au]at*;omega
def G7 {h:Gs}{n i:Nat}{vs:Nat->List aQ}{f:aU}{v:aQ}:h.i<=(iX h n vs i f v).2.i/\(iX h n vs i f v).2.i<=h.i+30:=by
 have:=xB (g:=h) (n:=n) (vs:=vs) (most:=2) bj bj;unfold iX;split<;>simp only[Gs.eX,Gs.au]<;>omega
def G8 (h:Gs)(n i:Nat)(vs:Nat->List aQ)(f:aU)(v:aQ):(iX h n vs i f v).1.v=v/\(iX h n vs i f v).1.pl=true:=by
 unfold iX;split<;>exact⟨rfl,rfl⟩
def CZ (n:Nat)(vs:Nat->List aQ)(i:Nat)(f:aU):∀(l:List aQ) (h:Gs),(eE n vs i f l h).1.map CW.v=l/\(∀c∈(eE n vs i f l h).1,c.pl=true)/\h.i<=(eE n vs i f l h).2.i/\(eE n vs i f l h).2.i<=h.i+30*l.length
 |[],h=>⟨rfl,(fun _ hc=>by cases hc),by simp[eE],by simp[eE]⟩
 |v::r,h=>by
  have ih:=CZ n vs i f r (iX h n vs i f v).2;have h1:=G8 h n i vs f v;have h2:=G7 (h:=h) (n:=n) (i:=i) (vs:=vs) (f:=f) (v:=v);refine⟨by simp only[eE,List.map_cons,h1.1,ih.1], ?_,by simp only[eE];omega,by simp only[eE,aT];omega⟩;intro c hc;simp only[eE]at hc;rcases cM.1 hc with rfl|hc
  .exact h1.2
  .exact ih.2.1 c hc
def lY {cs:Nat->List CW}{i:Nat}{x:List CW}:cb cs i x i=x:=ay rfl
def B7 {cs:Nat->List CW}{i t:Nat}{x:List CW}(h:t≠i):cb cs i x t=cs t:=aj h
def VJ {cs:Nat->List CW}{i:Nat}:cb cs i (cs i)=cs:=by
 funext t;unfold cb;split
 .rename_i h;rw[h]
 .rfl
def vE {cs:Nat->List CW}{i:Nat}{x y:List CW}:cb (cb cs i x) i y=cb cs i y:=by
 funext t;unfold cb;split<;>rfl
def qe (vs:Nat->List aQ)(B:Nat->List CW):Prop:=∀t,(B t).map CW.v=vs t/\∀c∈B t,c.pl=true
def qe.O3 {vs:Nat->List aQ}{B:Nat->List CW}(h:qe vs B){i:Nat}{x:List CW}(hv:x.map CW.v=vs i)(hp:∀c∈x,c.pl=true):qe vs (cb B i x):=by
 intro t;unfold cb;split
 .rename_i e;subst e;exact⟨hv,hp⟩
 .exact h t
def qe.len {vs:Nat->List aQ}{B:Nat->List CW}(h:qe vs B):(fun j=>(B j).length)=fun j=>(vs j).length:=by
 funext j;rw[<-(h j).1,bc]
def qe.iE {vs:Nat->List aQ}{B:Nat->List CW}(h:qe vs B):iE B=vs:=by
 funext j;exact(h j).1
def LX {α:Type} [Inhabited α]{n l k i o:Nat}{ag:Bool}{q:α->D}{xs:List α}{m:List (Nat×bL)}{v:D}(hl:look m l=some (.buf k (xs.map q)))(hi:i<xs.length)(hv:me (q xs[i]!) k n o ag=v)(ho:o+n<=k):uN m n (.ptr l k i o)/\uc m n ag (.ptr l k i o)=v:=by
 refine⟨?_, ?_⟩
 .simp only[uN,eM,hl,bc];exact⟨⟨trivial,ah⟩,ho⟩
 .simp only[uc,bh,hl];rw[getD_map hi];exact hv
def VU (o:Nat)(us:List RU):List D:=(List.range us.length).map fun j=>.agg [.str us[j]!.name,.str us[j]!.feat,.own (o+j) 8 0 us[j]!.cs.length]
def VV (nx:Nat)(us:List RU):List (Nat×bL):=[(nx,.buf 3 (VU (nx+1) us)),(nx+1,.buf 8 (us[0]!.cs.map (CW.D 10))),(nx+2,.buf 8 (us[1]!.cs.map (CW.D 10))),(nx+3,.buf 8 (us[2]!.cs.map (CW.D 10))),(nx+4,.buf 8 (us[3]!.cs.map (CW.D 10))),
 (nx+5,.buf 8 (us[4]!.cs.map (CW.D 10))),(nx+6,.buf 8 (us[5]!.cs.map (CW.D 10))),(nx+7,.buf 8 (us[6]!.cs.map (CW.D 10))),(nx+8,.buf 8 (us[7]!.cs.map (CW.D 10)))]
def SY {lo o:Nat}{us:List RU}{ln:Nat->Nat}(σ:List (Nat×Nat))(h:∀j,j<us.length->gD lo σ (o+j)=some (2+j))(hl:∀j,us[j]!.cs.length=ln j):jm lo σ (VU o us)=some (UB us.length (fun j=>us[j]!.name) (fun j=>us[j]!.feat) ln):=by
 unfold VU UB;have h2:∀j∈List.range us.length,gD lo σ (o+j)=some (2+j):=fun j hj=>h j (List.mem_range.1 hj)
 revert h2;generalize List.range us.length=r;intro h2;induction r with
 |nil=>rfl
 |cons a r ih=>
  have:=h2 a (.head _);simp only[List.map_cons,jm,UD,kO,vC,this,hl a,ih fun j hj=>h2 j (.tail _ hj)]
def QM {lo v:Nat}{a b:Nat×Nat}{r:List (Nat×Nat)}(h:v<8)(ha:a.1<5)(hb:b.1<5):gD lo (a::b::(5,2)::(6,3)::(7,4)::(8,5)::(9,6)::(10,7)::(11,8)::(12,9)::r) (5+v)=some (2+v):=by
 simp only[gD,ik (show a.1≠5+v by omega),ik (show b.1≠5+v by omega),cond_false]
 match v,h with
 |0,_=>rfl
 |1,_=>rfl
 |2,_=>rfl
 |3,_=>rfl
 |4,_=>rfl
 |5,_=>rfl
 |6,_=>rfl
 |7,_=>rfl
def fA {lo v:Nat}{r:List (Nat×Nat)}(h:v<8):gD lo ((0,0)::(1,1)::(2,2)::(3,3)::(4,4)::(5,5)::(6,6)::(7,7)::(8,8)::(9,9)::r) (2+v)=some (2+v):=by
 simp only[gD,ik (show 0≠2+v by omega),cond_false];exact iO h
def mO {lo k i o l l':Nat}{σ:List (Nat×Nat)}(h:gD lo σ l=some l'):kO lo σ (.ptr l k i o)=some (.ptr l' k i o):=by simp only[kO,vC,h]
def xx {done rest:List CW}{x X:CW}{e e':Nat}{d:D}(hd:∀c∈done,c.pl=true)(hr:∀c∈rest,c.pl=true)(hX:X.D e'=d):((done++x::rest).map (CW.D e)).set done.length d=(done++X::rest).map (CW.D e'):=by
 rw[List.map_append,List.map_cons,vi (e:=e) (e':=e') hd,vi (e:=e) (e':=e') hr,List.set_append_right _ _ bg,bc,Nat.sub_self,List.set_cons_zero,<-hX,List.map_append,List.map_cons]
def tn {done rest:List CW}{x:CW}:(done++x::rest)[done.length]! =x:=by simp[List.getElem!_eq_getElem?_getD]
def po {done rest:List CW}{x:CW}{e:Nat}:((done++x::rest).map (CW.D e)).getD done.length .any=x.D e:=by
 rw[getD_map bg,tn]
def Bm {l k:Nat}{es:List D}{B:Nat->List CW}{i:Nat}{done rest:List CW}{x X:CW}(hB:∀t,t≠i->∀c∈B t,c.pl=true)(hd:∀c∈done,c.pl=true)(hr:∀c∈rest,c.pl=true)(hX:eS l k es (x.D l)=X.D 10)(t:Nat):
  fL l k es ((cb B i (done++x::rest) t).map (CW.D l))=(cb B i (done++X::rest) t).map (CW.D 10):=by
 have pl:∀xs:List CW,(∀c∈xs,c.pl=true)->fL l k es (xs.map (CW.D l))=xs.map (CW.D 10):=fun xs h=>by rw[jj _ _ _ _ (cz h),vi h]
 have app:∀a b:List D,fL l k es (a++b)=fL l k es a++fL l k es b:=fun a b=>by
  induction a with
  |nil=>rfl
  |cons x r ih=>simp only[fR,fL,ih]
 unfold cb;split
 .rw[List.map_append,List.map_cons,app,fL,pl _ hd,pl _ hr,hX,List.map_append,List.map_cons]
 .rename_i h;exact pl _ (hB t h)
def dy (m:List (Nat×bL))(L:Nat)(b:bL)(l:Nat):look (cR m L b) l=if l=L then some b else look m l:=by
 induction m with
 |nil=>by_cases h:l=L<;>simp[cR,look,h,eq_comm]<;>omega
 |cons a r ih=>
  obtain⟨k,x⟩:=a;by_cases h1:k=L<;>by_cases h2:l=L<;>by_cases h3:k=l<;>simp_all[cR,look]
def yF {e e0 i:Nat}{a b:bL}{B:Nat->List CW}{Yq:List CW}{r r':List (Nat×bL)}(hi:i<8)(hB:∀t,t≠i->∀c∈B t,c.pl=true)
  (hr:oJ (cR ((0,a)::(1,b)::(2,.buf 8 ((B 0).map (CW.D e0)))::(3,.buf 8 ((B 1).map (CW.D e0)))::(4,.buf 8 ((B 2).map (CW.D e0)))::(5,.buf 8 ((B 3).map (CW.D e0)))::(6,.buf 8 ((B 4).map (CW.D e0)))::(7,.buf 8 ((B 5).map (CW.D e0)))::(8,.buf 8 ((B 6).map (CW.D e0)))::(9,.buf 8 ((B 7).map (CW.D e0)))::r) (2+i) (.buf 8 (Yq.map (CW.D e)))) r'):
  oJ (cR ((0,a)::(1,b)::(2,.buf 8 ((B 0).map (CW.D e0)))::(3,.buf 8 ((B 1).map (CW.D e0)))::(4,.buf 8 ((B 2).map (CW.D e0)))::(5,.buf 8 ((B 3).map (CW.D e0)))::(6,.buf 8 ((B 4).map (CW.D e0)))::(7,.buf 8 ((B 5).map (CW.D e0)))::(8,.buf 8 ((B 6).map (CW.D e0)))::(9,.buf 8 ((B 7).map (CW.D e0)))::r) (2+i) (.buf 8 (Yq.map (CW.D e))))
   ((0,a)::(1,b)::(2,.buf 8 ((cb B i Yq 0).map (CW.D e)))::(3,.buf 8 ((cb B i Yq 1).map (CW.D e)))::(4,.buf 8 ((cb B i Yq 2).map (CW.D e)))::(5,.buf 8 ((cb B i Yq 3).map (CW.D e)))::(6,.buf 8 ((cb B i Yq 4).map (CW.D e)))::(7,.buf 8 ((cb B i Yq 5).map (CW.D e)))::(8,.buf 8 ((cb B i Yq 6).map (CW.D e)))::(9,.buf 8 ((cb B i Yq 7).map (CW.D e)))::r'):=by
 have ent:∀k,k<8->look (cR ((0,a)::(1,b)::(2,.buf 8 ((B 0).map (CW.D e0)))::(3,.buf 8 ((B 1).map (CW.D e0)))::(4,.buf 8 ((B 2).map (CW.D e0)))::(5,.buf 8 ((B 3).map (CW.D e0)))::(6,.buf 8 ((B 4).map (CW.D e0)))::(7,.buf 8 ((B 5).map (CW.D e0)))::(8,.buf 8 ((B 6).map (CW.D e0)))::(9,.buf 8 ((B 7).map (CW.D e0)))::r) (2+i) (.buf 8 (Yq.map (CW.D e)))) (2+k)=some (.buf 8 ((cb B i Yq k).map (CW.D e))):=by
  intro k hk;rw[dy];split
  .rename_i h;obtain rfl:k=i:=ah;rw[lY]
  .rename_i h;have hne:k≠i:=ah;rw[iL (fun t=>(B t).map (CW.D e0)) hk,B7 hne,vi (hB k hne)]
 refine .id ?_ (.id ?_ (.id (ent 0 bj) (.id (ent 1 bj) (.id (ent 2 bj) (.id (ent 3 bj) (.id (ent 4 bj) (.id (ent 5 bj) (.id (ent 6 bj) (.id (ent 7 bj) hr)))))))))
 .rw[dy,aj ah];rfl
 .rw[dy,aj ah];rfl
def NF.p:NF->List nE
 | .sl l=>l
 |_=>[]
def BF.p:BF->List Want
 | .sl l=>l
 |_=>[]
def CW.p (c:CW):dA:=⟨c.v,c.sh,c.n.p,c.b.p⟩
def Uc (us:List RU)(g:Gs):Nat->List CW:=lR us.length (fun t=>us[t]!.cs.map CW.v) (fun t=>us[t]!.feat) (us.length-1) 1 (aA g us.length (fun t=>us[t]!.cs.map CW.v) 3).2 (cb (fun t=>us[t]!.cs) 0 [⟨zV,-1,.sl (aA g us.length (fun t=>us[t]!.cs.map CW.v) 3).1,.nil⟩])
def j4 (ks:List Int)(few:Int):bZ:=⟨(List.range (ff ⟨ks,0⟩ few).1.length).map fun t=>⟨(ff ⟨ks,0⟩ few).1[t]!.name,(ff ⟨ks,0⟩ few).1[t]!.feat,(Uc (ff ⟨ks,0⟩ few).1 (ff ⟨ks,0⟩ few).2 t).map CW.p⟩⟩
def sK (vs:Nat->List aQ)(B:Nat->List CW):Prop:=∀t,(B t).map CW.v=vs t
def qe.v {vs:Nat->List aQ}{B:Nat->List CW}(h:qe vs B):sK vs B:=fun t=>(h t).1
def sK.len {vs:Nat->List aQ}{B:Nat->List CW}(h:sK vs B):(fun j=>(B j).length)=fun j=>(vs j).length:=by
 funext j;rw[<-h j,bc]
def sK.iE {vs:Nat->List aQ}{B:Nat->List CW}(h:sK vs B):iE B=vs:=by
 funext j;exact h j
def sK.O3 {vs:Nat->List aQ}{B:Nat->List CW}(h:sK vs B){i:Nat}{x:List CW}(hv:x.map CW.v=vs i):sK vs (cb B i x):=by
 intro t;unfold cb;split
 .rename_i e;subst e;exact hv
 .exact h t
def AJ (vs:Nat->List aQ):Prop:=∀t,(vs t).length<=4/\∀v∈vs t,v.sm
def sK.ok {vs:Nat->List aQ}{B:Nat->List CW}{n:Nat}(h:sK vs B)(hn:2<=n/\n<=8)(hv:AJ vs):Lr n B:=by
 refine⟨hn,fun t=>⟨?_,fun c hc=>?_⟩⟩
 .have:=(hv t).1;rw[<-h t,bc]at this;exact this
 .exact(hv t).2 _ (by rw[<-h t];exact List.mem_map_of_mem hc)
def xy {done:List CW}{r:List aQ}{v:aQ}{l:List aQ}{c:CW}(hd:done.map CW.v=l.take done.length)(hr:l.drop done.length=v::r)(hc:c.v=v):(done++c::r.map bn).map CW.v=l:=by
 have h2:(r.map bn).map CW.v=r:=by rw[List.map_map];exact List.map_id _
 rw[List.map_append,List.map_cons,hd,h2,hc,<-hr,List.take_append_drop]
def zI (n:Nat)(vs:Nat->List aQ):∀k g acc,(kW n vs k g acc).1.length=acc.length+k
 |0,g,acc=>by simp[kW]
 |k+1,g,acc=>by
  rw[kW];split<;>rw[zI n vs k]<;>simp<;>omega
def xD {g:Gs}{n:Nat}{vs:Nat->List aQ}{most:Int}(h0:0<=most)(h3:most<=3):(aA g n vs most).1.length<=3:=by
 have hv:=gL (JJ g.l g.i) (most+1) ah;have hv2:g.val (most+1)=gW (JJ g.l g.i) (most+1):=rfl;unfold aA;rw[zI];simp only[aX];omega
def uz {ks:List Int}{few:Int}{us:List RU}{g1:Gs}(h:ff ⟨ks,0⟩ few=(us,g1)):(2<=us.length/\us.length<=8)/\us[0]!.cs=[AF]/\(∀t:Nat,1<=t->us[t]!.cs=(us[t]!.cs.map CW.v).map bn)/\AJ (fun t=>us[t]!.cs.map CW.v)/\(∀t:Nat,∀c∈us[t]!.cs,c.pl=true)/\0<=g1.i/\g1.i<=51:=by
 obtain⟨more,e,hm,hl,h1,h2⟩:=As (g:=⟨ks,0⟩) (few:=few);rw[h]at e h1 h2;dsimp only at e h1 h2;subst e;have hc:∀t,1<=t->(Av++more)[t]!.cs=[]\/(Av++more)[t]!.raw:=by
  intro t ht;rcases dQ t (Av++more).length with h|h
  .right;have h5:(Av++more)[t]! =more[t-1]! :=by
    simp only[Av,bS,List.length_singleton]at h;simp[Av,List.getElem!_eq_getElem?_getD,List.getElem?_cons,show t≠0 by omega]
   rw[h5];exact hm _ (aq (by simp only[Av,bS,List.length_singleton]at h;omega))
  .left;rw[wZ h];rfl
 have h0:(Av++more)[0]!.cs=[AF]:=by simp[Av]
 refine⟨by simp only[Av,bS,List.length_singleton];omega,h0,fun t ht=>?_,fun t=>?_,fun t=>?_,ah,ah⟩
 .rcases hc t ht with e|⟨vs,e,_⟩
  .rw[e];rfl
  .rw[e,List.map_map,List.map_map];congr 1
 .rcases Nat.eq_zero_or_pos t with rfl|ht
  .simp only[h0,List.map_cons,List.map_nil,List.length_singleton];exact⟨ah,fun v hv=>by obtain rfl:=bJ.1 hv;exact yL⟩
  .rcases hc t ht with e|⟨vs,e,hl4,hsm⟩
   .simp only[e,List.map_nil,aX];exact⟨ah,fun v hv=>by cases hv⟩
   .have e2:(vs.map bn).map CW.v=vs:=by rw[List.map_map];exact List.map_id _
    simp only[e,e2];exact⟨hl4,hsm⟩
 .rcases Nat.eq_zero_or_pos t with rfl|ht
  .rw[h0];intro c hc';obtain rfl:=bJ.1 hc';rfl
  .rcases hc t ht with e|⟨vs,e,_⟩
   .rw[e];intro c hc';cases hc'
   .rw[e];exact fP vs
def Bn {done rest:List CW}{c:CW}(hd:∀c∈done,c.pl=true)(hc:c.pl=true)(hr:∀c∈rest,c.pl=true):∀x∈done++c::rest,x.pl=true:=fun x hx=>(List.mem_append.1 hx).elim (hd x) fun h=>(cM.1 h).elim (fun e=>by rw[e];exact hc) (hr x)
def Ov {α:Type}{l:List α}{k:Nat}{v:α}{r:List α}(h:l.drop k=v::r):l.take (k+1)=l.take k++[v]:=by
 have h2:(l.drop k)[0]? =some v:=by rw[h];rfl
 rw[List.getElem?_drop]at h2;rw[List.take_succ,show l[k]? =some v by simpa using h2];rfl
def nT {n i:Nat}{vs:Nat->List aQ}{f:aU}{cs B:Nat->List CW}{done:List CW}{v:aQ}{r:List aQ}{k h g':Gs}{c':CW}{F:List CW×Gs}(hvr:(vs i).drop done.length=v::r)(hB:B=cb cs i (done++((vs i).drop done.length).map bn))
  (hf:(done++(eE n vs i f (v::r) k).1,(eE n vs i f (v::r) k).2)=F) (hdv:done.map CW.v=(vs i).take done.length) (hdp:∀c∈done,c.pl=true) (hk:0<=k.i/\k.i<=h.i+30*(done.length:Nat)) (hce:iX k n vs i f v=(c',g')):
  (done.length+1<=(vs i).length/\(done++[c']).length=done.length+1)/\cb B i (done++c'::r.map bn)=cb cs i ((done++[c'])++((vs i).drop (done.length+1)).map bn)/\
    ((done++[c'])++(eE n vs i f ((vs i).drop (done.length+1)) g').1,(eE n vs i f ((vs i).drop (done.length+1)) g').2)=F/\((done++[c']).map CW.v=(vs i).take (done.length+1)/\∀c∈done++[c'],c.pl=true)/\(0<=g'.i/\g'.i<=h.i+30*((done.length+1:Nat):Int)):=by
 have hr1:(vs i).drop (done.length+1)=r:=by rw[<-List.drop_drop,hvr];rfl
 have h1:=G7 (h:=k) (n:=n) (vs:=vs) (i:=i) (f:=f) (v:=v);have h2:=G8 k n i vs f v;rw[hce]at h1 h2;dsimp only at h1 h2;have hl:done.length+1<=(vs i).length:=by
  have:=aC List.length hvr;simp only[pI,aT]at this;omega
 refine⟨⟨hl,bg⟩, ?_, ?_,⟨?_, ?_⟩,ah⟩
 .rw[hr1,hB,vE,eV];rfl
 .rw[hr1,<-hf];simp only[eE,hce,eV,List.singleton_append]
 .rw[List.map_append,hdv,Ov hvr,List.map_cons,List.map_nil,h2.1]
 .intro c hc;rcases List.mem_append.1 hc with hc|hc
  .exact hdp c hc
  .obtain rfl:=bJ.1 hc;exact h2.2
def FO {n i:Nat}{vs:Nat->List aQ}{ft:Nat->aU}{cs B:Nat->List CW}{done:List CW}{k h:Gs}(hi:i<n)(hle:(vs i).length<=done.length)(hB:B=cb cs i (done++((vs i).drop done.length).map bn))
  (hf:(done++(eE n vs i (ft i) ((vs i).drop done.length) k).1,(eE n vs i (ft i) ((vs i).drop done.length) k).2)=eE n vs i (ft i) (vs i) h):lR n vs ft (n-(i+1)) (i+1) k B=lR n vs ft (n-i) i h cs:=by
 obtain⟨r,hr⟩:∃r,n-i=r+1:=⟨n-i-1,ah⟩
 rw[hr,lR,<-hf,hB,kR hle];obtain rfl:r=n-(i+1):=ah;simp only[eE,List.map_nil,iH]
def SHW:List Sh:=[.sl 3 [.a,.a,.sl 8 [.a,.a,.a,.a,.a,.a,.sl 1 [.sl 3 [.a,.a]],.sl 3 [.a,.a,.a]]]]
def G9 {m:List (Nat×bL)}{c:CW}(h:c.pl=true):(match c.D 10 with
  | .agg ds=>.agg (xL m [.a,.a,.a,.a,.a,.a,.sl 1 [.sl 3 [.a,.a]],.sl 3 [.a,.a,.a]] ds)
  |e=>xH m [.a,.a,.a,.a,.a,.a,.sl 1 [.sl 3 [.a,.a]],.sl 3 [.a,.a,.a]] e)=c.p.D/\(match c.D 10 with
  | .agg ds=>GP m [.a,.a,.a,.a,.a,.a,.sl 1 [.sl 3 [.a,.a]],.sl 3 [.a,.a,.a]] ds
  |e=>Q3 m [.a,.a,.a,.a,.a,.a,.sl 1 [.sl 3 [.a,.a]],.sl 3 [.a,.a,.a]] e):=by
 obtain⟨v,sh,n,b⟩:=c;cases n<;>cases b<;>first|(simp[CW.pl,NF.pl,BF.pl]at h;done)|exact⟨rfl,rfl,rfl,rfl,rfl,rfl,rfl,rfl,rfl,rfl⟩
def K5 {m:List (Nat×bL)}{n:Nat}{nm ft:Nat->aU}{ln:Nat->Nat}{cs:Nat->List CW}(h1:look m 1=some (.buf 3 (UB n nm ft ln)))(hc:∀t,t<8->look m (2+t)=some (.buf 8 ((cs t).map (CW.D 10))))(hl:∀t,ln t=(cs t).length)(hp:∀t,∀c∈cs t,c.pl=true)(hn:n<=8):
  xV m SHW (.agg [.own 1 3 0 n])=bZ.D ⟨(List.range n).map fun t=>⟨nm t,ft t,(cs t).map CW.p⟩⟩/\OO m SHW (.agg [.own 1 3 0 n]):=by
 have hu:(UB n nm ft ln).take n=UB n nm ft ln:=gY (by simp[UB]);have hq:∀t,((cs t).map (CW.D 10)).take (ln t)=(cs t).map (CW.D 10):=fun t=>gY (by simp[hl])
 constructor
 .simp only[SHW,xV,xL,xC,bh,h1,bP,hu];simp only[bZ.D,UB,List.map_map];congr 2;congr 1;apply List.map_congr_left;intro j hj;have h2:=hc j (by have:=List.mem_range.1 hj;omega);simp only[Function.comp,UD,xL,xC,bh,h2,bP,hq,cQ.D,List.map_map];congr 4;refine aC (D.sl 8) ?_;apply List.map_congr_left;intro c hc2;exact(G9 (m:=m) (hp j c hc2)).1
 .simp only[SHW,OO,GP,OM,bh,eM,h1,bP,hu];refine⟨⟨⟨trivial,by simp[UB]⟩, ?_⟩,rfl⟩;intro e he;simp only[UB,fF,List.mem_range]at he;obtain⟨j,hj,rfl⟩:=he;have h2:=hc j ah;simp only[UD,GP,OM,bh,eM,h2,bP,hq];refine⟨rfl,rfl,⟨⟨trivial,by simp[hl]⟩, ?_⟩,rfl⟩;intro e he;obtain⟨c,hc2,rfl⟩:=fF.1 he;exact(G9 (m:=m) (hp j c hc2)).2
def K6 {ks:List Int}{few:Int}{us:List RU}{g1:Gs}{F:Nat->List CW}(h:ff ⟨ks,0⟩ few=(us,g1))(hF:Uc us g1=F):(⟨(List.range us.length).map fun t=>⟨us[t]!.name,us[t]!.feat,(F t).map CW.p⟩⟩:bZ)=j4 ks few:=by
 unfold j4;rw[h,<-hF]
def X0 (c:CW):Prop:=c.v.sm/\(∀r∈c.n.p,∀w∈r,w.sm)/\∀w∈c.b.p,w.sm
def yC {g:Gs}{n:Nat}{vs:Nat->List aQ}(hv:AJ vs):(c9 g n vs).sm:=(Vy (hv _).2 (hv _).1).1
def Di {n:Nat}{vs:Nat->List aQ}(hv:AJ vs):∀k g acc,(∀r∈acc,∀w∈r,w.sm)->∀r∈(kW n vs k g acc).1,∀w∈r,w.sm
 |0,g,acc,h=>h
 |k+1,g,acc,h=>by
  rw[kW];split<;>refine Di hv k _ _ ?_<;>intro r hr<;>rcases List.mem_append.1 hr with hr|hr
  .exact h r hr
  .obtain rfl:=bJ.1 hr;intro w hw;simp only[cM,dI,or_false]at hw;rcases hw with rfl|rfl<;>exact yC hv
  .exact h r hr
  .obtain rfl:=bJ.1 hr;intro w hw;obtain rfl:=bJ.1 hw;exact yC hv
def zJ {n:Nat}{vs:Nat->List aQ}(hv:AJ vs)(g:Gs)(most:Int):∀r∈(aA g n vs most).1,∀w∈r,w.sm:=Di hv _ _ _ (fun _ h=>by cases h)
def Eg {h:Gs}{n i:Nat}{vs:Nat->List aQ}{f:aU}{v:aQ}(hv:AJ vs)(hs:v.sm):∀r∈uu h n vs i f v,∀w∈r,w.sm:=by
 intro r hr;unfold uu at hr;rcases List.mem_append.1 hr with hr|hr
 .split at hr
  .cases hr
  .obtain rfl:=bJ.1 hr;intro w hw;obtain rfl:=bJ.1 hw;exact zr hs
 .exact zJ hv _ _ r hr
def LW {h:Gs}{n i:Nat}{vs:Nat->List aQ}{f:aU}{v:aQ}(hv:AJ vs)(hs:v.sm):X0 (iX h n vs i f v).1:=by
 unfold iX;split
 .exact⟨hs,Eg hv hs,fun w hw=>by obtain rfl:=bJ.1 hw;exact yC hv⟩
 .exact⟨hs,Eg hv hs,fun w hw=>by cases hw⟩
def zA {n i:Nat}{vs:Nat->List aQ}{f:aU}(hv:AJ vs):∀(l:List aQ) (h:Gs),(∀v∈l,v.sm)->∀c∈(eE n vs i f l h).1,X0 c
 |[],h,_,c,hc=>by cases hc
 |v::r,h,hl,c,hc=>by
  simp only[eE]at hc;rcases cM.1 hc with rfl|hc
  .exact LW hv (hl _ (.head _))
  .exact zA hv r _ (fun x hx=>hl x (.tail _ hx)) c hc
def zN {n:Nat}{vs:Nat->List aQ}{ft:Nat->aU}(hv:AJ vs):∀r i h cs,(∀t,((cs t).length<=4)/\∀c∈cs t,X0 c)->∀t,((lR n vs ft r i h cs t).length<=4)/\∀c∈lR n vs ft r i h cs t,X0 c
 |0,i,h,cs,hc=>hc
 |r+1,i,h,cs,hc=>by
  rw[lR];refine zN hv r _ _ _ fun t=>?_
  unfold cb;split
  .refine⟨?_,zA hv _ _ (hv i).2⟩;have:=aC List.length (CZ n vs i (ft i) (vs i) h).1;rw[bc]at this;rw[this];exact(hv i).1
  .exact hc t
def K3 (ks:List Int)(few:Int):(j4 ks few).sm/\(j4 ks few).us.length<=8:=by
 obtain⟨us,g1,h⟩:∃us g1,ff ⟨ks,0⟩ few=(us,g1):=⟨_,_,rfl⟩
 obtain⟨h8,h0,hraw,hv,hp,_⟩:=uz h;have hb:∀t:Nat,(us[t]!.cs.length<=4)/\∀c∈us[t]!.cs,X0 c:=by
  intro t;have h4:=(hv t).1;rw[bc]at h4;refine⟨h4,fun c hc=>?_⟩;have hvs:c.v.sm:=(hv t).2 _ (List.mem_map_of_mem hc);rcases Nat.eq_zero_or_pos t with rfl|ht
  .rw[h0]at hc;obtain rfl:=bJ.1 hc;exact⟨hvs,(fun _ h=>by cases h),(fun _ h=>by cases h)⟩
  .rw[hraw t ht]at hc;obtain⟨v,_,rfl⟩:=fF.1 hc;exact⟨hvs,(fun _ h=>by cases h),(fun _ h=>by cases h)⟩
 have hf:=zN (n:=us.length) (ft:=fun t=>us[t]!.feat) hv (us.length-1) 1 (aA g1 us.length (fun t=>us[t]!.cs.map CW.v) 3).2 (cb (fun t=>us[t]!.cs) 0 [⟨zV,-1,.sl (aA g1 us.length (fun t=>us[t]!.cs.map CW.v) 3).1,.nil⟩]) (by
  intro t;unfold cb;split
  .refine⟨bg,fun c hc=>?_⟩;obtain rfl:=bJ.1 hc;exact⟨yL,zJ hv _ _,fun _ h=>by cases h⟩
  .exact hb t)
 unfold j4;rw[h];refine⟨?_,by simp only[bc,List.length_range];exact h8.2⟩;intro u hu;obtain⟨t,_,rfl⟩:=fF.1 hu;have:=hf t;refine⟨by dsimp only[Uc];rw[List.length_map];exact Nat.le_trans this.1 bj,fun c hc=>?_⟩;obtain⟨x,hx,rfl⟩:=fF.1 hc;exact this.2 x hx
def bZ.fz (l k:Nat)(es:List Abs.D)(w:bZ):eS l k es w.D=w.D:=kL l k es _ rfl
def yO.eq (a b:yO):iw (yO.D a).cells (yO.D b).cells=decide (a=b):=by
 cases a;cases b
 grind [yO.D,D.cells,iw,vt]
structure Prv where
 w:bZ
 facts:List iR
 x:D
def Prv.D (p:Prv):Abs.D:=.agg [.sl 3 (p.w.us.map cQ.D),.sl 5 (p.facts.map iR.D),p.x]
def bt (m:Int)(i:Nat):Bool:=(BitVec.ofInt 64 m).getLsbD i
abbrev S16 (us:List cQ):Prop:=∀x∈us,x.cands.length<=16
def SG (us:List cQ)(allow:List Int)(r:iR):Prop:=Et us r.terms=true/\(r.a=0/\r.b=0)/\(0<=r.unit/\r.unit<us.length)/\
 (r.kind=1/\r.unit=0/\kV us r.terms 0=1\/(r.kind=2\/r.kind=3)/\Hb us r (decide (r.kind=3))=true\/r.kind=4/\r.unit<allow.length/\PI (kV us r.terms r.unit) allow[r.unit.toNat]! =0)
section
abbrev Wc (us:List cQ)(allow:List Int)(rows:List iR):Prop:=∀x∈rows,SG us allow x
section
variable {us:List cQ} {allow:List Int}
end
end
def COK (us:List cQ)(c:List Int):Prop:=c.length<=us.length/\∀u,u<c.length->-1<=c[u]! /\c[u]! <us[u]!.cands.length
def vb (c:List Int)(u:Nat):Nat:=(c[u]! +1).toNat
def LF (w:bZ)(allow:List Int)(rows:List iR):Prop:=∀i,i<rows.length->Ut ⟨w,allow,rows⟩ ((i:Nat):Int)=true
def Near (us:List cQ)(c:List Int)(k:Nat)(l:List yO):Prop:=Et us l=true/\(∀t∈l,t.u<c.length+1)/\(∀u,u<c.length->bt (kV us l ((u:Nat):Int)) (vb c u)=true)/\∀j,j<k->bt (kV us l ((c.length:Nat):Int)) j=true
def COK.app {us:List cQ}{c:List Int}{i:Int}(h:COK us c)(hl:c.length<us.length)(h1:-1<=i)(h2:i<us[c.length]!.cands.length):COK us (c++[i]):=by
 refine⟨dH,fun u hu=>?_⟩;rw[bS,List.length_singleton]at hu;rcases dQ u c.length with h3|h3
 .rw[List.getElem!_eq_getElem?_getD,List.getElem?_append_left h3,<-List.getElem!_eq_getElem?_getD];exact h.2 u h3
 .obtain rfl:u=c.length:=ah;simp only[List.getElem!_eq_getElem?_getD,List.getElem?_concat_length,Option.getD_some]at*
  exact⟨h1,h2⟩
section
def subsV:List (List aQ):=(List.range 16).map fun m=>bN ((m:Nat):Int) 4
set_option maxRecDepth 10000
def RU.ok (u:RU):Prop:=u.name≠[]/\∃vs,vs∈subsV/\u.cs=vs.map bn
def SInv (w:bZ)(al c:List Int)(k:Nat)(now:Int)(R:List iR):Prop:=LF w al R/\(k=0/\now=-1\/0<k/\(0<=now/\now<R.length)/\Near w.us c k R[now.toNat]!.terms)/\R.length<=5100+2*k
def SV (w:bZ)(al:List Int)(facts:List iR)(c:List Int)(rows:List iR):Prop:=((w.sm/\S16 w.us/\w.us.length<=48)/\Wc w.us al facts)/\(COK w.us c/\LF w al rows)/\rows.length<=100000
def SV.app {w:bZ}{al:List Int}{facts:List iR}{c:List Int}{rows R:List iR}{k:Nat}(h:SV w al facts c rows)(hl:c.length<w.us.length)(hk:k<w.us[c.length]!.cands.length+1){now:Int}(hI:SInv w al c k now R):SV w al facts (c++[((k:Nat):Int) -1]) R:=by
 have h16:=h.1.1.2.1 _ (aq hl);exact⟨h.1,⟨h.2.1.1.app hl ah ah,hI.1⟩,by have:=hI.2.2;omega⟩
def RM (r:iR):iR:=⟨r.kind,r.unit,r.b,r.a,r.terms⟩
def LH (L R:List iR):Prop:=R.length=L.length/\∀k,k<L.length->R[k]! =L[k]! \/(L[k]!.kind=5/\R[k]! =RM L[k]!)
def Og {xs:List iR}{i u:Nat}{v:iR}(hu:u<xs.length):(xs.set i v)[u]! =if i=u then v else xs[u]! :=by
 simp only[List.getElem!_eq_getElem?_getD,List.getElem?_set];split
 .rename_i h;subst h;rw[ay hu];rfl
 .rfl
def LH.step {L R:List iR}{i:Nat}(h:LH L R)(hi:i<L.length)(hk:R[i]!.kind=5):LH L (R.set i (RM R[i]!)):=by
 refine⟨by rw[List.length_set];exact h.1,fun k hk2=>?_⟩;rw[Og (by rw[h.1];exact hk2)];split
 .rename_i e;subst e;rcases h.2 i hi with h1|⟨h1,h2⟩
  .exact .inr ⟨by rw[<-h1];exact hk,by rw[h1]⟩
  .exact .inl (by rw[h2];rfl)
 .exact h.2 k hk2
end
structure Msk where
 full:List Int
 needs:List (List (List (List yO)))
 bars:List (List (List yO))
 deriving Inhabited
def trD (l:List yO):D:=.sl 2 (l.map yO.D)
def trsD (l:List (List yO)):D:=.sl 1 (l.map trD)
def trssD (l:List (List (List yO))):D:=.sl 1 (l.map trsD)
def Msk.D (m:Msk):D:=.agg [.sl 1 (m.full.map (D.int .i64)),.sl 1 (m.needs.map trssD),.sl 1 (m.bars.map trsD)]
def VM {w:bZ}(h:jo w=true){u k:Nat}(hu:u<w.us.length)(hk:k<w.us[u]!.cands.length):(∀r∈w.us[u]!.cands[k]!.needs,∀x∈r,0<=x.u/\x.u<w.us.length)/\∀x∈w.us[u]!.cands[k]!.bars,0<=x.u/\x.u<w.us.length:=by
 unfold jo at h;rw[br,dL]at h;have h3:=h.2 u ah hu;unfold lX at h3;rw[br,dL]at h3;have h4:=h3.2 k ah hk;unfold oV at h4;simp only[br]at h4;have h5:=h4.1.2;unfold mh at h5;simp only[br,bU]at h5;have hw:∀(l:List Want),oc (w.us.length:Int) l=true->∀x∈l,0<=x.u/\x.u<w.us.length:=by
  intro l hl x hx;unfold oc at hl;rw[dL]at hl;obtain⟨j,hj,rfl⟩:=List.mem_iff_getElem.1 hx;have:=hl j ah hj;unfold pF at this;simp only[hj,getElem!_pos,br,bU]at this;omega
 refine⟨fun r hr=>?_,hw _ h5.2⟩;have h6:=h5.1.2;rw[dL]at h6;obtain⟨j,hj,rfl⟩:=List.mem_iff_getElem.1 hr;have:=h6 j ah hj;unfold oz at this;simp only[hj,getElem!_pos,br]at this;exact hw _ this.1
def m5 {α:Type} [Inhabited α]{f:α->Bool}:∀{l:List α}{k:Nat},(ju f l k=-1/\∀q,q<l.length->f l[q]! =false)\/∃j:Nat,ju f l k=((k+j:Nat):Int)/\j<l.length/\f l[j]! =true/\∀q,q<j->f l[q]! =false
 |[],k=>.inl ⟨rfl,fun q h=>absurd h (Nat.not_lt_zero q)⟩
 |x::r,k=>by
  rw[ju];split
  .rename_i h;exact .inr ⟨0,rfl,bg,by simpa using h,fun q h=>absurd h (Nat.not_lt_zero q)⟩
  .rename_i h;have hx:f x=false:=by simpa using h
   rcases m5 (f:=f) (l:=r) (k:=k+1)with⟨h1,h2⟩|⟨j,h1,h2,h3,h4⟩
   .refine .inl ⟨h1,fun q hq=>?_⟩;cases q with
    |zero=>simpa using hx
    |succ q=>simpa using h2 q (by simpa using hq)
   .refine .inr ⟨j+1,by rw[h1];omega,by simpa using h2,by simpa using h3,fun q hq=>?_⟩;cases q with
    |zero=>simpa using hx
    |succ q=>simpa using h4 q ah
def P9 {α:Type} [Inhabited α]{f:α->Bool}{l:List α}{i:Nat}(h:i<l.length)(hf:f l[i]! =true):0<=ju f l 0/\ju f l 0<=i:=by
 rcases m5 (f:=f) (l:=l) (k:=0)with⟨h1,h2⟩|⟨j,h1,h2,h3,h4⟩
 .rw[h2 i h]at hf;cases hf
 .have:¬i<j:=fun hj=>by rw[h4 i hj]at hf;cases hf
  omega
def xf (nm:aU)(s:cC):Bool:=decide (s.name=nm)
def tG (l:List cC)(nm:aU):Int:=ju (xf nm) l 0
def y7 (l:List cC)(i:Nat):Bool:=jn l[i]! &&decide (tG l l[i]!.name=(i:Nat))
def nt (l:List cC):Bool:=decide (l.length<=4)&&cF (y7 l) 0 l.length
def iC (l:List cC):Prop:=∀s∈l,∀x∈s.es,eC x.r
def QW {l:List cC}{i:Nat}(h:i<l.length):0<=tG l l[i]!.name/\tG l l[i]!.name<=i:=P9 h (by simp[xf])
def QV {l:List cC}{i:Nat}(h:jn l[i]! =false\/¬tG l l[i]!.name=(i:Nat)):y7 l i=false:=by
 grind [y7]
def Ot {l:List cC}{i:Nat}(h:jn l[i]! =false\/tG l l[i]!.name<(i:Nat)):y7 l i=false:=by
 grind [y7]
def Eo {l:List cC}{i:Nat}(h:jn l[i]! =true/\tG l l[i]!.name=(i:Nat)):y7 l i=true:=by
 grind [y7]
def KV {l:List cC}{i:Nat}(hi:i<l.length)(h:jn l[i]! =true/\¬tG l l[i]!.name<(i:Nat)):y7 l i=true:=by
 have:=QW hi;exact Eo ⟨h.1,ah⟩
def cC.fz (l k:Nat)(es:List Abs.D)(c:cC):eS l k es c.D=c.D:=kL l k es _ (by simp only[cC.D,D.aZ,aR,fh])
def ix (s:cC)(nm:aU)(v:aQ):Int:=if jn s=false then-1 else ow s.es nm v 0
def lj (a b:aU)(u:cQ):Bool:=decide (u.name=a)&&decide (u.feat=b)
def gw (us:List cQ)(a b:aU):Int:=ju (lj a b) (us.drop 1) 1
def EU (v:aQ)(whole:Bool)(c:dA):Bool:=bif whole then decide (c.v=v)else decide (ki c.v v=0)
def kE (us:List cQ)(u:Int)(v:aQ)(whole:Bool):Int:=if u<0 then-1 else ju (EU v whole) us[u.toNat]!.cands 0
def kQ (shop:List cC)(c:dA)(x:cU):Int:=
 if c.sh=-1 then(if x.shelf≠[]then 12 else if x.sum≠0 then 13 else 0)
 else if c.sh<0\/(shop.length:Int)<=c.sh\/shop[c.sh.toNat]!.name≠x.shelf then 12
 else if ix shop[c.sh.toNat]! x.name x.v<0\/shop[c.sh.toNat]!.es[(ix shop[c.sh.toNat]! x.name x.v).toNat]!.sum≠x.sum then 13 else 0
def rY (us:List cQ)(x:cU):List aU->List Int->Int×List Int
 |[],c=>(0,c)
 |f::r,c=>if kE us (gw us x.name f) x.v false<0 then(11,c)else rY us x r (c.set (gw us x.name f).toNat (kE us (gw us x.name f) x.v false))
def jG (shop:List cC)(us:List cQ)(x:cU)(c:List Int):Int×List Int:=
 if kE us (gw us x.name []) x.v true<0 then(9,c)
 else if kQ shop us[(gw us x.name []).toNat]!.cands[(kE us (gw us x.name []) x.v true).toNat]! x≠0 then(kQ shop us[(gw us x.name []).toNat]!.cands[(kE us (gw us x.name []) x.v true).toNat]! x,c)
 else rY us x x.feats (c.set (gw us x.name []).toNat (kE us (gw us x.name []) x.v true))
def tf (shop:List cC)(us:List cQ):List cU->List Int->List Int×Int×aU
 |[],c=>(c,0,[])
 |x::r,c=>if(jG shop us x c).1≠0 then([],(jG shop us x c).1,x.name)else tf shop us r (jG shop us x c).2
structure qp where
 kind:Int
 unit:Int
 at':Int
 deriving Inhabited,DecidableEq
def qp.D (f:qp):D:=.agg [.int .i64 f.kind,.int .i64 f.unit,.int .i64 f.at']
def AX (w:bZ)(c:List Int)(i:Nat):Bool:=decide (-1<=c[i]!)&&decide (c[i]! <(w.us[i]!.cands.length:Int))
def sY (w:bZ)(c:List Int):Bool:=decide (c.length=w.us.length)&&cF (AX w c) 0 c.length
def nY (w:bZ)(c:List Int):Bool:=jo w&&sY w c
def tm (w:bZ)(c:List Int)(x:Want):Bool:=decide (0<=c[x.u.toNat]!)&&pd x.s w.us[x.u.toNat]!.cands[c[x.u.toNat]!.toNat]!.v
def yr (w:bZ)(c:List Int)(l:nE):Bool:=l.any (tm w c)
section
def pW {w:bZ}{c:List Int}(h:sY w c=true):c.length=w.us.length/\∀i,i<c.length->-1<=c[i]! /\c[i]! <(w.us[i]!.cands.length:Int):=by
 simp only[sY,br,bU,dL,AX]at h;exact⟨h.1,fun i hi=>h.2 i (Nat.zero_le _) hi⟩
def Qi {w:bZ}{c:List Int}(h:¬(c.length:Int)=(w.us.length:Int)\/jo w=false):nY w c=false:=by
 unfold nY sY;rcases h with h|h
 .rw[dx ah];simp
 .rw[h];rfl
def Hm {w:bZ}{c:List Int}{i:Nat}(h:c[i]! < -1\/(w.us[i]!.cands.length:Int)<=c[i]!):AX w c i=false:=by
 unfold AX;rcases h with h|h
 .rw[dx ah];rfl
 .rw[dx (p:=c[i]! <_) ah];simp
def CL {w:bZ}{c:List Int}{i:Nat}(h:¬c[i]! < -1/\¬(w.us[i]!.cands.length:Int)<=c[i]!):AX w c i=true:=by
 unfold AX;rw[cX ah,cX ah];rfl
def Cm (w:bZ)(c:List Int)(x:Want):Prop:=(w.sm/\x.sm)/\(0<=x.u/\x.u<(w.us.length:Int))/\sY w c=true
def fu (w:bZ)(c:List Int)(u:Nat)(l:List nE)(n:Nat):List qp:=(List.range n).flatMap fun k=>if yr w c l[k]! =true then []else [⟨2,(u:Nat),(k:Nat)⟩]
def jB (w:bZ)(c:List Int)(u:Nat)(l:List Want)(n:Nat):List qp:=(List.range n).flatMap fun k=>if tm w c l[k]! =true then [⟨3,(u:Nat),(k:Nat)⟩]else []
def bV (w:bZ)(c:List Int)(u:Nat):dA:=w.us[u]!.cands[c[u]!.toNat]!
def xK (w:bZ)(c:List Int)(u:Nat):List qp:=fu w c u (bV w c u).needs (bV w c u).needs.length++jB w c u (bV w c u).bars (bV w c u).bars.length
def fN (w:bZ)(c:List Int)(n:Nat):List qp:=(List.range n).flatMap fun u=>if c[u]! <0 then []else xK w c u
def jL (w:bZ)(c:List Int):List qp:=if nY w c=false then []else fN w c c.length
section
variable {w:bZ} {c:List Int} {u n:Nat} {l:List nE} {b:List Want}
def FL (h:yr w c l[n]! =true):fu w c u l (n+1)=fu w c u l n:=by simp only[fu,List.range_succ,List.flatMap_append,List.flatMap_cons,List.flatMap_nil,h];simp
def FK (h:yr w c l[n]! =false):fu w c u l (n+1)=fu w c u l n++[⟨2,(u:Nat),(n:Nat)⟩]:=by simp only[fu,List.range_succ,List.flatMap_append,List.flatMap_cons,List.flatMap_nil,h];simp
def E5 (h:tm w c b[n]! =true):jB w c u b (n+1)=jB w c u b n++[⟨3,(u:Nat),(n:Nat)⟩]:=by simp only[jB,List.range_succ,List.flatMap_append,List.flatMap_cons,List.flatMap_nil,h];simp
def E4 (h:tm w c b[n]! =false):jB w c u b (n+1)=jB w c u b n:=by simp only[jB,List.range_succ,List.flatMap_append,List.flatMap_cons,List.flatMap_nil,h];simp
def nb:∀n,(fu w c u l n).length<=n
 |0=>aM _
 |n+1=>by
  have:=nb n;cases h:yr w c l[n]!
  .rw[FK h];simp;omega
  .rw[FL h];omega
def rB:∀n,(jB w c u b n).length<=n
 |0=>aM _
 |n+1=>by
  have:=rB n;cases h:tm w c b[n]!
  .rw[E4 h];omega
  .rw[E5 h];simp;omega
def GO (h:0<=c[n]!):fN w c (n+1)=fN w c n++xK w c n:=by
 simp only[fN,List.range_succ,List.flatMap_append,List.flatMap_cons,List.flatMap_nil,aj (show ¬c[n]! <0 by omega),iH]
def GN (h:c[n]! <0):fN w c (n+1)=fN w c n:=by simp only[fN,List.range_succ,List.flatMap_append,List.flatMap_cons,List.flatMap_nil,ay h,iH]
def OL (h:0<=c[n]!):(fN w c n++fu w c n (bV w c n).needs (bV w c n).needs.length)++jB w c n (bV w c n).bars (bV w c n).bars.length=fN w c (n+1):=by
 rw[GO h,xK,eV]
end
def LD (w:bZ)(c:List Int)(u:Nat):Prop:=(w.sm/\jo w=true)/\sY w c=true/\u<c.length/\0<=c[u]!
def Bv {w:bZ}{c:List Int}{u:Nat}(h:LD w c u):(c[u]!.toNat<w.us[u]!.cands.length/\c[u]! =((c[u]!.toNat:Nat):Int))/\((bV w c u).needs.length<=24/\(bV w c u).bars.length<=24)/\(∀r∈(bV w c u).needs,∀x∈r,Cm w c x)/\∀x∈(bV w c u).bars,Cm w c x:=by
 obtain⟨⟨h1,h2⟩,h3,h4,h5⟩:=h;obtain⟨h6,h7⟩:=pW h3;have h8:=h7 u h4;have hu:u<w.us.length:=ah;have hk:c[u]!.toNat<w.us[u]!.cands.length:=ah;have hin:=VM h2 hu hk;have hs:=(h1 _ (aq hu)).2 _ (aq hk);have hl:(bV w c u).needs.length<=24/\(bV w c u).bars.length<=24:=by
  simp only[jo,br,dL,lX,oV,mh,bU]at h2;have:=(h2.2 u (Nat.zero_le _) hu).2 _ (Nat.zero_le _) hk;exact⟨this.1.2.1.1.1,this.1.2.1.1.2⟩
 exact⟨⟨hk,ah⟩,hl,fun r hr x hx=>⟨⟨h1,hs.2.1 r hr x hx⟩,hin.1 r hr x hx,h3⟩,fun x hx=>⟨⟨h1,hs.2.2 x hx⟩,hin.2 x hx,h3⟩⟩
def Dm {w:bZ}{c:List Int}{u:Nat}(h:LD w c u):(xK w c u).length<=48:=by
 obtain⟨_,⟨h1,h2⟩,_⟩:=Bv h;have h3:=nb (w:=w) (c:=c) (u:=u) (l:=(bV w c u).needs) (bV w c u).needs.length;have h4:=rB (w:=w) (c:=c) (u:=u) (b:=(bV w c u).bars) (bV w c u).bars.length;simp only[xK,bS];omega
def yI {w:bZ}{c:List Int}(hm:w.sm)(h:nY w c=true):∀n,n<=c.length->(fN w c n).length<=n*48
 |0,_=>Nat.zero_le _
 |n+1,hn=>by
  have h1:=yI hm h n ah;simp only[nY,br]at h;by_cases hc:c[n]! <0
  .rw[GN hc];omega
  .have:=Dm (w:=w) (c:=c) (u:=n) ⟨⟨hm,h.1⟩,h.2,ah,ah⟩;rw[GO ah,bS];omega
def Ep {w:bZ}{c:List Int}{l:nE}:yr w c l=qC (fun i=>tm w c l[i]!) 0 l.length:=by
 rw[Bool.eq_iff_iff,yr,List.any_eq_true,LL];constructor
 .rintro⟨x,hx,h⟩;obtain⟨i,hi,rfl⟩:=List.mem_iff_getElem.1 hx;exact⟨i,Nat.zero_le _,hi,by simpa[hi]using h⟩
 .rintro⟨i,_,hi,h⟩;exact⟨_,aq hi,h⟩
def E0 (w:bZ)(c:List Int):Prop:=w.sm/\0<=c[0]!
def Hx {w:bZ}{c:List Int}{u:Nat}(hw:E0 w c)(h:nY w c=true)(hu:u<c.length)(h0:0<=c[u]!):LD w c u:=by
 simp only[nY,br]at h;exact⟨⟨hw.1,h.1⟩,h.2,hu,h0⟩
def MW {w:bZ}{c:List Int}(h:nY w c=true):1<=c.length/\c.length<=48:=by
 simp only[nY,br]at h;have h1:=pW h.2;simp only[jo,br,bU]at h;omega
end
end Go.Abs
