/- A part of the proofs of the statements: AbsZ, LAsmG, LAsmR, RData, LPlain1, LPlain2, LPlain3, RSpec1, RSpec2, RSpec3, RSpec4, RSpec5, RSpec6, RPrs, RSpec7, RSpec8, RSpec9, RSpec10, RSpec11, RSpec12, RSpec13, RBldC, RSpec14. -/
import Derived.Test.YtpdlhpamcaocgaaGreatDoorP04
set_option linter.all false
set_option maxRecDepth 4000
section
namespace Go.Abs
variable [bS]
section
variable {P:Program} {ν:List (Nat×Nat)} {bA:List Nat} {Γ:Ctx}
def RD.re {x x':X}{σ:List (Nat×Nat)}(hw:x'.w=x.w)(hI:x'.I=x.I)(hβ:∀l l',j3 0 σ l=some l'→x'.β l'=x.β l){v:Value}{d d':D}(hv:RD ν x v d)(hd:FL 0 σ d d'):RD ν x' v d':=by
 rcases hd with⟨rfl,hn⟩|hd|hd
 ·exact hv.aI hn (fun _ h=>by rw[hI];exact h) (fun _ _=>by rw[hw])
 ·exact RD.rn (x:=x) (x':=x') hw hI hβ hv _ hd
 ·exact RD.nl (x:=x) (x':=x') hw hI hv _ hd
def jT.re {x x':X}{σ:List (Nat×Nat)}(hw:x'.w=x.w)(hI:x'.I=x.I)(hβ:∀l l',j3 0 σ l=some l'→x'.β l'=x.β l){b base tot:Nat}{b0 blk:aV}(o2:jT ν x b base tot b0)(q3:nB 0 σ b0 blk):jT ν x' b base tot blk:=by
 cases b0 with
 |iter s p=>
  cases blk with
  |iter s' p'=>simp only[nB]at q3;obtain⟨rfl,rfl⟩:=q3;simp only[jT,hw]at o2⊢;exact o2
  |_=>simp[nB]at q3
 |row s=>
  cases blk with
  |row s'=>simp only[nB]at q3;subst q3;simp only[jT,hw]at o2⊢;exact o2
  |_=>simp[nB]at q3
 |bld o n u=>
  cases blk with
  |bld o' n' u'=>
   simp only[nB]at q3;obtain⟨q3,rfl,rfl⟩:=q3;obtain⟨p1,v,p2,p3⟩:=o2;refine⟨p1,v,by rw[hw];exact p2, ?_⟩;cases o with
   |none=>simp only at q3;subst q3;exact p3
   |some l0=>
    obtain⟨l1,q4,rfl⟩:=q3;obtain⟨g,t,p4,p5,p6⟩:=p3;exact⟨g,t,p4,p5,by rw[hβ l0 l1 q4];exact p6⟩
  |_=>simp[nB]at q3
 |buf k es=>
  cases blk with
  |iter s' p'=>simp[nB]at q3
  |row s'=>simp[nB]at q3
  |bld o' n' u'=>simp[nB]at q3
  |buf k' es'=>
   simp only[nB]at q3;obtain⟨rfl,q3⟩:=q3;obtain⟨p1,p2,cc,T,fr,p3,p4,p5,p6⟩:=o2;rw[←hw]at p3;rcases q3 with⟨rfl,hn⟩|q3|q3
   ·exact⟨p1,p2,cc,T,fr,p3,p4,p5,fun i hi=>⟨(p6 i hi).1,fun j hj=>⟨((p6 i hi).2 j hj).1,RD.re hw hI hβ ((p6 i hi).2 j hj).2 (.inl ⟨rfl,gN (bQ hn i) j⟩)⟩⟩⟩
   ·obtain⟨r1,r2⟩:=im q3;refine⟨p1,by omega,cc,T,fr,p3,p4,p5,fun i hi=>?_⟩;have hi':i<es.length:=by omega
    obtain⟨s1,s2⟩:=va (r2 i hi');exact⟨s1.trans (p6 i hi').1,fun j hj=>⟨((p6 i hi').2 j hj).1,RD.re hw hI hβ ((p6 i hi').2 j hj).2 (.inr (.inl (s2 j (by rw[(p6 i hi').1];exact hj))))⟩⟩
   ·obtain⟨r1,r2⟩:=lM q3;refine⟨p1,by omega,cc,T,fr,p3,p4,p5,fun i hi=>?_⟩;have hi':i<es.length:=by omega
    obtain⟨s1,s2⟩:=um (r2 i hi');exact⟨s1.trans (p6 i hi').1,fun j hj=>⟨((p6 i hi').2 j hj).1,RD.re hw hI hβ ((p6 i hi').2 j hj).2 (.inr (.inr (s2 j (by rw[(p6 i hi').1];exact hj))))⟩⟩
def Bk {lo c:Nat}{σ:List (Nat×Nat)}{l l':Nat}(h0:eD 0 c σ=true)(h:j3 0 σ l=some l'):l'<c∧(l,l')∈σ:=by
 obtain⟨h1,h2⟩:=pj h0 h;rcases h2 with⟨h2,_⟩|⟨_,h2⟩
 ·omega
 ·exact⟨h1,h2⟩
def pc {c:Nat}:∀{σ:List (Nat×Nat)}{a b:Nat},eD 0 c σ=true→(a,b)∈σ→j3 0 σ a=some b
 |[],a,b,_,h=>by cases h
 |(a0,b0)::r,a,b,h0,h=>by
  unfold j3;simp only[eD,Bool.and_eq_true,List.all_eq_true,Bool.not_eq_true']at h0;obtain⟨_,_,p4,p5⟩:=h0;rcases List.mem_cons.1 h with h|h
  ·simp only[Prod.mk.injEq]at h;obtain⟨rfl,rfl⟩:=h;simp
  ·have:=(p4 _ h).1;simp only at this;have hne:Nat.beq a0 a=false:=by
    cases hb:Nat.beq a0 a with
    |false=>rfl
    |true=>obtain rfl:=Nat.eq_of_beq_eq_true hb;simp at this
   rw[hne];exact pc p5 h
structure Fr (σi σo:List (Nat×Nat))(q q1:Nat)(m0 m1:List (Nat×aV))(st st':St):Prop where
 oki:eD 0 q σi=true
 oko:eD 0 st'.nx σo=true
 nx:st.nx≤st'.nx
 lt:∀l i,(l,i)∈σi→look st.m l≠none
 io:∀i l,(i,l)∈σo→(l,i)∈σi∨st.nx≤l
 m0:∀i b,look m0 i=some b→∃l b',(l,i)∈σi∧look st.m l=some b'∧nB 0 σi b' b
 m1:∀l b,look st'.m l=some b→(∃i b1,(i,l)∈σo∧look m1 i=some b1∧nB 0 σo b1 b)∨(jo σo l=none∧(∀i,(l,i)∉σi)∧look st.m l=some b)
def Gt {fid:Nat}{fn:Func}{af:aB}{K:D→St→Prop}(hΓ:Ok P ν bA Γ)(hmix:P.follows .mixedOrders=true)(hf:P.funcs[fid]? =some fn)(hc:compile P ν bA fn=some af)
  {x:X} {args:Array Value} {ds cs:List D} {st:St} {σi:List (Nat×Nat)} {q:Nat} {m0:List (Nat×aV)} (hl:args.size=ds.length) (hargs:∀i,i<ds.length→RD ν x (args.getD i undef) (ds.getD i .any))
  (hs:dn ν x (look st.m)) (hfr:di st x) (hlen:cs.length=ds.length) (hds:∀i,i<ds.length→FL 0 σi (ds.getD i .any) (cs.getD i .any)) (hnp:cs.length=af.np)
  (oki:eD 0 q σi=true) (hlt:∀l i,(l,i)∈σi→look st.m l≠none) (hm0:∀i b,look m0 i=some b→∃l b',(l,i)∈σi∧look st.m l=some b'∧nB 0 σi b' b)
  (hw:bx (Γ.at q) af.body (fun e env st1=>e.home∧lG st1.m env af.res∧∃(σo:List (Nat×Nat)) (q1:Nat) (m1:List (Nat×aV)) (st':St) (vd':D),Fr σi σo q q1 m0 m1 st st'∧FL 0 σo (gS af env st1) vd'∧K vd' st'∧∀i,look st1.m i=look m1 i) (eu af cs) ⟨q,m0⟩):
  Calls P fid args x.w fun
   | .returned v,w'=>∃x' d st',K d st'∧x'.w=w'∧Step x x'∧RD ν x' v d∧dn ν x' (look st'.m)∧di st' x'
   |_,_=>False:=by
 obtain⟨body,c1,c2,c3,c4,c5,c6⟩:=eE hc
 let x0:X:=⟨x.w,x.I,fun i=>(jo σi i).bind x.β⟩
 have hx0:∀l i,(l,i)∈σi→x0.β i=x.β l:=fun l i h=>by simp only[x0,rK oki h,Option.bind_some]
 have hβ0:∀l i,j3 0 σi l=some i→x0.β i=x.β l:=fun l i h=>hx0 l i (Bk (lo:=0) oki h).2
 have hx0':∀i p,x0.β i=some p→∃l,(l,i)∈σi∧x.β l=some p∧i<q:=by
  intro i p h;obtain⟨l,h1,h2⟩:=Option.bind_eq_some_iff.1 (show(jo σi i).bind x.β=some p from h);exact⟨l,ic h1,h2,mL oki (ic h1)⟩
 have hs0:dn ν x0 (look m0):=by
  refine⟨fun i blk b base tot e1 e2=>?_,fun i j b base tot base' tot' e1 e2 e3 e4=>?_,hs.imm,fun i b base tot e=>?_,bS.le x _ (fun _ h=>h) (fun _ _=>rfl) hs.gd⟩
  ·obtain⟨l,b',h1,h2,h3⟩:=hm0 i blk e1;rw[hx0 l i h1]at e2;obtain⟨o1,o2⟩:=hs.own l b' b base tot h2 e2;exact⟨o1,jT.re (x:=x) (x':=x0) rfl rfl hβ0 o2 h3⟩
  ·obtain⟨l,h1,h2,_⟩:=hx0' i _ e3;obtain⟨l',h1',h2',_⟩:=hx0' j _ e4;have:=hs.inj l l' b base tot base' tot' (hlt _ _ h1) (hlt _ _ h1') h2 h2';subst this;have:=pc oki h1;rw[pc oki h1']at this;exact(Option.some.inj this).symm
  ·obtain⟨l,_,h2,_⟩:=hx0' i _ e;exact hs.cI l b base tot h2
 have hf0:di ⟨q,m0⟩ x0:=by
  refine⟨fun i hi=>?_,fun i hi=>?_⟩
  ·cases h:x0.β i with
   |none=>rfl
   |some p=>obtain⟨_,_,_,h4⟩:=hx0' i p h;simp only at hi;omega
  ·cases h:look m0 i with
   |none=>exact absurd h hi
   |some b=>obtain⟨l,b',h1,_⟩:=hm0 i b h;exact mL oki h1
 have hi:=qk (P:=P) (ν:=ν) (bA:=bA) (x:=x0) (ds:=cs) (st:=⟨q,m0⟩) c4 c5 c6 (args:=args) (by omega) hnp (fun i hi=>RD.re (x:=x) (x':=x0) rfl rfl hβ0 (hargs i (by omega)) (hds i (by omega))) hs0 hf0;have hcs:=nS (C:={P,ν,bA,slots:=slotsOf fn,ntmps:=fn.ntmps,vm:=C2 P fn}) (hΓ.at q) (jO fn).1 hmix x0 (fun l h=>hf0.β l h) body af.body c2 _ _ _ _ x0 hw hi (.refl _);refine calls_of_wp hf c1 (wp_mono hcs fun e a w' hp=>?_);obtain⟨e',x',env',st1,he,hxw,hst,hi',hh,hro,σo,q1,m1,st',vd',hfm,hvd,hK,hlk⟩:=hp;subst hxw;obtain⟨v,r1,r2,r3⟩:=mC hi' c3 hro
 let x2:X:=⟨x'.w,x'.I,fun l=>match jo σo l with|some i=>x'.β i|none=>x.β l⟩
 have hx2:∀i l,(i,l)∈σo→x2.β l=x'.β i:=fun i l h=>by simp only[x2,rK hfm.oko h]
 have hx2n:∀l,jo σo l=none→x2.β l=x.β l:=fun l h=>by simp only[x2,h]
 have hβ2:∀i l,j3 0 σo i=some l→x2.β l=x'.β i:=fun i l h=>hx2 i l (Bk (lo:=0) hfm.oko h).2
 have hx0s:∀l i p,(l,i)∈σi→x.β l=some p→x'.β i=some p:=fun l i p h e=>hst.β _ _ (by rw[hx0 l i h];exact e)

 have hnew:∀i p,x'.β i=some p→(∃l,(l,i)∈σi∧x.β l=some p)∨x.w.heap.size≤p.1∨∃l p',(∃j,(l,j)∈σi)∧x.β l=some p'∧p'.1=p.1:=by
  intro i p e;rcases hst.newβ i p e with h|h|⟨j,p',h1,h2⟩
  ·obtain⟨l,h3,h4,_⟩:=hx0' i p h;exact .inl ⟨l,h3,h4⟩
  ·exact .inr (.inl h)
  ·obtain⟨l,h3,h4,_⟩:=hx0' j p' h1;exact .inr (.inr ⟨l,p',⟨j,h3⟩,h4,h2⟩)
 have hstep:Step x x2:=by
  refine⟨hst.os,hst.tape,hst.output,hst.size,hst.I,hst.kP,fun l p hp=>?_,fun b hb hn=>hst.old b hb fun i p h e=>?_,fun b h=>?_,fun l p h=>?_⟩
  ·cases h:jo σo l with
   |none=>rw[hx2n l h];exact hp
   |some i=>
    have hm:=ic h;rw[hx2 i l hm];rcases hfm.io i l hm with h2|h2
    ·exact hx0s l i p h2 hp
    ·rw[hfr.β l h2]at hp;cases hp
  ·obtain⟨l,_,h2,_⟩:=hx0' i p h;exact hn l p h2 e
  ·rcases hst.newI b h with h|h|⟨i,p,h1,h2⟩
   ·exact .inl h
   ·exact .inr (.inl h)
   ·obtain⟨l,_,h3,_⟩:=hx0' i p h1;exact .inr (.inr ⟨l,p,h3,h2⟩)
  ·cases h1:jo σo l with
   |none=>rw[hx2n l h1]at h;exact .inl h
   |some i=>
    have hm:=ic h1;rw[hx2 i l hm]at h;rcases hnew i p h with⟨l',h2,h3⟩|h2|⟨l',p',_,h3,h4⟩
    ·exact .inr (.inr ⟨l',p,h3,rfl⟩)
    ·exact .inr (.inl h2)
    ·exact .inr (.inr ⟨l',p',h3,h4⟩)
 have hsim:dn ν x2 (look st'.m):=by
  refine⟨fun l blk b base tot e1 e2=>?_,fun l1 l2 b base tot base' tot' e1 e2 e3 e4=>?_,hi'.jD.imm,fun l b base tot e=>?_,bS.le x' _ (fun _ h=>h) (fun _ _=>rfl) hi'.jD.gd⟩
  ·rcases hfm.m1 l blk e1 with⟨i,b1,h1,h2,h3⟩|⟨h1,h2,h3⟩
   ·rw[hx2 i l h1]at e2;obtain⟨o1,o2⟩:=hi'.jD.own i b1 b base tot (by rw[hlk];exact h2) e2;exact⟨o1,jT.re (x:=x') (x':=x2) rfl rfl hβ2 o2 h3⟩
   ·rw[hx2n l h1]at e2;obtain⟨o1,o2⟩:=hs.own l blk b base tot h3 e2;have hlt:=hs.cI l b base tot e2;have hno:∀i p,x0.β i=some p→p.1≠b:=by
     rintro i ⟨b',base',tot'⟩ h e;simp only at e;subst e;obtain⟨l',h4,h5,_⟩:=hx0' i _ h;have:=hs.inj l' l b' base' tot' base tot (hfm.lt _ _ h4) (by rw[h3];simp) h5 e2;subst this;exact h2 _ h4
    refine⟨fun h=>?_,o2.mono hstep.le (hst.old b hlt hno)⟩;rcases hst.newI b h with h|h|⟨i,p,h4,h5⟩
    ·exact o1 h
    ·exact absurd hlt (Nat.not_lt.2 h)
    ·exact hno i p h4 h5
  ·have mix:∀l1 l2 base tot base' tot',(∃i b1,(i,l1)∈σo∧look m1 i=some b1)→jo σo l2=none→(∀i,(l2,i)∉σi)→look st.m l2≠none→x2.β l1=some (b,base,tot)→x2.β l2=some (b,base',tot')→False:=by
    rintro l1 l2 base tot base' tot' ⟨i,b1,h1,h2⟩ h3 h4 h5 e3 e4;rw[hx2 i l1 h1]at e3;rw[hx2n l2 h3]at e4;rcases hnew i _ e3 with⟨l',h6,h7⟩|h6|⟨l',⟨pb,pt,pq⟩,⟨j,h6⟩,h7,h8⟩
    ·have:=hs.inj l' l2 b base tot base' tot' (hfm.lt _ _ h6) h5 h7 e4;subst this;exact h4 _ h6
    ·have:=hs.cI l2 b base' tot' e4;simp only at h6;omega
    ·simp only at h8;subst h8;have:=hs.inj l' l2 pb pt pq base' tot' (hfm.lt _ _ h6) h5 h7 e4;subst this;exact h4 _ h6
   cases f1:look st'.m l1 with
   |none=>exact absurd f1 e1
   |some b1=>
    cases f2:look st'.m l2 with
    |none=>exact absurd f2 e2
    |some b2=>
     rcases hfm.m1 l1 b1 f1 with⟨i,c1,h1,h2,_⟩|⟨h1,h2,h3⟩<;>rcases hfm.m1 l2 b2 f2 with⟨j,c2,k1,k2,_⟩|⟨k1,k2,k3⟩
     ·rw[hx2 i l1 h1]at e3;rw[hx2 j l2 k1]at e4;have:=hi'.jD.inj i j b base tot base' tot' (by rw[hlk,h2];simp) (by rw[hlk,k2];simp) e3 e4;subst this;have:=pc hfm.oko h1;rw[pc hfm.oko k1]at this;exact(Option.some.inj this).symm
     ·exact(mix l1 l2 base tot base' tot' ⟨i,c1,h1,h2⟩ k1 k2 (by rw[k3];simp) e3 e4).elim
     ·exact(mix l2 l1 base' tot' base tot ⟨j,c2,k1,k2⟩ h1 h2 (by rw[h3];simp) e4 e3).elim
     ·rw[hx2n l1 h1]at e3;rw[hx2n l2 k1]at e4;exact hs.inj l1 l2 b base tot base' tot' (by rw[h3];simp) (by rw[k3];simp) e3 e4
  ·cases h1:jo σo l with
   |none=>rw[hx2n l h1]at e;exact Nat.lt_of_lt_of_le (hs.cI l b base tot e) hst.size
   |some i=>
    rw[hx2 i l (ic h1)]at e;exact hi'.jD.cI i b base tot e
 have hfr2:di st' x2:=by
  refine⟨fun l hl=>?_,fun l hl=>?_⟩
  ·cases h1:jo σo l with
   |none=>rw[hx2n l h1];exact hfr.β l (by have:=hfm.nx;omega)
   |some i=>have:=mL hfm.oko (ic h1);omega
  ·cases f1:look st'.m l with
   |none=>exact absurd f1 hl
   |some b1=>
    rcases hfm.m1 l b1 f1 with⟨i,c1,h1,_⟩|⟨_,_,h3⟩
    ·exact mL hfm.oko h1
    ·have:=hfr.m l (by rw[h3];simp);have:=hfm.nx;omega
 have hrd:=RD.re (ν:=ν) (x:=x') (x':=x2) rfl rfl hβ2 r2 hvd;rcases Ex.wx hh with h|h<;>rw[h]at he<;>subst he<;>exact⟨hi'.defers,v,r1,x2,vd',st',hK,rfl,hstep,hrd,hsim,hfr2⟩
end
end Go.Abs
end
section
namespace Go.Abs
structure Mk where
 tr:List D→St→(D→St→Prop)→Prop
 mu:List D→St→Nat
 mono:∀(ds:List D) (st:St) (K K':D→St→Prop),(∀d st',K d st'→K' d st')→tr ds st K→tr ds st K'
def Mk.no:Mk:=⟨fun _ _ _=>False,fun _ _=>0,fun _ _ _ _ _ h=>h⟩
def nM (af:aB)(Q:D→List (Nat×aV)→Prop):Ex→List aW→St→Prop:=fun e env st=>e.home∧lG st.m env af.res∧∃m1,(∀i,look st.m i=look m1 i)∧Q (gS af env st) m1
def dW {af:aB}{Q:D→List (Nat×aV)→Prop}{vd:D}{m1:List (Nat×aV)}{e:Ex}{env:List aW}{st:St}(h1:e.home)(h2:lG st.m env af.res)(h3:gS af env st=vd)(h4:st.m=m1)(h5:Q vd m1):nM af Q e env st:=⟨h1,h2,m1,fun i=>by rw[h4],by rw[h3];exact h5⟩
def One (vd:D)(m1:List (Nat×aV)):D→List (Nat×aV)→Prop:=fun d m=>d=vd∧m=m1
def oneq (vd:D)(m1:List (Nat×aV)):One vd m1 vd m1:=⟨rfl,rfl⟩
section
variable [bS] {P:Program} {ν:List (Nat×Nat)} {bA:List Nat} {Γ:Ctx}
def Dr (P:Program)(ν:List (Nat×Nat))(Γ':Ctx)(bA:List Nat)(tr:List D→St→(D→St→Prop)→Prop)(fid:Nat):Prop:=
 ∀(ds:List D) (st:St) (K:D→St→Prop),tr ds st K→Ok P ν bA Γ'→∀(x:X) (args:Array Value),args.size=ds.length→(∀i,i<ds.length→RD ν x (args.getD i undef) (ds.getD i .any))→dn ν x (look st.m)→di st x→
  ff P x (fun v x'=>∃d st',K d st'∧Step x x'∧RD ν x' v d∧dn ν x' (look st'.m)∧di st' x') ((callFunc fid args).run P x.w)
end
end Go.Abs
end
section
namespace Go.Abs
abbrev RT:=List D→D→Prop
abbrev FT:=D→List D→D→D→Prop
abbrev TT:=List D→St→(D→St→Prop)→Prop
def wZ (T:TT):Prop:=∀ds st K K',(∀d st',K d st'→K' d st')→T ds st K→T ds st K'
def wu (A:RT→Prop):RT:=fun ds d=>∀T,A T→T ds d
def jY (A:FT→Prop):FT:=fun d ds v s=>∀T,A T→T d ds v s
def Fv (T:TT):Ctx:=⟨fun _ _=>False,fun _ _=>.any,fun _=>T,fun _ _ _=>False,fun _ _ _=>.any,fun _ _ _=>.any,0⟩
def zQ (C:Ctx→Prop):TT:=fun ds st K=>∀T,wZ T→C (Fv T)→T ds st K
def qE (C:Ctx→Prop):wZ (zQ C):=fun _ _ _ _ h h1 T hT hC=>hT _ _ _ _ h (h1 T hT hC)
def noR:RT:=fun _ _=>False
def MA:FT:=fun _ _ _ _=>False
def noT:TT:=fun _ _ _=>False
def sM:wZ noT:=fun _ _ _ _ _ h=>h.elim
structure nn where
 key:Nat
 rel:RT
 mu:List D→Nat
 relF:FT
 tr:TT
 muE:List D→St→Nat
 mono:wZ tr
def My:List D→Nat:=fun _=>0
def Em:List D→St→Nat:=fun _ _=>0
def jx:nn:=⟨0,noR,My,MA,noT,Em,sM⟩
def rP (k:Nat)(A:RT→Prop)(mu:List D→Nat:=My):nn:=⟨k,wu A,mu,MA,noT,Em,sM⟩
def rF (k:Nat)(A:FT→Prop):nn:=⟨k,noR,My,jY A,noT,Em,sM⟩
def rG (k:Nat)(C:Ctx→Prop)(mu:List D→St→Nat:=Em):nn:=⟨k,noR,My,MA,zQ C,mu,qE C⟩
def rFG (k:Nat)(A:FT→Prop)(C:Ctx→Prop):nn:=⟨k,noR,My,jY A,zQ C,Em,qE C⟩
noncomputable def pick (r:D→Prop):D:=Classical.epsilon r
def gO {r:D→Prop}(h:∃d,r d):r (pick r):=Classical.epsilon_spec h
def LK (R:RT):Prop:=∀ds d d',R ds d→R ds d'→d=d'
def rZ (R:FT):Prop:=∀d ds v s v' s',R d ds v s→R d ds v' s'→v=v'∧s=s'
def Jg {A:RT→Prop}(h:A fun ds d=>A fun ds' d'=>ds'=ds→d=d'):LK (wu A):=fun ds d d' h1 h2=>h2 _ (h1 _ h) rfl
def Gl {A:FT→Prop}(h:A fun d ds v s=>A fun d' ds' v' s'=>d'=d→ds'=ds→v=v'∧s=s'):rZ (jY A):=fun d ds v s v' s' h1 h2=>h2 _ (h1 _ h) rfl rfl
noncomputable def tP (t:List (Nat×nn)):Ctx where
 pre n ds:=∃d,(lk t n jx).rel ds d
 val n ds:=pick ((lk t n jx).rel ds)
 tr n:=(lk t n jx).tr
 fp n d ds:=∃v s,(lk t n jx).relF d ds v s
 fv n d ds:=pick fun v=>∃s,(lk t n jx).relF d ds v s
 fs n d ds:=pick fun s=>∃v,(lk t n jx).relF d ds v s
 lo:=0
def Fc (t:List (Nat×nn)):I3:=⟨fun n=>(lk t n jx).key,fun n=>(lk t n jx).mu,fun n=>(lk t n jx).muE⟩
noncomputable abbrev under (t:List (Nat×nn))(k u:Nat):Ctx:=(tP t).under (Fc t) k u
def aN (t:List (Nat×nn))(k u n:Nat):(((tP t).under (Fc t) k u).at n).bm:=
 fun f ds st K K' h hh=>⟨hh.1,(lk t f jx).mono ds st K K' h hh.2⟩
section
variable {t:List (Nat×nn)} {n k u:Nat} {ds:List D} {d v s:D} {st:St} {K:D→St→Prop}
def dw (hD:LK (lk t n jx).rel)(hk:(lk t n jx).key<k∨(lk t n jx).key=k∧(lk t n jx).mu ds<u)(h:(lk t n jx).rel ds d):(under t k u).pre n ds∧(under t k u).val n ds=d:=
 ⟨⟨hk,d,h⟩,hD _ _ _ (gO ⟨d,h⟩) h⟩
def okf (hD:rZ (lk t n jx).relF)(hk:(lk t n jx).key<k)(h:(lk t n jx).relF d ds v s):(under t k u).fp n d ds∧(under t k u).fv n d ds=v∧(under t k u).fs n d ds=s:=by
 refine⟨⟨.inl hk,v,s,h⟩, ?_, ?_⟩
 ·obtain⟨s',h'⟩:=gO (r:=fun v=>∃s,(lk t n jx).relF d ds v s) ⟨v,s,h⟩;exact(hD _ _ _ _ _ _ h' h).1
 ·obtain⟨v',h'⟩:=gO (r:=fun s=>∃v,(lk t n jx).relF d ds v s) ⟨s,v,h⟩;exact(hD _ _ _ _ _ _ h' h).2
def z6 (hk:(lk t n jx).key<k∨(lk t n jx).key=k∧(lk t n jx).muE ds st<u)(h:(lk t n jx).tr ds st K):(under t k u).tr n ds st K:=⟨hk,h⟩
end
section
variable [bS] {P:Program} {ν:List (Nat×Nat)} {bA:List Nat} {Γ:Ctx} {t:List (Nat×nn)} {fid n key:Nat}
def AF (P:Program)(ν:List (Nat×Nat))(bA:List Nat)(Γ:Ctx)(fid:Nat)(ds:List D)(d:D):Prop:=Ok P ν bA Γ→∀(x:X)(args:Array Value),args.size=ds.length→(∀i,i<ds.length→RD ν x (args.getD i undef) (ds.getD i .any))→aG ds=true→
  (∀b,x.I b→b<x.w.heap.size)→bS.gd x→ff P x (fun v x'=>jj x x'∧RD ν x' v d) ((callFunc fid args).run P x.w)
def uk (P:Program)(ν:List (Nat×Nat))(bA:List Nat)(Γ:Ctx)(fid:Nat)(d:D)(ds:List D)(vd new:D):Prop:=Ok P ν bA Γ→∀(x:X)(f:Nat→Option aV)(args:Array Value)(l k:Nat),args.size=ds.length+1→
   RD ν x (args.getD 0 undef) (.ptr l k 0 0)→(∀i,i<ds.length→RD ν x (args.getD (i+1) undef) (ds.getD i .any))→dn ν x f→f l=some (.buf k [d])→d.aI=true→aG ds=true→
   ff P x (fun v x'=>Step x x'∧RD ν x' v vd∧dn ν x' (fun l'=>if l'=l then some (.buf k [new])else f l')∧x'.β=x.β) ((callFunc fid args).run P x.w)
def lL (P:Program)(ν:List (Nat×Nat))(bA:List Nat)(Γ:Ctx)(fid:Nat)(ds:List D)(st:St)(K:D→St→Prop):Prop:=Ok P ν bA Γ→∀(x:X)(args:Array Value),args.size=ds.length→(∀i,i<ds.length→RD ν x (args.getD i undef) (ds.getD i .any))→dn ν x (look st.m)→di st x→
  ff P x (fun v x'=>∃d st',K d st'∧Step x x'∧RD ν x' v d∧dn ν x' (look st'.m)∧di st' x') ((callFunc fid args).run P x.w)
structure Kt (P:Program)(ν:List (Nat×Nat))(bA:List Nat)(t:List (Nat×nn))(fid n:Nat):Prop where
 p:∀ds d,(lk t n jx).rel ds d→AF P ν bA (under t (lk t n jx).key ((lk t n jx).mu ds)) fid ds d
 f:rZ (lk t n jx).relF∧∀d ds v s,(lk t n jx).relF d ds v s→uk P ν bA (under t (lk t n jx).key ((lk t n jx).mu (d::ds))) fid d ds v s
 g:∀ds st K,(lk t n jx).tr ds st K→lL P ν bA (under t (lk t n jx).key ((lk t n jx).muE ds st)) fid ds st K
def okA (hsm:∀fid n,cW ν fid=some n→n<1000000)(hB:∀t,bA.contains (1000000000+t)=true→t=bS.tB)(h:∀fid n,cW ν fid=some n→Kt P ν bA t fid n):Ok P ν bA (tP t):=by
 refine MB (Fc t) hsm hB (fun fid n hn ds hp hok=>(h fid n hn).p ds _ (gO hp) hok) (fun fid n hn _ d ds hp hok=>?_) (fun fid n hn ds st K htr hok=>(h fid n hn).g ds st K htr hok);obtain⟨v,s,hr⟩:=hp;obtain⟨hD,hf⟩:=(h fid n hn).f;have h2:(tP t).fv n d ds=v∧(tP t).fs n d ds=s:=by
  constructor
  ·obtain⟨s',h'⟩:=gO (r:=fun v=>∃s,(lk t n jx).relF d ds v s) ⟨v,s,hr⟩;exact(hD _ _ _ _ _ _ h' hr).1
  ·obtain⟨v',h'⟩:=gO (r:=fun s=>∃v,(lk t n jx).relF d ds v s) ⟨s,v,hr⟩;exact(hD _ _ _ _ _ _ h' hr).2
 rw[h2.1,h2.2];exact hf d ds v s hr hok
def Ba {Γ:D→List D→Ctx}:rZ MA∧∀d ds v s,MA d ds v s→uk P ν bA (Γ d ds) fid d ds v s:=⟨fun _ _ _ _ _ _ h=>h.elim,fun _ _ _ _ h=>h.elim⟩
def bE {A:RT→Prop}{mu:List D→Nat}(hr:lk t n jx=rP key A mu)(h:A fun ds d=>AF P ν bA (under t key (mu ds)) fid ds d):Kt P ν bA t fid n:=by
 refine⟨?_, ?_, ?_⟩<;>rw[hr]
 ·exact fun ds d hd=>hd (fun ds d=>AF P ν bA (under t key (mu ds)) fid ds d) h
 ·exact Ba
 ·exact fun _ _ _ h=>h.elim
def JP {A:FT→Prop}(hr:lk t n jx=rF key A)(hD:rZ (jY A))(h:A fun d ds v s=>uk P ν bA (under t key 0) fid d ds v s):Kt P ν bA t fid n:=by
 refine⟨?_, ?_, ?_⟩<;>rw[hr]
 ·exact fun _ _ h=>h.elim
 ·exact⟨hD,fun d ds v s hd=>hd _ h⟩
 ·exact fun _ _ _ h=>h.elim
def uG {Γ:List D→St→Ctx}:wZ fun ds st K=>lL P ν bA (Γ ds st) fid ds st K:=fun ds st K K' h hg hok x args hl ha hs hf=>(hg hok x args hl ha hs hf).mono fun v x' ⟨d,st',h1,h2⟩=>⟨d,st',h _ _ h1,h2⟩
def ri {C:Ctx→Prop}{mu:List D→St→Nat}(hr:lk t n jx=rG key C mu)(h:C (Fv fun ds st K=>lL P ν bA (under t key (mu ds st)) fid ds st K)):Kt P ν bA t fid n:=by
 refine⟨?_, ?_, ?_⟩<;>rw[hr]
 ·exact fun _ _ h=>h.elim
 ·exact Ba
 ·exact fun ds st K hd=>hd (fun ds st K=>lL P ν bA (under t key (mu ds st)) fid ds st K) uG h
def MC {A:FT→Prop}{C:Ctx→Prop}(hr:lk t n jx=rFG key A C)(hD:rZ (jY A))(h:A fun d ds v s=>uk P ν bA (under t key 0) fid d ds v s)(h2:C (Fv fun ds st K=>lL P ν bA (under t key 0) fid ds st K)):Kt P ν bA t fid n:=by
 refine⟨?_, ?_, ?_⟩<;>rw[hr]
 ·exact fun _ _ h=>h.elim
 ·exact⟨hD,fun d ds v s hd=>hd _ h⟩
 ·exact fun ds st K hd=>hd _ uG h2
def Dp (P:Program)(ν:List (Nat×Nat))(bA:List Nat)(fid:Nat)(af:aB):Prop:=(P.funcs[fid]?).map (fun f=>(compile P ν bA f,f.name== "runtime.NumGoroutine"))=some (some af,false)
def Dp.split {af:aB}(h:Dp P ν bA fid af):∃fn,P.funcs[fid]? =some fn∧compile P ν bA fn=some af∧(fn.name== "runtime.NumGoroutine")=false:=by
 unfold Dp at h;cases hf:P.funcs[fid]? with
 |none=>rw[hf]at h;cases h
 |some fn=>
  rw[hf]at h;have h2:=Option.some.inj h;exact⟨fn,rfl,congrArg Prod.fst h2,congrArg Prod.snd h2⟩
def aY {af:aB}{ds:List D}{d:D}(hmix:P.follows .mixedOrders=true)(hC:Dp P ν bA fid af)(h1:ds.length=af.np)(h2:bx (Γ.at 0) af.body (I4 af d) (eu af ds) ⟨0,[]⟩):AF P ν bA Γ fid ds d:=by
 intro hok x args hl hargs hnl himm hgd;obtain⟨fn,hf,hc,hn⟩:=hC.split;obtain⟨body,c1,_⟩:=eE hc;exact .inr ⟨fid,args,er hf hn (by rw[c1];rfl) args x.w,Gu hok hmix hf hc hl hargs hnl himm hgd h1 h2⟩
def xN {af:aB}{d:D}{ds:List D}{vd new:D}(k0:Nat)(hmix:P.follows .mixedOrders=true)(hC:Dp P ν bA fid af)(h1:ds.length+1=af.np)(hk:d.cells.length=k0)
  (h2:bx (Γ.at 1) af.body (BE af k0 vd new) (eu af (.ptr 0 k0 0 0::ds)) ⟨1,[(0,.buf k0 [d])]⟩):uk P ν bA Γ fid d ds vd new:=by
 intro hok x f args l k hl h0 hargs hs hfl hd hnl;obtain⟨fn,hf,hc,hn⟩:=hC.split;obtain⟨body,c1,_⟩:=eE hc;have hkk:k=k0:=by
  generalize args.getD 0 undef=v0 at h0;cases h0 with
  |ptr _ _ _ _ b base tot at_ hβ hat=>
   obtain⟨p1,p2,c,T,fr,p3,p4,p5,p6⟩:=(hs.own l _ b base tot hfl hβ).2;have:=(p6 0 (by simp)).1;simp only[List.getD_cons_zero]at this;omega
 subst hkk;exact .inr ⟨fid,args,er hf hn (by rw[c1];rfl) args x.w,Gr hok hmix hf hc hl h0 hargs hs hfl hd hnl h1 h2⟩
def GB {k l:Nat}{d:D}{ds:List D}{vd new:D}{st:St}{K:D→St→Prop}(h:uk P ν bA Γ fid d ds vd new)(hl:look st.m l=some (.buf k [d]))(hd:d.aI=true)(hnl:aG ds=true)(hK:K vd ⟨st.nx,bO st.m l (.buf k [new])⟩):
  lL P ν bA Γ fid (.ptr l k 0 0::ds) st K:=by
 intro hok x args hl2 hargs hs hf;refine(h hok x (look st.m) args l k (by simpa using hl2) (hargs 0 (by simp)) (fun i hi=>hargs (i+1) (by simpa using hi)) hs hl hd hnl).mono ?_;rintro v x' ⟨h1,h2,h3,h4⟩;have e:(fun l'=>if l'=l then some (.buf k [new])else look st.m l')=look (bO st.m l (.buf k [new])):=by
  funext l';rw[bh]
 refine⟨vd,_,hK,h1,h2,e▸h3,fun l' hl'=>by rw[h4];exact hf.β l' hl',fun l' hl'=>?_⟩;rw[bh]at hl';split at hl'
 ·rename_i e;subst e;exact hf.m _ (by rw[hl];simp)
 ·exact hf.m _ hl'
def xO {af:aB}{ds:List D}{st:St}{K:D→St→Prop}{σi:List (Nat×Nat)}{q:Nat}{m0:List (Nat×aV)}{cs:List D}{Q:D→List (Nat×aV)→Prop}(hmono:∀q,(Γ.at q).bm)(hmix:P.follows .mixedOrders=true)(hC:Dp P ν bA fid af)
  (h1:cs.length=ds.length) (h2:∀i,i<ds.length→FL 0 σi (ds.getD i .any) (cs.getD i .any)) (h3:cs.length=af.np)
  (h4:eD 0 q σi=true) (h5:∀l i,(l,i)∈σi→look st.m l≠none) (h6:∀i b,look m0 i=some b→∃l b',(l,i)∈σi∧look st.m l=some b'∧nB 0 σi b' b)
  (h7:bx (Γ.at q) af.body (nM af Q) (eu af cs) ⟨q,m0⟩) (h8:∀d m1,Q d m1→∃(σo:List (Nat×Nat)) (q1:Nat) (st':St) (vd':D),Fr σi σo q q1 m0 m1 st st'∧FL 0 σo d vd'∧K vd' st'):lL P ν bA Γ fid ds st K:=by
 intro hok x args hl hargs hs hfr;obtain⟨fn,hf,hc,hn⟩:=hC.split;obtain⟨body,c1,_⟩:=eE hc;refine .inr ⟨fid,args,er hf hn (by rw[c1];rfl) args x.w, ?_⟩;refine Calls.mono (Gt (K:=K) hok hmix hf hc hl hargs hs hfr h1 h2 h3 h4 h5 h6 (dN (hmono q) _ _ _ _ _ (fun e env st1 h=>?_) h7)) fun e w' he=>?_
 ·obtain⟨g1,g2,m1,g3,g4⟩:=h;obtain⟨σo,q1,st',vd',k1,k2,k3⟩:=h8 _ _ g4;exact⟨g1,g2,σo,q1,m1,st',vd',k1,k2,k3,g3⟩
 ·match e,he with
  | .returned v,he=>
   obtain⟨x',d,st',g0,g1,g2,g3,g4,g5⟩:=he;exact⟨x',g1,d,st',g0,g2,g3,g4,g5⟩
end
end Go.Abs
end
section
namespace Go.Abs
structure bz where
 name:ah
 range:ah
 feats:List ah
 bare:Bool
 deriving Inhabited,DecidableEq
def bz.D (x:bz):D:=.agg [.str x.name,.str x.range,.sl 1 (x.feats.map D.str),.bool x.bare]
structure bg where
 any:List bz
 when':ah
 option:ah
 deriving Inhabited,DecidableEq
def bg.D (x:bg):D:=.agg [.sl 4 (x.any.map bz.D),.str x.when',.str x.option]
structure iy where
 name:ah
 range:ah
 when':ah
 deriving Inhabited,DecidableEq
def iy.D (x:iy):D:=.agg [.str x.name,.str x.range,.str x.when']
structure bp where
 name:ah
 of:List ah
 deriving Inhabited,DecidableEq
def bp.D (x:bp):D:=.agg [.str x.name,.sl 1 (x.of.map D.str)]
structure Rec where
 name:ah
 v:dq
 needs:List bg
 bars:List iy
 feats:List bp
 deriving Inhabited,DecidableEq
def Rec.D (x:Rec):D:=.agg [.str x.name,.int .i64 x.v.major,.int .i64 x.v.minor,.int .i64 x.v.patch,.str x.v.pre,.str x.v.build,.sl 3 (x.needs.map bg.D),.sl 3 (x.bars.map iy.D),.sl 2 (x.feats.map bp.D)]
structure bW where
 op:Int
 parts:Int
 v:dq
 deriving Inhabited,DecidableEq
def bW.D (x:bW):D:=.agg [.int .i64 x.op,.int .i64 x.parts,.int .i64 x.v.major,.int .i64 x.v.minor,.int .i64 x.v.patch,.str x.v.pre,.str x.v.build]
structure Nd where
 op:Int
 a:Int
 b:Int
 key:Int
 text:ah
 deriving Inhabited,DecidableEq
def Nd.D (x:Nd):D:=.agg [.int .i64 x.op,.int .i64 x.a,.int .i64 x.b,.int .i64 x.key,.str x.text]
def iy.eq (a b:iy):eV (iy.D a).cells (iy.D b).cells=decide (a=b):=by
 obtain⟨a1,a2,a3⟩:=a;obtain⟨b1,b2,b3⟩:=b;simp only[iy.D,D.cells,eV,oP,iy.mk.injEq,Bool.and_true];simp only[Bool.decide_and]
def bz.same {a b:bz}(e1:a.name=b.name)(e2:a.range=b.range)(e3:a.bare=b.bare):decide (a=b)=decide (a.feats=b.feats):=by
 obtain⟨a1,a2,a3,a4⟩:=a;obtain⟨b1,b2,b3,b4⟩:=b;simp only at e1 e2 e3;subst e1;subst e2;subst e3;simp
def rising (l:List ah):Bool:=cj (fun i=>Op.bytesLess l[i-1]! l[i]!) 1 l.length
def b7 (s:ah):Int×ah×ah:=
 if bI s=true then(1,s,[])
 else if s.length>0∧at8 s 0=63∧bI (s.drop 1)=true then(2,s.drop 1,[])
 else if(ai s 47).length=2∧ek (ai s 47)[0]! =true∧bI (ai s 47)[1]! =true then(3,(ai s 47)[0]!,(ai s 47)[1]!)
 else(0,[],[])
def findF (l:List bp)(nm:ah)(i:Nat):Int:=match(l.drop i).findIdx? (fun x=>decide (x.name=nm))with
 |some k=>((i+k:Nat):Int)
 |none=>-1
def DR {l:List bp}{nm:ah}{i:Nat}(h:i<l.length)(he:l[i]!.name=nm):findF l nm i=(i:Nat):=by
 unfold findF;rw[List.drop_eq_getElem_cons h,List.findIdx?_cons];have:l[i].name=nm:=by simpa[h]using he
 simp[this]
def DS {l:List bp}{nm:ah}{i:Nat}(h:i<l.length)(he:¬l[i]!.name=nm):findF l nm i=findF l nm (i+1):=by
 unfold findF;have:¬l[i].name=nm:=by simpa[h]using he
 rw[List.drop_eq_getElem_cons h,List.findIdx?_cons];simp only[this,decide_false,Bool.false_eq_true,if_false];cases(l.drop (i+1)).findIdx? (fun x=>decide (x.name=nm))with
 |none=>rfl
 |some k=>simp only[Option.map_some];congr 1;omega
def BX {l:List bp}{nm:ah}{i:Nat}(h:l.length≤i):findF l nm i=-1:=by
 unfold findF;rw[List.drop_eq_nil_of_le h];rfl
def HY:ah:=[100,101,102,97,117,108,116]
def Ky (l:List bp)(nm:ah):Bool:=decide (nm=HY) ||decide (0≤findF l nm 0)
def iB (l:List bp)(s:ah):Bool:=!(decide ((b7 s).1=0) ||(decide ((b7 s).1=1)&& !Ky l (b7 s).2.1))
def sE (l:List bp)(of:List ah):Bool:=decide (of.length≤6)&&rising of&&cj (fun i=>iB l of[i]!) 0 of.length
def jU (l:List bp)(i:Nat):Bool:=bI l[i]!.name&& !(decide (0<i)&& !Op.bytesLess l[i-1]!.name l[i]!.name)&&sE l l[i]!.of
def fh (l:List bp):Bool:=decide (l.length≤8)&&cj (jU l) 0 l.length
def bp.sm (x:bp):Prop:=x.name.length≤1048576∧x.of.length≤1048576∧∀t∈x.of,t.length≤1048576
def rD (l:List bp):Prop:=∀x∈l,x.sm
def uI (b:ah):∀(l:List ah)(i:Nat),(aP b (l.take i)).length≤(aP b l).length
 |[],i=>by simp
 |[t],0=>by simp[aP]
 |[t],i+1=>by simp
 |t::u::r,0=>by simp[aP]
 |t::u::r,1=>by simp[aP]
 |t::u::r,i+2=>by
  have:=uI b (u::r) (i+1);simp only[List.take_succ_cons,aP,List.length_append]at this⊢;omega
def n5 (b t:ah):∀(l:List ah),l≠[]→aP b (l++[t])=aP b l++b++t
 |[],h=>absurd rfl h
 |[u],_=>by simp[aP]
 |u::v::r,_=>by
  have:=n5 b t (v::r) (by simp);simp only[List.cons_append,aP]at this⊢;rw[this];simp
def n6 (b:ah)(l:List ah)(i:Nat)(h:i<l.length):aP b (l.take (i+1))=(if 0<i then aP b (l.take i)++b else [])++l[i]! :=by
 have e:l.take (i+1)=l.take i++[l[i]!]:=by
  rw[List.take_add_one,List.getElem?_eq_getElem h];simp[h]
 rw[e];by_cases h0:0<i
 ·rw[if_pos h0,n5 _ _ _ (by intro hn;have:=congrArg List.length hn;simp only[List.length_take,List.length_nil]at this;omega)]
 ·obtain rfl:i=0:=by omega
  simp[aP]
end Go.Abs
namespace Go.Abs
def GO {s:ah}(h0:bI s=true):b7 s=(1,s,[]):=by simp only[b7,if_pos h0]
def GP {s:ah}(h0:bI s=false)(h:(0<(s.length:Int)∧at8 s 0=63)∧bI (s.drop 1)=true):b7 s=(2,s.drop 1,[]):=by
 simp only[b7,h0,Bool.false_eq_true,if_false];rw[if_pos ⟨by omega,h.1.2,h.2⟩]
def xR {s:ah}(h:(¬0<(s.length:Int)∨¬at8 s 0=63)∨bI (s.drop 1)=false):¬(s.length>0∧at8 s 0=63∧bI (s.drop 1)=true):=by
 rintro⟨h1,h2,h3⟩;rcases h with(h|h)|h
 ·omega
 ·exact h h2
 ·rw[h3]at h;cases h
def GQ {s:ah}(h0:bI s=false)(h:(¬0<(s.length:Int)∨¬at8 s 0=63)∨bI (s.drop 1)=false)(h2:(((ai s 47).length:Int)=2∧ek (ai s 47)[0]! =true)∧bI (ai s 47)[1]! =true):b7 s=((3:Int),(ai s 47)[0]!,(ai s 47)[1]!):=by
 simp only[b7,h0,Bool.false_eq_true,if_false];rw[if_neg (xR h),if_pos ⟨by omega,h2.1.2,h2.2⟩]
def GN {s:ah}(h0:bI s=false)(h:(¬0<(s.length:Int)∨¬at8 s 0=63)∨bI (s.drop 1)=false)(h2:(¬((ai s 47).length:Int)=2∨ek (ai s 47)[0]! =false)∨bI (ai s 47)[1]! =false):b7 s=(0,[],[]):=by
 simp only[b7,h0,Bool.false_eq_true,if_false];rw[if_neg (xR h),if_neg];rintro⟨g1,g2,g3⟩;rcases h2 with(h2|h2)|h2
 ·omega
 ·rw[g2]at h2;cases h2
 ·rw[g3]at h2;cases h2
end Go.Abs
end
namespace Go.Abs
def vQ (s:ah)(i:Nat)(h:i<s.length):at8 s i=((s[i]'h).toNat:Int):=by simp[at8,h]
def xe (p:Int→Bool)(s:ah):cj (fun i=>p (at8 s i)) 0 s.length=true↔∀c∈s,p c.toNat=true:=by
 rw[dr];constructor
 ·intro h c hc;obtain⟨i,hi,rfl⟩:=List.getElem_of_mem hc;have:=h i (by omega) hi
  rwa [vQ s i hi]at this
 ·intro h j _ hj;rw[vQ s j hj];exact h _ (List.getElem_mem hj)
def mF {b:Int}:∀{s cur:ah},(∀c∈s,(c.toNat:Int)≠b)→bc b s cur=[cur++s]
 |[],cur,_=>by simp[bc]
 |c::r,cur,h=>by
  simp only[bc];rw[if_neg (h c (.head _)),mF (fun d hd=>h d (.tail _ hd))];simp
def tt {b:Int}{x:UInt8}(hx:(x.toNat:Int)=b)(r:ah):∀{w cur:ah},(∀c∈w,(c.toNat:Int)≠b)→bc b (w++x::r) cur=(cur++w)::bc b r []
 |[],cur,_=>by simp[bc,hx]
 |c::w,cur,h=>by
  simp only[List.cons_append,bc];rw[if_neg (h c (.head _)),tt hx r (fun d hd=>h d (.tail _ hd))];simp
def qM {b:Int}{x:UInt8}(hx:(x.toNat:Int)=b):∀{ws:List ah},ws≠[]→(∀w∈ws,∀c∈w,(c.toNat:Int)≠b)→ai (aP [x] ws) b=ws
 |[],h,_=>absurd rfl h
 |[w],_,h=>by
  show bc b w []=[w];rw[mF (h w (.head _))];rfl
 |w::u::r,_,h=>by
  have ih:=qM (ws:=u::r) hx (by simp) (fun v hv=>h v (.tail _ hv));show bc b (w++[x]++aP [x] (u::r)) []=_;rw[List.append_assoc,List.singleton_append,tt hx _ (h w (.head _))];rw[show bc b (aP [x] (u::r)) []=u::r from ih];rfl
def mj {b:Int}{x:UInt8}(hx:(x.toNat:Int)=b):∀(s cur:ah),aP [x] (bc b s cur)=cur++s
 |[],cur=>by simp[bc,aP]
 |c::r,cur=>by
  simp only[bc];split
  ·rename_i h;rw[ew _ _ _ (by intro h;have:=fB b r [];rw[h]at this;simp at this),mj hx r []];have:c=x:=UInt8.toNat_inj.1 (by omega);simp[this]
  ·rw[mj hx r];simp
def jJ {b:Int}{x:UInt8}(hx:(x.toNat:Int)=b)(s:ah):aP [x] (ai s b)=s:=by
 unfold ai;rw[mj hx];rfl
def xu {n:Nat}(h:n<10):aM (dg n).toNat=true:=by
 have:=DK h;simp only[aM,Bool.and_eq_true,decide_eq_true_eq];omega
def xt {Q:Nat→Prop}(h1:∀n,n<10→Q n)(h2:∀n,9<n→Q (n/10)→Q n)(n:Nat):Q n:=by
 induction n using Nat.strongRecOn with
 |ind n ih=>
  by_cases h:n<10
  ·exact h1 n h
  ·exact h2 n (by omega) (ih _ (by omega))
def lT (n:Nat):∀c∈cv n,aM c.toNat=true:=by
 refine xt (Q:=fun n=>∀c∈cv n,aM c.toNat=true) (fun n h c hc=>?_) (fun n h ih c hc=>?_) n
 ·rw[mS h]at hc;obtain rfl:=List.mem_singleton.1 hc;exact xu h
 ·rw[mR h]at hc;rcases List.mem_append.1 hc with hc|hc
  ·exact ih c hc
  ·obtain rfl:=List.mem_singleton.1 hc;exact xu (by omega)
def Gj (n:Nat):cv n≠[]:=by
 refine xt (Q:=fun n=>cv n≠[]) (fun n h=>?_) (fun n h ih=>?_) n
 ·rw[mS h];simp
 ·rw[mR h];simp
def mY (x:UInt8):∀(ws:List ah)(c:UInt8),c∈aP [x] ws→c=x∨∃w∈ws,c∈w
 |[],c,h=>by simp[aP]at h
 |[w],c,h=>.inr ⟨w,.head _,h⟩
 |w::u::r,c,h=>by
  rw[ew _ _ _ (by simp)]at h;simp only[List.mem_append,List.mem_singleton]at h;rcases h with(h|h)|h
  ·exact .inr ⟨w,.head _,h⟩
  ·exact .inl h
  ·rcases mY x (u::r) c h with h|⟨v,hv,hc⟩
   ·exact .inl h
   ·exact .inr ⟨v,.tail _ hv,hc⟩
def Fp {s:ah}{p:Bool}(h:mG s p=true){c:UInt8}(hc:c∈s):ji c.toNat=true∨c=46:=by
 simp only[mG,Bool.or_eq_true,decide_eq_true_eq,iR,Bool.and_eq_true,dr]at h;rcases h with rfl|⟨_,h⟩
 ·cases hc
 ·rw[←jJ (b:=46) (x:=46) rfl s]at hc;rcases mY 46 _ c hc with rfl|⟨w,hw,hcw⟩
  ·exact .inr rfl
  ·left;obtain⟨i,hi,rfl⟩:=List.getElem_of_mem hw;have:=h i (by omega) hi;rw[show(ai s 46)[i]! =(ai s 46)[i]by simp[hi]]at this;simp only[ed,lI,Bool.and_eq_true]at this;exact(xe ji _).1 this.1.2 c hcw
def DL {c:UInt8}(h:aM c.toNat=true):c.toNat≠46∧c.toNat≠45∧c.toNat≠43∧c.toNat≠32∧c.toNat≠10:=by
 simp only[aM,Bool.and_eq_true,decide_eq_true_eq]at h;omega
def coreS (v:dq):ah:=cv v.major.toNat++[46]++cv v.minor.toNat++[46]++cv v.patch.toNat
def vx (v:dq):Aw v=coreS v++(if v.pre=[]then []else 45::v.pre)++(if v.build=[]then []else 43::v.build):=rfl
def hv (c:UInt8):Nat:=if aM c.toNat=true then c.toNat-48 else c.toNat-87
def qX (s:ah):Nat:=s.foldl (fun n c=>n*16+hv c) 0
def HJ {s:ah}(h:bI s=true){c:UInt8}(hc:c∈s):vy c.toNat=true:=by
 simp only[bI,Bool.and_eq_true]at h;exact(xe vy s).1 h.2 c hc
def pA.wf (x:pA):Prop:=0≤x.sum∧x.sum<18446744073709551616
def wT.wf (l:wT):Prop:=∀x∈l.lines,x.wf
end Go.Abs
section
namespace Go.Abs
def qN {b:Int}{x:UInt8}(hx:(x.toNat:Int)=b):∀(s cur:ah),bc b s cur=match s.findIdx? (fun c=>c==x)with
  |some k=>(cur++s.take k)::bc b (s.drop (k+1)) []
  |none=>[cur++s]
 |[],cur=>by simp[bc]
 |c::r,cur=>by
  simp only[bc,List.findIdx?_cons];by_cases h:c=x
  ·subst h;rw[if_pos hx];simp
  ·have h1:¬(c.toNat:Int)=b:=fun e=>h (UInt8.toNat_inj.1 (by omega))
   have h2:(c==x)=false:=by simpa using h
   rw[if_neg h1,h2,qN hx r (cur++[c])];cases r.findIdx? (fun c=>c==x)with
   |none=>simp
   |some k=>simp
def vr (s:ah)(x:UInt8):ai s x.toNat=if(dQ s x).2.2=true then(dQ s x).1::ai (dQ s x).2.1 x.toNat else [s]:=by
 unfold ai dQ;rw[qN (x:=x) rfl];cases s.findIdx? (fun c=>c==x)with
 |none=>simp
 |some k=>simp
def vg {s:ah}:(((dQ s 47).2.2=true∧ek (dQ s 47).1=true)∧bI (dQ s 47).2.1=true)↔(((ai s 47).length:Int)=2∧ek (ai s 47)[0]! =true)∧bI (ai s 47)[1]! =true:=by
 have h:=vr s 47;rw[show(((47:UInt8).toNat:Nat):Int)=47 from rfl]at h;by_cases hc:(dQ s 47).2.2=true
 ·rw[if_pos hc]at h;rw[h];have hj:=jJ (b:=47) (x:=47) rfl (dQ s 47).2.1;constructor
  ·rintro⟨⟨_,h1⟩,h2⟩;have h3:ai (dQ s 47).2.1 47=[(dQ s 47).2.1]:=by
    show bc 47 _ []=_;rw[mF (fun c hc=>?_)]
    ·rfl
    ·have:=HJ h2 hc;simp only[vy,fN,aM,Bool.or_eq_true,Bool.and_eq_true,decide_eq_true_eq]at this;omega
   rw[h3];exact⟨⟨rfl,h1⟩,h2⟩
  ·rintro⟨⟨h1,h2⟩,h3⟩;refine⟨⟨hc,h2⟩, ?_⟩;generalize ai (dQ s 47).2.1 47=q at hj h1 h3
   match q,h1 with
   |[y],_=>
    have:y=(dQ s 47).2.1:=hj;rw[←this];exact h3
   |[],h1=>simp at h1
   |_::_::_,h1=>simp at h1;omega
 ·rw[if_neg hc]at h;rw[h];constructor
  ·rintro⟨⟨h1,_⟩,_⟩;exact absurd h1 hc
  ·rintro⟨⟨h1,_⟩,_⟩;simp at h1
def x5 {s:ah}:(cS s [63]).2=true↔0<(s.length:Int)∧at8 s 0=63:=by
 match s with
 |[]=>simp[cS,List.isPrefixOf]
 |c::r=>
  have e:((c.toNat:Int)=63)↔c=63:=⟨fun h=>UInt8.toNat_inj.1 (by have:(63:UInt8).toNat=63:=rfl;omega),fun h=>by subst h;rfl⟩;simp only[cS,List.isPrefixOf,Bool.and_true,at8,List.getD_cons_zero,List.length_cons];by_cases h:c=63
  ·subst h;simp
  ·have:¬(c.toNat:Int)=63:=fun h2=>h (e.1 h2)
   have h3:((63:UInt8)==c)=false:=by simpa using fun h2=>h h2.symm
   simp[h3,this]
def uN {s:ah}(h:(cS s [63]).2=true):(cS s [63]).1=s.drop 1:=by
 unfold cS at h⊢;split at h
 ·rename_i hp;rw[if_pos hp];rfl
 ·cases h
def GS {s:ah}(h0:bI s=false)(h:(cS s [63]).2=true∧bI (cS s [63]).1=true):b7 s=(2,(cS s [63]).1,[]):=by
 rw[uN h.1]at h⊢;exact GP h0 ⟨x5.1 h.1,h.2⟩
def A2 {s:ah}(h:(cS s [63]).2=false∨bI (cS s [63]).1=false):(¬0<(s.length:Int)∨¬at8 s 0=63)∨bI (s.drop 1)=false:=by
 by_cases hp:(cS s [63]).2=true
 ·rw[uN hp]at h;rcases h with h|h
  ·rw[hp]at h;cases h
  ·exact .inr h
 ·have:=fun h2=>hp (x5.2 h2)
  by_cases h1:0<(s.length:Int)
  ·exact .inl (.inr fun h2=>this ⟨h1,h2⟩)
  ·exact .inl (.inl h1)
def GU {s:ah}(h0:bI s=false)(h:(cS s [63]).2=false∨bI (cS s [63]).1=false)(h2:((dQ s 47).2.2=true∧ek (dQ s 47).1=true)∧bI (dQ s 47).2.1=true):b7 s=((3:Int),(dQ s 47).1,(dQ s 47).2.1):=by
 have h3:=vg.1 h2;rw[GQ h0 (A2 h) h3];have hs:=vr s 47;rw[show(((47:UInt8).toNat:Nat):Int)=47 from rfl,if_pos h2.1.1]at hs;have hj:=jJ (b:=47) (x:=47) rfl (dQ s 47).2.1;have hl:=h3.1.1;rw[hs]at hl⊢;generalize ai (dQ s 47).2.1 47=q at hj hl
 match q,hl with
 |[y],_=>
  have:y=(dQ s 47).2.1:=hj;rw[←this];rfl
 |[],h1=>simp at h1
 |_::_::_,h1=>simp at h1;omega
def GR {s:ah}(h0:bI s=false)(h:(cS s [63]).2=false∨bI (cS s [63]).1=false)(h2:((dQ s 47).2.2=false∨ek (dQ s 47).1=false)∨bI (dQ s 47).2.1=false):b7 s=(0,[],[]):=by
 refine GN h0 (A2 h) ?_;have hn:¬((((ai s 47).length:Int)=2∧ek (ai s 47)[0]! =true)∧bI (ai s 47)[1]! =true):=fun h3=>by
  obtain⟨⟨g1,g2⟩,g3⟩:=vg.2 h3;rcases h2 with(h2|h2)|h2
  ·rw[g1]at h2;cases h2
  ·rw[g2]at h2;cases h2
  ·rw[g3]at h2;cases h2
 by_cases k1:((ai s 47).length:Int)=2
 ·by_cases k2:ek (ai s 47)[0]! =true
  ·right;cases k3:bI (ai s 47)[1]! with
   |false=>rfl
   |true=>exact absurd ⟨⟨k1,k2⟩,k3⟩ hn
  ·exact .inl (.inr (by simpa using k2))
 ·exact .inl (.inl k1)
end Go.Abs
namespace Go.Abs
def BS {l:List bp}{i:Nat}(h:(!bI l[i]!.name ||(decide ((0:Int)<(i:Int))&& !Op.bytesLess l[i-1]!.name l[i]!.name) ||decide ((6:Int)<(l[i]!.of.length:Int)) ||!rising l[i]!.of)=false):
  jU l i=cj (fun j=>iB l l[i]!.of[j]!) 0 l[i]!.of.length:=by
 simp only[Bool.or_eq_false_iff,Bool.not_eq_false',decide_eq_false_iff_not]at h;obtain⟨⟨⟨h1,h2⟩,h3⟩,h4⟩:=h;have e:(decide (0<i)&& !Op.bytesLess l[i-1]!.name l[i]!.name)=false:=by
  rw[show decide (0<i)=decide ((0:Int)<(i:Int))from decide_eq_decide.2 (by omega)];exact h2
 simp only[jU,sE,h1,e,h4];rw[decide_eq_true (by omega)];rfl
def BR {l:List bp}{i:Nat}(h:(!bI l[i]!.name ||(decide ((0:Int)<(i:Int))&& !Op.bytesLess l[i-1]!.name l[i]!.name) ||decide ((6:Int)<(l[i]!.of.length:Int)) ||!rising l[i]!.of)=true):
  jU l i=false:=by
 have e:decide ((0:Int)<(i:Int))=decide (0<i):=decide_eq_decide.2 (by omega);have e6:decide ((6:Int)<(l[i]!.of.length:Int))=!decide (l[i]!.of.length≤6):=by
  by_cases h6:l[i]!.of.length≤6
  ·rw[decide_eq_true h6,decide_eq_false (by omega)];rfl
  ·rw[decide_eq_false h6,decide_eq_true (by omega)];rfl
 rw[e,e6]at h;simp only[jU,sE];revert h;generalize bI l[i]!.name=a;generalize (decide (0<i)&& !Op.bytesLess l[i-1]!.name l[i]!.name)=b;generalize decide (l[i]!.of.length≤6)=c;generalize rising l[i]!.of=d;cases a<;>cases b<;>cases c<;>cases d<;>simp
end Go.Abs
end
section
namespace Go.Abs
def bM (op:Int):ah:=if op=1 then [61]else if op=2 then [33,61]else if op=3 then [60]else if op=4 then [60,61]else if op=5 then [62]else if op=6 then [62,61]else if op=7 then [94]else if op=8 then [126]else []
def qh (op:Int):(bM op).length≤2:=by
 unfold bM;repeat' split
 all_goals decide
def pG (s w:ah):Bool:=decide (w.length≤s.length)&&decide (s.take w.length=w)
def lC (c:bW):Bool:=(decide (0<c.parts) ||decide (c.v.major=0))&&(decide (1<c.parts) ||decide (c.v.minor=0))&&(decide (2<c.parts) ||decide (c.v.patch=0))
def iA (c:bW):Bool:=decide (1≤c.op)&&decide (c.op≤9)&&eh c.v&&decide (c.v.build=[])&&decide ((if c.op=9 then 0 else 1)≤c.parts)&&decide (c.parts≤if c.op=9 then 2 else 3)&&(decide (3≤c.parts) ||decide (c.v.pre=[]))&&lC c
def bW.sm (c:bW):Prop:=c.v.sm
def xo {c:bW}(h:(decide (c.op<1) ||decide (9<c.op) ||!eh c.v ||!decide (c.v.build=[]))=true):iA c=false:=by
 unfold iA;rw[show decide (c.op<1)=!decide (1≤c.op)by rw[←decide_not];exact decide_eq_decide.2 (by omega),show decide (9<c.op)=!decide (c.op≤9)by rw[←decide_not];exact decide_eq_decide.2 (by omega)]at h;revert h;generalize decide (1≤c.op)=a1;generalize decide (c.op≤9)=a2;generalize eh c.v=a3;generalize decide (c.v.build=[])=a4;cases a1<;>cases a2<;>cases a3<;>cases a4<;>simp
def ux {c:bW}(h:(decide (c.op<1) ||decide (9<c.op) ||!eh c.v ||!decide (c.v.build=[]))=false):1≤c.op∧c.op≤9∧eh c.v=true∧c.v.build=[]:=by
 simp only[Bool.or_eq_false_iff,decide_eq_false_iff_not,Bool.not_eq_false',decide_eq_true_eq]at h;exact⟨by omega,by omega,h.1.2,h.2⟩
end Go.Abs
namespace Go.Abs
def mN {c:bW}(hy:1≤c.op∧c.op≤9∧eh c.v=true∧c.v.build=[]){lo hi:Int}(hlo:(if c.op=9 then 0 else 1)=lo)(hhi:(if c.op=9 then 2 else 3)=hi):
  iA c=(!(decide (c.parts<lo) ||decide (hi<c.parts) ||(decide (c.parts<3)&& !decide (c.v.pre=[])))&&lC c):=by
 obtain⟨h1,h2,h3,h4⟩:=hy;unfold iA;rw[decide_eq_true h1,decide_eq_true h2,h3,decide_eq_true h4,hlo,hhi];rw[show decide (c.parts<lo)=!decide (lo≤c.parts)by rw[←decide_not];exact decide_eq_decide.2 (by omega),show decide (hi<c.parts)=!decide (c.parts≤hi)by rw[←decide_not];exact decide_eq_decide.2 (by omega),show decide (c.parts<3)=!decide (3≤c.parts)by rw[←decide_not];exact decide_eq_decide.2 (by omega)];generalize decide (lo≤c.parts)=a1;generalize decide (c.parts≤hi)=a2;generalize decide (3≤c.parts)=a3;generalize decide (c.v.pre=[])=a4;cases a1<;>cases a2<;>cases a3<;>cases a4<;>simp
end Go.Abs
namespace Go.Abs
def bW.ig (c:bW):List Int:=[c.v.major,c.v.minor,c.v.patch]
def du (c:bW):Nat→ah
 |0=>[]
 |i+1=>du c i++(if 0<i then [46]else [])++cv (c.ig[i]!).toNat
def gD (c:bW):ah:=if c.op=9 then(if 0<c.parts then [46]else [])++[42]else if c.v.pre=[]then []else 45::c.v.pre
def hX (c:bW):ah:=bM c.op++du c c.parts.toNat++gD c
def cR (c:bW):ah:=if iA c=true then hX c else []
def mn {c:bW}(h:eh c.v=true)(i:Nat):0≤c.ig[i]! ∧c.ig[i]! ≤9999:=by
 simp only[eh,pR,Bool.and_eq_true,decide_eq_true_eq]at h
 match i with
 |0=>exact h.1.1.1.1
 |1=>exact h.1.1.1.2
 |2=>exact h.1.1.2
 |k+3=>exact(by simp[bW.ig]:0≤c.ig[k+3]! ∧c.ig[k+3]! ≤9999)
def m4 {c:bW}(h:eh c.v=true):∀i,(du c i).length≤5*i
 |0=>by simp[du]
 |i+1=>by
  have:=m4 h i;have hn:=mn h i;have:=dJ 4 (c.ig[i]!).toNat (by omega) (by omega);simp only[du,List.length_append];split
  ·simp only[List.length_singleton];omega
  ·simp only[List.length_nil];omega
def ke {c:bW}(h:iA c=true):eh c.v=true∧0≤c.parts∧c.parts≤3∧1≤c.op∧c.op≤9:=by
 simp only[iA,Bool.and_eq_true,decide_eq_true_eq]at h;obtain⟨⟨⟨⟨⟨⟨⟨h1,h2⟩,h3⟩,h4⟩,h5⟩,h6⟩,h7⟩,h8⟩:=h;refine⟨h3, ?_, ?_,h1,h2⟩
 ·split at h5<;>omega
 ·split at h6<;>omega
end Go.Abs
namespace Go.Abs
def iq (c:bW):List ah:=(c.ig.map fun n=>cv n.toNat).take c.parts.toNat
def uU (c:bW):∀i,i≤3→aP [46] ((c.ig.map fun n=>cv n.toNat).take i)=du c i
 |0,_=>by simp[aP,du]
 |i+1,h=>by
  have hl:i<(c.ig.map fun n=>cv n.toNat).length:=by simp[bW.ig];omega
  have hl2:i<c.ig.length:=by show i<3;omega
  rw[n6 _ _ _ hl,uU c i (by omega)];simp only[du];have e:(c.ig.map fun n=>cv n.toNat)[i]! =cv (c.ig[i]!).toNat:=by simp[hl2]
  rw[e];split
  ·simp
  ·obtain rfl:i=0:=by omega
   simp[du]
def yJ {c:bW}(h:c.parts≤3):(iq c).length=c.parts.toNat:=by
 simp[iq,bW.ig];omega
def vw {c:bW}(h:c.parts≤3):aP [46] (iq c)=du c c.parts.toNat:=uU c _ (by omega)
def qn {c:bW}(h0:0≤c.parts)(h:c.parts≤3):aP [46] (iq c++[[42]])=du c c.parts.toNat++((if 0<c.parts then [46]else [])++[42]):=by
 by_cases hp:0<c.parts
 ·rw[n5 _ _ _ (by intro hn;have:=congrArg List.length hn;rw[yJ h]at this;simp only[List.length_nil]at this;omega),vw h,if_pos hp];simp
 ·have:c.parts.toNat=0:=by omega
  rw[if_neg hp,this];have e:iq c=[]:=by simp[iq,this]
  rw[e];rfl
end Go.Abs
namespace Go.Abs
def opsL:List Int:=[2,4,6,1,3,5,7,8]
def n8 (s:ah)(i:Nat):Option Int:=(opsL.drop i).find? fun o=>pG s (bM o)
def iJ (s:ah):Int×ah:=match n8 s 0 with
 |some o=>(o,s.drop (bM o).length)
 |none=>if 0<s.length∧at8 s (s.length-1)=42 then(9,s)else(7,s)
def G7 {s:ah}{i:Nat}(h:i<8)(hb:pG s (bM opsL[i]!)=true):n8 s i=some opsL[i]! :=by
 have hl:i<opsL.length:=h;unfold n8;rw[List.drop_eq_getElem_cons hl,List.find?_cons];rw[show opsL[i]! =opsL[i]by simp[hl]]at hb⊢;rw[hb]
def G8 {s:ah}{i:Nat}(h:i<8)(hb:pG s (bM opsL[i]!)=false):n8 s i=n8 s (i+1):=by
 have hl:i<opsL.length:=h;unfold n8;rw[List.drop_eq_getElem_cons hl,List.find?_cons];rw[show opsL[i]! =opsL[i]by simp[hl]]at hb;rw[hb]
def EB {s:ah}{i:Nat}(h:8≤i):n8 s i=none:=by
 unfold n8;rw[List.drop_eq_nil_of_le h];rfl
def fo (s:ah)(i:Nat):ah×ah:=match(s.drop i).findIdx? (fun c=>c==45)with
 |some k=>(s.take (i+k),s.drop (i+k+1))
 |none=>(s,[])
def Hj {s:ah}{i:Nat}(h:i<s.length)(he:at8 s i=45):fo s i=(s.take i,s.drop (i+1)):=by
 unfold fo;rw[mU s i h,List.findIdx?_cons];have:s.getD i 0=45:=UInt8.toNat_inj.1 (by simp only[at8]at he;show(s.getD i 0).toNat=45;omega);rw[this];rfl
def Hk {s:ah}{i:Nat}(h:i<s.length)(he:¬at8 s i=45):fo s i=fo s (i+1):=by
 unfold fo;rw[mU s i h,List.findIdx?_cons];have:(s.getD i 0==45)=false:=by
  rw[beq_eq_false_iff_ne];intro e;exact he (by simp only[at8,e];rfl)
 rw[this];simp only[Bool.false_eq_true,if_false];cases(s.drop (i+1)).findIdx? (fun c=>c==45)with
 |none=>rfl
 |some k=>simp only[Option.map_some];rw[show i+(k+1)=i+1+k by omega]
def EU {s:ah}{i:Nat}(h:s.length≤i):fo s i=(s,[]):=by
 unfold fo;rw[List.drop_eq_nil_of_le h];rfl
end Go.Abs
namespace Go.Abs
def fm (l:List ah):Bool:=decide (l.length≤3)&&cj (fun i=>dL l[i]!) 0 l.length
def numV (l:List ah):dq:=⟨if 0<l.length then cT l[0]! else 0,if 1<l.length then cT l[1]! else 0,if 2<l.length then cT l[2]! else 0,[],[]⟩
end Go.Abs
namespace Go.Abs
def dk:bW:=⟨0,0,iK⟩
def Ig (op:Int)(l:List ah):List ah:=if op=9 then l.take (l.length-1)else l
def nC (op:Int)(l:List ah)(pre:ah):bW:=⟨op,(l.length:Nat),{numV l with pre:=pre}⟩
def Ez (s:ah)(op:Int)(l:List ah)(pre:ah):Bool:=fm l&& !(decide (cR (nC op l pre)=[]) ||(!decide (cR (nC op l pre)=s)&& !decide (cR (nC op l pre)=94::s)))
def eK (s:ah):Option bW:=
 let o:=iJ s
 let p:=fo o.2 0
 let l:=Ig o.1 (ai p.1 46)
 if Ez s o.1 l p.2=true then some (nC o.1 l p.2)else none
def Ap (s:ah):(iJ s).2.length≤s.length:=by
 unfold iJ;split
 ·simp
 ·split<;>exact Nat.le_refl _
def yh (s:ah):(fo s 0).1.length≤s.length∧(fo s 0).2.length≤s.length:=by
 unfold fo;split<;>simp<;>omega
end Go.Abs
namespace Go.Abs
def bU (s:ah):Int×ah:=match n8 s 0 with
 |some o=>(o,s.drop (bM o).length)
 |none=>(9,s)
def cO (s:ah):ah×ah:=fo (bU s).2 0
def cz (s:ah):List ah:=Ig (bU s).1 (ai (cO s).1 46)
def jz (s:ah):Prop:=(bU s).1=9→(ai (cO s).1 46)[(ai (cO s).1 46).length-1]! =[42]
instance (s:ah):Decidable (jz s):=by unfold jz;exact inferInstance
def cH (s:ah):bW:=nC (bU s).1 (cz s) (cO s).2
def dA (s:ah):Option bW:=if jz s∧fm (cz s)=true∧iA (cH s)=true∧cR (cH s)=s then some (cH s)else none
def Bb (l:List ah)(i:Nat):dq:=⟨if 0<i then cT l[0]! else 0,if 1<i then cT l[1]! else 0,if 2<i then cT l[2]! else 0,[],[]⟩
def CN (s:ah):(bU s).2.length≤s.length:=by
 unfold bU;split<;>simp
def fW {s:ah}(h:¬(jz s∧fm (cz s)=true∧iA (cH s)=true∧cR (cH s)=s)):dA s=none:=by
 unfold dA;rw[if_neg h]
end Go.Abs
namespace Go.Abs
def gy (s:ah):Option bW:=if(dA s).isSome=true then dA s else dA (94::s)
def yI (c:bW):aV:=.buf 1 [.str (cv c.v.major.toNat),.str (cv c.v.minor.toNat),.str (cv c.v.patch.toNat)]
def tw (c:bW):[D.str (cv c.v.major.toNat),D.str (cv c.v.minor.toNat),D.str (cv c.v.patch.toNat)].take c.parts.toNat=(iq c).map D.str:=by
 unfold iq bW.ig;rw[List.map_take];rfl
def HD {c:bW}{m:List (Nat×aV)}{l:Nat}(hl:look m l=some (yI c)):xV m [.sl 1 [.a]] (.own l 1 0 c.parts.toNat)=.sl 1 ((iq c).map D.str):=by
 show D.sl 1 _=_;simp only[aD,hl,yI,List.drop_zero,tw,List.map_map];congr 1
def Fu {c:bW}{m:List (Nat×aV)}{l:Nat}(h:c.parts≤3)(hl:look m l=some (yI c)):FP m [.sl 1 [.a]] (.own l 1 0 c.parts.toNat):=by
 simp only[FP,Io,Im];refine⟨by simp[dt,hl,yI];omega, ?_⟩;simp only[aD,hl,yI,List.drop_zero,tw];intro e he;obtain⟨x,_,rfl⟩:=List.mem_map.1 he;trivial
end Go.Abs
end
namespace Go.Abs
def mO {c:bW}(h:cR c≠[]):iA c=true∧cR c=hX c:=by
 unfold cR at h⊢;split at h
 ·rename_i hb;exact⟨hb,if_pos hb⟩
 ·exact absurd rfl h
def wy {s:ah}{op:Int}{l:List ah}{pre:ah}:Ez s op l pre=true↔fm l=true∧cR (nC op l pre)≠[]∧(cR (nC op l pre)=s∨cR (nC op l pre)=94::s):=by
 simp only[Ez,Bool.and_eq_true,Bool.not_eq_true',Bool.or_eq_false_iff,decide_eq_false_iff_not,Bool.and_eq_false_iff,Bool.not_eq_false',decide_eq_true_eq]
def p9 (c:UInt8):Prop:=c≠33∧c≠60∧c≠61∧c≠62∧c≠94∧c≠126
def lV {c:UInt8}(h:aM c.toNat=true):p9 c∧c≠42:=by
 simp only[aM,Bool.and_eq_true,decide_eq_true_eq]at h;refine⟨⟨?_, ?_, ?_, ?_, ?_, ?_⟩, ?_⟩<;>rintro rfl<;>revert h<;>decide
def yc {k:bW}:∀(i:Nat)(c:UInt8),c∈du k i→aM c.toNat=true∨c=46
 |0,c,h=>by simp[du]at h
 |i+1,c,h=>by
  simp only[du,List.mem_append]at h;rcases h with(h|h)|h
  ·exact yc i c h
  ·split at h
   ·exact .inr (List.mem_singleton.1 h)
   ·cases h
  ·exact .inl (lT _ c h)
def sO (k:bW):∀i,0<i→∃c r,du k i=c::r∧aM c.toNat=true
 |0,h=>by omega
 |1,_=>by
  have hd:=lT (k.ig[0]!).toNat;have hn:=Gj (k.ig[0]!).toNat;simp only[du,Nat.lt_irrefl,if_false,List.nil_append];generalize cv (k.ig[0]!).toNat=w at hd hn
  match w,hn with
  |c::r,_=>exact⟨c,r,rfl,hd c (.head _)⟩
 |i+2,_=>by
  obtain⟨c,r,h1,h2⟩:=sO k (i+1) (by omega);refine⟨c,r++(if 0<i+1 then [46]else [])++cv (k.ig[i+1]!).toNat, ?_,h2⟩;show du k (i+1)++_++_=_;rw[h1];simp
def BJ {c:bW}(h:iA c=true)(h9:c.op≠9):0<c.parts.toNat:=by
 simp only[iA,Bool.and_eq_true,decide_eq_true_eq]at h;have:=h.1.1.1.2;rw[if_neg h9]at this;omega
def CE {s:ah}{o:Int}(h:n8 s 0=some o):1≤o∧o≤8∧∃x t,s=x::t∧¬p9 x∧(x=94→o=7):=by
 have hm:=List.mem_of_find?_eq_some h;have hb:=List.find?_some h;simp only[pG,Bool.and_eq_true,decide_eq_true_eq]at hb;obtain⟨h1,h2⟩:=hb;have hne:s≠[]∨bM o=[]:=by
  by_cases e:s=[]
  ·right;subst e;simpa using h1
  ·exact .inl e
 simp only[opsL,List.drop_zero,List.mem_cons,List.not_mem_nil,or_false]at hm;have key:∀w:ah,w≠[]→s.take w.length=w→∃x t t',s=x::t∧w=x::t':=by
  intro w hw hs
  match w,hw with
  |x::t',_=>
   match s with
   |[]=>simp at hs
   |y::t=>
    simp only[List.length_cons,List.take_succ_cons,List.cons.injEq]at hs;exact⟨x,t,t',by rw[hs.1],rfl⟩
 rcases hm with rfl|rfl|rfl|rfl|rfl|rfl|rfl|rfl
 all_goals
  refine⟨by omega,by omega, ?_⟩;obtain⟨x,t,t',e1,e2⟩:=key _ (by decide) h2;have hxx:=congrArg (fun w:ah=>w.headD 0) e2;simp only[List.headD_cons]at hxx;refine⟨x,t,e1, ?_, ?_⟩
  ·rw[←hxx];unfold p9;decide
  ·rw[←hxx];decide
def sQ (t:ah):n8 (94::t) 0=some 7:=by
 unfold n8 opsL;have hn:∀w:ah,w≠[]→w.headD 0≠94→pG (94::t) w=false:=by
  intro w hw hx
  match w,hw with
  |x::r,_=>
   unfold pG;rw[Bool.and_eq_false_iff];right;rw[decide_eq_false_iff_not];intro h;simp only[List.length_cons,List.take_succ_cons,List.cons.injEq]at h;exact hx h.1.symm
 have hy:pG (94::t) (bM 7)=true:=by
  unfold pG;rw[show bM 7=[94]by decide];simp
 simp only[List.drop_zero,List.find?_cons,hn _ (show bM 2≠[]by decide) (by decide),hn _ (show bM 4≠[]by decide) (by decide),hn _ (show bM 6≠[]by decide) (by decide),hn _ (show bM 1≠[]by decide) (by decide),
  hn _ (show bM 3≠[]by decide) (by decide),hn _ (show bM 5≠[]by decide) (by decide),hy]
def ym (t:ah):bU (94::t)=(7,t):=by
 simp only[bU,sQ];rw[show bM 7=[94]by decide];rfl
def tp (b:Int):∀(s cur:ah),∃r l,bc b s cur=(cur++r)::l
 |[],cur=>⟨[],[],by simp[bc]⟩
 |c::s,cur=>by
  simp only[bc];split
  ·exact⟨[],_,by rw[List.append_nil]⟩
  ·obtain⟨r,l,h⟩:=tp b s (cur++[c]);exact⟨c::r,l,by rw[h];simp⟩
def CW {x:UInt8}{t:ah}(h:¬p9 x):fm (ai (fo (x::t) 0).1 46)=false:=by
 have hx:x≠45∧x≠46∧aM x.toNat=false:=by
  refine⟨?_, ?_, ?_⟩
  ·rintro rfl;exact h (by unfold p9;decide)
  ·rintro rfl;exact h (by unfold p9;decide)
  ·cases hd:aM x.toNat with
   |false=>rfl
   |true=>exact absurd (lV hd).1 h
 have hp:∃r,(fo (x::t) 0).1=x::r:=by
  unfold fo;rw[List.drop_zero,List.findIdx?_cons];rw[if_neg (by simpa using hx.1)];cases t.findIdx? (fun c=>c==45)with
  |none=>exact⟨t,rfl⟩
  |some k=>exact⟨t.take k,by simp⟩
 obtain⟨r,hr⟩:=hp;rw[hr];have h46:¬((x.toNat:Int)=46):=fun e=>hx.2.1 (UInt8.toNat_inj.1 (by show x.toNat=46;omega))
 obtain⟨q,l,hs⟩:=tp 46 r [x];have e:ai (x::r) 46=(x::q)::l:=by
  unfold ai;simp only[bc];rw[if_neg h46];simpa using hs
 rw[e];unfold fm;rw[Bool.and_eq_false_iff];right;rw[aK (by simp)];have hn:dL ((x::q)::l)[0]! =false:=by
  show dL (x::q)=false;rw[zZ];rw[aK (by simp)];have:aM (at8 (x::q) 0)=false:=by simpa[at8]using hx.2.2
  rw[this];simp
 rw[hn];rfl
def Ie {s:ah}(h:iJ s=bU s):eK s=if Ez s (bU s).1 (cz s) (cO s).2=true then some (cH s)else none:=by
 unfold eK;simp only[h];rfl
def tg {s:ah}:dA s=if jz s∧fm (cz s)=true∧iA (cH s)=true∧cR (cH s)=s then some (cH s)else none:=rfl
def CJ {s:ah}(h:∀c∈s,c≠45):fo s 0=(s,[]):=by
 unfold fo;rw[List.drop_zero,List.findIdx?_eq_none_iff.2 (fun c hc=>by simpa using h c hc)]
def vu {k:bW}(hb:iA k=true)(h9:k.op=9):hX k=aP [46] (iq k++[[42]]):=by
 obtain⟨_,h0,h3,_,_⟩:=ke hb;rw[qn h0 h3];unfold hX gD;rw[if_pos h9,h9];rfl
def mH {k:bW}{w:ah}(h:w∈iq k++[[42]]){c:UInt8}(hc:c∈w):aM c.toNat=true∨c=42:=by
 rcases List.mem_append.1 h with h|h
 ·have:=List.mem_of_mem_take h;obtain⟨n,_,rfl⟩:=List.mem_map.1 this;exact .inl (lT _ c hc)
 ·obtain rfl:=List.mem_singleton.1 h;exact .inr (List.mem_singleton.1 hc)
def vt {k:bW}{s:ah}(hb:iA k=true)(h9:k.op=9)(hs:hX k=s):(0<s.length∧at8 s (s.length-1)=42)∧fo s 0=(s,[])∧ai s 46=iq k++[[42]]:=by
 have ht:=vu hb h9;obtain⟨_,h0,h3,_,_⟩:=ke hb;rw[hs]at ht;have hch:∀c∈s,aM c.toNat=true∨c=42∨c=46:=by
  intro c hc;rw[ht]at hc;rcases mY 46 _ c hc with h|⟨w,hw,hcw⟩
  ·exact .inr (.inr h)
  ·rcases mH hw hcw with h|h
   ·exact .inl h
   ·exact .inr (.inl h)
 refine⟨?_,CJ (fun c hc=>?_), ?_⟩
 ·have he:∃q,s=q++[42]:=by
   rw[ht,qn h0 h3];exact⟨du k k.parts.toNat++(if 0<k.parts then [46]else []),by rw[List.append_assoc]⟩
  obtain⟨q,rfl⟩:=he;simp[at8]
 ·rintro rfl;rcases hch 45 hc with h|h|h
  ·revert h;decide
  ·revert h;decide
  ·revert h;decide
 ·rw[ht];refine qM (b:=46) (x:=46) rfl (by simp) fun w hw c hc=>?_
  rcases mH hw hc with h|h
  ·have:=(DL h).1;omega
  ·rw[h];decide
def sb {k:bW}{s:ah}(hb:iA k=true)(h7:k.op=7)(hs:hX k=94::s):(∀c∈s,c≠42)∧∃c r,s=c::r∧aM c.toNat=true:=by
 have hp:=BJ hb (by omega);have e:s=du k k.parts.toNat++gD k:=by
  unfold hX at hs;rw[h7,show bM 7=[94]by decide]at hs;simpa using hs.symm
 obtain⟨c,r,h1,h2⟩:=sO k _ hp;refine⟨fun c hc=>?_,c,r++gD k,by rw[e,h1];rfl,h2⟩;rw[e]at hc;rcases List.mem_append.1 hc with hc|hc
 ·rcases yc _ c hc with h|h
  ·exact(lV h).2
  ·rw[h];decide
 ·unfold gD at hc;rw[if_neg (by omega)]at hc;split at hc
  ·cases hc
  ·rcases List.mem_cons.1 hc with rfl|hc
   ·decide
   ·have hv:=(ke hb).1;simp only[eh,Bool.and_eq_true]at hv;rcases Fp hv.1.2 hc with h|h
    ·rintro rfl;revert h;decide
    ·rw[h];decide
def rQ {s:ah}:Ez s (bU s).1 (cz s) (cO s).2=true↔fm (cz s)=true∧cR (cH s)≠[]∧(cR (cH s)=s∨cR (cH s)=94::s):=wy
def DG (s:ah):gy s=eK s:=by
 have hcar:bU (94::s)=(7,s):=ym s;have hL7:cz (94::s)=ai (fo s 0).1 46:=by
  unfold cz cO;rw[hcar];rfl
 have hK7:cH (94::s)=nC 7 (ai (fo s 0).1 46) (fo s 0).2:=by
  unfold cH;rw[hL7];unfold cO;rw[hcar]
 cases ho:n8 s 0 with
 |some o=>
  obtain⟨o1,o8,x,t,hs,hx,hx94⟩:=CE ho;have hrw:bU s=(o,s.drop (bM o).length):=by simp only[bU,ho]
  have hsp:iJ s=bU s:=by rw[hrw];simp only[iJ,ho]
  have hstar:jz s:=by
   intro h;rw[hrw]at h;simp only at h;omega
  have hcn:dA (94::s)=none:=fW fun h=>by
   have:=h.2.1;rw[hL7,hs,CW hx]at this;cases this
  have hop:(cH s).op=o:=by show(bU s).1=o;rw[hrw]
  rw[Ie hsp];by_cases hk:fm (cz s)=true∧cR (cH s)=s
  ·have hne:cR (cH s)≠[]:=by rw[hk.2,hs];simp
   have hb:=(mO hne).1;have hr:dA s=some (cH s):=by rw[tg,if_pos ⟨hstar,hk.1,hb,hk.2⟩]
   have hok:Ez s (bU s).1 (cz s) (cO s).2=true:=rQ.2 ⟨hk.1,hne,.inl hk.2⟩;rw[if_pos hok];unfold gy;rw[hr];rfl
  ·have hr:dA s=none:=fW fun h=>hk ⟨h.2.1,h.2.2.2⟩
   have hok:¬Ez s (bU s).1 (cz s) (cO s).2=true:=fun h=>by
    obtain⟨h1,h2,h3⟩:=rQ.1 h;rcases h3 with h3|h3
    ·exact hk ⟨h1,h3⟩
    ·obtain⟨hb,he⟩:=mO h2;have h3':hX (cH s)=94::s:=by rw[←he];exact h3
     have h7:o=7:=by
      have hh:∃y w,bM o=y::w∧(y=94→o=7):=by
       have:o=1∨o=2∨o=3∨o=4∨o=5∨o=6∨o=7∨o=8:=by omega
       rcases this with rfl|rfl|rfl|rfl|rfl|rfl|rfl|rfl
       ·exact⟨61,[],by decide,by decide⟩
       ·exact⟨33,[61],by decide,by decide⟩
       ·exact⟨60,[],by decide,by decide⟩
       ·exact⟨60,[61],by decide,by decide⟩
       ·exact⟨62,[],by decide,by decide⟩
       ·exact⟨62,[61],by decide,by decide⟩
       ·exact⟨94,[],by decide,by decide⟩
       ·exact⟨126,[],by decide,by decide⟩
      obtain⟨y,w,e1,e2⟩:=hh;unfold hX at h3';rw[hop,e1]at h3';simp only[List.cons_append,List.cons.injEq]at h3';exact e2 h3'.1
     obtain⟨_,c,r,e1,e2⟩:=sb hb (by rw[hop];exact h7) h3';rw[hs]at e1;simp only[List.cons.injEq]at e1;rw[←e1.1]at e2;exact hx (lV e2).1
   rw[if_neg hok];unfold gy;rw[hr,if_neg (by simp),hcn]
 |none=>
  have hrw:bU s=(9,s):=by simp only[bU,ho]
  have h94:∀t,s≠94::t:=by
   rintro t rfl;rw[sQ]at ho;cases ho
  have hop:(cH s).op=9:=by show(bU s).1=9;rw[hrw]
  have hst7:jz (94::s):=by
   intro h;rw[hcar]at h;simp only at h;omega
  by_cases hl:0<s.length∧at8 s (s.length-1)=42
  ·have hsp:iJ s=bU s:=by rw[hrw];simp only[iJ,ho,if_pos hl]
   have hcn:dA (94::s)=none:=fW fun h=>by
    obtain⟨_,h2,h3,h4⟩:=h;have he:=(mO (c:=cH (94::s)) (by rw[h4];simp)).2;rw[h4]at he;have hno:=(sb h3 (by rw[hK7];rfl) he.symm).1;have hmem:s[s.length-1]'(by omega)∈s:=List.getElem_mem _;refine hno _ hmem (UInt8.toNat_inj.1 ?_);have:=hl.2;rw[vQ s _ (by omega)]at this;show _=42;omega
   rw[Ie hsp];by_cases hk:fm (cz s)=true∧cR (cH s)=s
   ·have hne:cR (cH s)≠[]:=by
     rw[hk.2];intro h;rw[h]at hl;simp at hl
    obtain⟨hb,he⟩:=mO hne;obtain⟨_,g2,g3⟩:=vt (s:=s) hb hop (he.symm.trans hk.2);have hstar:jz s:=by
     intro _;have hP:cO s=(s,[]):=by unfold cO;rw[hrw];exact g2
     rw[hP];simp only;rw[g3];simp
    have hr:dA s=some (cH s):=by rw[tg,if_pos ⟨hstar,hk.1,hb,hk.2⟩]
    have hok:Ez s (bU s).1 (cz s) (cO s).2=true:=rQ.2 ⟨hk.1,hne,.inl hk.2⟩;rw[if_pos hok];unfold gy;rw[hr];rfl
   ·have hr:dA s=none:=fW fun h=>hk ⟨h.2.1,h.2.2.2⟩
    have hok:¬Ez s (bU s).1 (cz s) (cO s).2=true:=fun h=>by
     obtain⟨h1,h2,h3⟩:=rQ.1 h;rcases h3 with h3|h3
     ·exact hk ⟨h1,h3⟩
     ·obtain⟨hb,he⟩:=mO h2;have h3':hX (cH s)=94::s:=by rw[←he];exact h3
      have ht:=vu hb hop;rw[h3']at ht;have hm:(94:UInt8)∈aP [46] (iq (cH s)++[[42]]):=by rw[←ht];simp
      rcases mY 46 _ _ hm with h|⟨w,hw,hcw⟩
      ·revert h;decide
      ·rcases mH hw hcw with h|h
       ·revert h;decide
       ·revert h;decide
    rw[if_neg hok];unfold gy;rw[hr,if_neg (by simp),hcn]
  ·have hsp:iJ s=(7,s):=by simp only[iJ,ho,if_neg hl]
   have hr:dA s=none:=fW fun h=>by
    obtain⟨h1,h2,h3,h4⟩:=h;have he:hX (cH s)=s:=(if_pos h3:cR (cH s)=hX (cH s)).symm.trans h4;exact hl (vt h3 hop he).1
   have h6:eK s=if Ez s 7 (ai (fo s 0).1 46) (fo s 0).2=true then some (cH (94::s))else none:=by
    unfold eK;simp only[hsp];rw[hK7];rfl
   have hRC:gy s=dA (94::s):=by
    unfold gy;rw[hr];rfl
   rw[hRC,h6,tg];by_cases hok:Ez s 7 (ai (fo s 0).1 46) (fo s 0).2=true
   ·rw[if_pos hok];obtain⟨h1,h2,h3⟩:=wy.1 hok;obtain⟨hb,he⟩:=mO h2;rcases h3 with h3|h3
    ·exfalso;rw[he]at h3;have hh:∃w,hX (nC 7 (ai (fo s 0).1 46) (fo s 0).2)=94::w:=by
      unfold hX;exact⟨_,rfl⟩
     obtain⟨w,hw⟩:=hh;exact h94 w (by rw[←h3,hw])
    ·rw[if_pos ⟨hst7,by rw[hL7];exact h1,by rw[hK7];exact hb,by rw[hK7];exact h3⟩]
   ·rw[if_neg hok,if_neg];rintro⟨_,g2,g3,g4⟩;rw[hK7]at g3 g4;rw[hL7]at g2;exact hok (wy.2 ⟨g2,by rw[g4];simp,.inr g4⟩)
abbrev Alt:=List bW
abbrev vO:=List Alt
def oC (a:Alt):D:=.sl 7 (a.map bW.D)
def zd (a:Alt):(oC a).aI=true:=rfl
def rE (l k:Nat)(es:List D)(r:List Alt):j6 l k es (r.map oC)=r.map oC:=su l k es _ (bn zd _)
def gT (r:vO):D:=.agg [.sl 1 (r.map oC)]
def k9 (a:Alt):Bool:=decide (1≤a.length)&&decide (a.length≤6)&&cj (fun k=>iA a[k]!) 0 a.length
def jV (r:vO):Bool:=decide (1≤r.length)&&decide (r.length≤6)&&cj (fun i=>k9 r[i]!) 0 r.length
def pD (a:Alt):ah:=aP [44,32] (a.map cR)
def CT (r:vO):ah:=aP [32,124,124,32] (r.map pD)
def bW.lo (c:bW):Prop:=c.v.pre.length≤1000∧c.v.build.length≤1000
def bW.lo.sm {c:bW}(h:c.lo):c.v.sm:=⟨Nat.le_trans h.1 (by decide),Nat.le_trans h.2 (by decide)⟩
def mE (r:vO):Prop:=∀a∈r,∀c∈a,c.lo
def xp {c:bW}(h:c.lo):(cR c).length≤1100:=by
 unfold cR;split
 ·rename_i hb;obtain⟨hv,h0,h3,_⟩:=ke hb;have h1:=qh c.op;have h2:=m4 hv c.parts.toNat;have ht:(gD c).length≤1001:=by
   unfold gD;have:=h.1;split
   ·split<;>simp
   ·split
    ·simp
    ·simp only[List.length_cons];omega
  simp only[hX,List.length_append];omega
 ·simp
def qD (b:ah)(M:Nat):∀(l:List ah),(∀t∈l,t.length≤M)→(aP b l).length≤l.length*(M+b.length)
 |[],_=>by simp[aP]
 |[t],h=>by
  have:=h t (.head _);simp only[aP,List.length_singleton,Nat.one_mul];omega
 |t::u::r,h=>by
  have h1:=h t (.head _);have h2:=qD b M (u::r) fun x hx=>h x (.tail _ hx)
  simp only[aP,List.length_append];simp only[List.length_cons,Nat.add_mul,Nat.one_mul]at h2⊢;omega
def Ds {a:Alt}(h:∀c∈a,c.lo)(hl:a.length≤6):(pD a).length≤6612:=by
 have:=qD [44,32] 1100 (a.map cR) (fun t ht=>by
  obtain⟨c,hc,rfl⟩:=List.mem_map.1 ht;exact xp (h c hc))
 simp only[List.length_map]at this;have h2:a.length*(1100+([44,32]:ah).length)≤6*1102:=Nat.mul_le_mul hl (by decide);unfold pD;omega
def DQ {r:vO}(h:jV r=true){i:Nat}(hi:i<r.length):k9 r[i]! =true:=by
 simp only[jV,Bool.and_eq_true,decide_eq_true_eq]at h;exact dr.1 h.2 i (by omega) hi
def BH {a:Alt}(h:k9 a=true):1≤a.length∧a.length≤6:=by
 simp only[k9,Bool.and_eq_true,decide_eq_true_eq]at h;exact h.1
def hE {α β:Type} [Inhabited α](f:α→β)(l:List α){i:Nat}(h:i<l.length):(l.map f).take (i+1)=(l.map f).take i++[f l[i]!]:=by
 rw[List.take_add_one];simp[h]
def pZ (r:vO):Bool:=jV r&&decide ((CT r).length≤96)
def vb (r:vO):ah:=if pZ r=true then CT r else []
def aJ:ah→ah→List ah
 |[],cur=>[cur]
 |[c],cur=>[cur++[c]]
 |c::d::r,cur=>if c=124∧d=124 then cur::aJ r []else aJ (d::r) (cur++[c])
def oE:ah→ah
 |[]=>[]
 |c::r=>if c=32 then oE r else c::r
def dZ (s:ah):ah:=(oE (oE s).reverse).reverse
def j8:∀s,(oE s).length≤s.length
 |[]=>Nat.le_refl _
 |c::r=>by
  unfold oE;split
  ·have:=j8 r;simp only[List.length_cons];omega
  ·exact Nat.le_refl _
def uq (s:ah):(dZ s).length≤s.length:=by
 have h1:=j8 s;have h2:=j8 (oE s).reverse;simp only[List.length_reverse]at h2;simp only[dZ,List.length_reverse];omega
def kW:∀(s cur:ah),(aJ s cur).length≤s.length+1∧(∀t∈aJ s cur,t.length≤cur.length+s.length)
 |[],cur=>by simp[aJ]
 |[c],cur=>by simp[aJ]
 |c::d::r,cur=>by
  unfold aJ;split
  ·have:=kW r [];refine⟨by simp only[List.length_cons];omega,fun t ht=>?_⟩;rcases List.mem_cons.1 ht with rfl|ht
   ·simp
   ·have:=this.2 t ht;simp only[List.length_nil,List.length_cons]at this⊢;omega
  ·have:=kW (d::r) (cur++[c]);refine⟨by have:=this.1;simp only[List.length_cons]at this⊢;omega,fun t ht=>?_⟩;have:=this.2 t ht;simp only[List.length_append,List.length_cons,List.length_nil]at this⊢;omega
def wOK (t:ah):Bool:=cj (fun k=>(eK (dZ (ai t 44)[k]!)).isSome) 0 (ai t 44).length
def Bl (s:ah):Bool:=cj (fun i=>wOK (aJ s [])[i]!) 0 (aJ s []).length
def pE (t:ah):Alt:=(ai t 44).map fun x=>(eK (dZ x)).getD dk
def j4 (s:ah):vO:=(aJ s []).map pE
def iI (s:ah):vO×Int:=
 if 96<s.length then([],3)else if Bl s=false then([],6)else if jV (j4 s)=false then([],6)else if 96<(CT (j4 s)).length then([],3)else(j4 s,0)
def m5 (s:ah):Bool:=decide ((iI s).2=0)&&decide (vb (iI s).1=s)
def DF {s:ah}(h:s.length≤1000):((eK s).getD dk).lo:=by
 unfold eK;simp only;split
 ·have h1:=Ap s;have h2:=yh (iJ s).2;exact⟨by show(fo (iJ s).2 0).2.length≤1000;omega,by show([]:ah).length≤1000;decide⟩
 ·exact⟨by show([]:ah).length≤1000;decide,by show([]:ah).length≤1000;decide⟩
def Bm {s:ah}(h:s.length≤1000):mE (j4 s):=by
 intro a ha c hc;obtain⟨t,ht,rfl⟩:=List.mem_map.1 ha;obtain⟨x,hx,rfl⟩:=List.mem_map.1 hc;have h1:=(kW s []).2 t ht;have h2:=dd t 44 hx;have h3:=uq x;simp only[List.length_nil]at h1;exact DF (by omega)
def Hx {s:ah}:mE (iI s).1∧((iI s).2=0→jV (iI s).1=true):=by
 unfold iI;split
 ·exact⟨(fun a ha=>by cases ha),fun h=>by cases h⟩
 ·split
  ·exact⟨(fun a ha=>by cases ha),fun h=>by cases h⟩
  ·split
   ·exact⟨(fun a ha=>by cases ha),fun h=>by cases h⟩
   ·rename_i hf;split
    ·exact⟨(fun a ha=>by cases ha),fun h=>by cases h⟩
    ·exact⟨Bm (by omega),fun _=>by simpa using hf⟩
def Nd.eq (a b:Nd):eV (Nd.D a).cells (Nd.D b).cells=decide (a=b):=by
 obtain⟨a1,a2,a3,a4,a5⟩:=a;obtain⟨b1,b2,b3,b4,b5⟩:=b;simp only[Nd.D,D.cells,eV,oP,rB,Nd.mk.injEq,Bool.and_true];simp only[Bool.decide_and]
def gw (n:Nd):Bool:=decide (n.key=0)&&decide (n.text=[])
def nH (n:Nd):Bool:=decide (n.op=1)&&decide (0≤n.key)&&decide (n.key<3)&&bI n.text&&decide (n.a=0)&&decide (n.b=0)
def gC (n:Nd)(i:Nat)(o:List Int):Option (List Int):=
 if nH n=true then some (o++[(i:Int)])
 else if(((n.op=2∧gw n=true)∧0<o.length)∧n.a=o[o.length-1]!)∧n.b=0 then some (o.take (o.length-1)++[(i:Int)])
 else if((((n.op=3∨n.op=4)∧gw n=true)∧1<o.length)∧n.a=o[o.length-2]!)∧n.b=o[o.length-1]! then some (o.take (o.length-2)++[(i:Int)])
 else none
def jM:List Nd→Nat→List Int→Option (List Int)
 |[],_,o=>some o
 |n::r,i,o=>match gC n i o with
  |some o'=>jM r (i+1) o'
  |none=>none
def mI (l:List Nd):Bool:=match jM l 0 []with
 |some o=>decide (l.length=0) ||decide (o.length=1)
 |none=>false
def uy {α:Type} [Inhabited α](l:List α){i:Nat}(h:i<l.length):l.drop i=l[i]! ::l.drop (i+1):=by
 rw[List.drop_eq_getElem_cons h];simp[h]
def jv {l:List Nd}{i:Nat}{o o':List Int}(h:i<l.length)(hs:gC l[i]! i o=some o'):jM (l.drop i) i o=jM (l.drop (i+1)) (i+1) o':=by
 rw[uy l h];simp only[jM,hs]
def dU {l:List Nd}{i:Nat}{o:List Int}(h:i<l.length)(hs:gC l[i]! i o=none):jM (l.drop i) i o=none:=by
 rw[uy l h];simp only[jM,hs]
def CH {l:List Nd}{i:Nat}{o:List Int}(h:l.length≤i):jM (l.drop i) i o=some o:=by
 rw[List.drop_eq_nil_of_le h];rfl
def Fw {l:List Nd}(h:jM l 0 []=none):mI l=false:=by simp only[mI,h]
def fH {l:List Nd}(h:jM l 0 []=none):(true&&mI l)=false:=by rw[Fw h];rfl
def wV (S:List Int):Int→List Int→Prop
 |e,[]=>e=0
 |e,t::r=>t=e-1∧0≤t∧0≤S[t.toNat]! ∧S[t.toNat]! ≤t∧wV S S[t.toNat]! r
def vV {S:List Int}{i:Nat}{v:Int}:∀{r:List Int}{e:Int},e≤i→wV S e r→wV (S.set i v) e r
 |[],e,_,h=>h
 |t::r,e,he,⟨h1,h2,h3,h4,h5⟩=>by
  have hg:(S.set i v)[t.toNat]! =S[t.toNat]! :=by
   have:i≠t.toNat:=by omega
   simp[List.getElem?_set,this]
  exact⟨h1,h2,by rw[hg];exact h3,by rw[hg];exact h4,by rw[hg];exact vV (by omega) h5⟩
def Hz {S:List Int}{i:Nat}{v:Int}(h:i<S.length):(S.set i v)[i]! =v:=by
 simp[h]
def oI {S:List Int}{i:Nat}{v:Int}{r:List Int}(h:i<S.length)(h0:0≤v)(h1:v≤i)(hc:wV S v r):wV (S.set i v) ((i+1:Nat):Int) ((i:Int)::r):=by
 have hg:(S.set i v)[((i:Nat):Int).toNat]! =v:=by rw[Int.toNat_natCast];exact Hz h
 exact⟨by omega,by omega,by rw[hg];exact h0,by rw[hg];exact h1,by rw[hg];exact vV (by omega) hc⟩
def oJ {S:List Int}{i:Nat}{o:List Int}(h:wV S (i:Nat) o.reverse):(0<o.length↔1≤i)∧(1≤i→o[o.length-1]! =(i:Int) -1∧0≤S[i-1]! ∧S[i-1]! ≤(i:Int) -1∧wV S S[i-1]! (o.take (o.length-1)).reverse):=by
 rcases List.eq_nil_or_concat o with rfl|⟨p,t,rfl⟩
 ·have h:((i:Nat):Int)=0:=h;exact⟨⟨fun h=>absurd h (by simp),fun h2=>by omega⟩,fun h2=>by omega⟩
 ·rw[List.concat_eq_append,List.reverse_append,List.reverse_singleton,List.singleton_append]at h;obtain⟨h1,h2,h3,h4,h5⟩:=h;have ht:t.toNat=i-1:=by omega
  rw[ht]at h3 h4 h5;rw[List.concat_eq_append];refine⟨⟨fun _=>by omega,fun _=>by simp⟩,fun _=>⟨by simp[h1],h3,by omega, ?_⟩⟩;rw[List.take_append_of_le_length (by simp),List.take_of_length_le (by simp)];exact h5
def vW {S:List Int}{i:Nat}{o:List Int}(h:wV S (i:Nat) o.reverse):(1<o.length↔1≤i∧1≤S[i-1]!)∧(1<o.length→o[o.length-2]! =S[i-1]! -1∧0≤S[(S[i-1]! -1).toNat]! ∧S[(S[i-1]! -1).toNat]! ≤S[i-1]! -1∧wV S S[(S[i-1]! -1).toNat]! (o.take (o.length-2)).reverse):=by
 obtain⟨h1,h2⟩:=oJ h;by_cases hi:1≤i
 ·obtain⟨g1,g2,g3,g4⟩:=h2 hi;have hl:=h1.2 hi;rcases List.eq_nil_or_concat o with rfl|⟨p,t,rfl⟩
  ·simp at hl
  ·rw[List.concat_eq_append]at g4⊢;rw[List.take_append_of_le_length (by simp),List.take_of_length_le (by simp)]at g4;rcases List.eq_nil_or_concat p with rfl|⟨q,u,rfl⟩
   ·have g4:S[i-1]! =0:=g4;exact⟨⟨fun h=>absurd h (by simp),fun h=>by omega⟩,fun h=>absurd h (by simp)⟩
   ·rw[List.concat_eq_append]at g4⊢;rw[List.reverse_append,List.reverse_singleton,List.singleton_append]at g4;obtain⟨k1,k2,k3,k4,k5⟩:=g4;subst k1;refine⟨⟨fun _=>⟨hi,by omega⟩,fun _=>by simp⟩,fun _=>⟨by simp,k3,k4, ?_⟩⟩;rw[List.append_assoc,List.take_append_of_le_length (by simp),List.take_of_length_le (by simp)];exact k5
 ·have:¬0<o.length:=fun h=>hi (h1.1 h)
  exact⟨⟨fun h=>by omega,fun h=>absurd h.1 hi⟩,fun h=>by omega⟩
def Fx {S:List Int}{n:Nat}{o:List Int}(t1:0<o.length↔1≤n)(t2:1≤n→o[o.length-1]! =(n:Int) -1∧0≤S[n-1]! ∧S[n-1]! ≤(n:Int) -1∧wV S S[n-1]! (o.take (o.length-1)).reverse)(u1:1<o.length↔1≤n∧1≤S[n-1]!):
  (decide (n=0) ||decide (o.length=1))=(decide ((n:Nat)=(0:Int)) ||decide (S[n-1]! =0)):=by
 rw[Bool.eq_iff_iff];simp only[Bool.or_eq_true,decide_eq_true_eq];constructor
 ·rintro(h|h)
  ·left;omega
  ·by_cases hn:1≤n
   ·have:=t2 hn;right;omega
   ·left;omega
 ·rintro(h|h)
  ·left;omega
  ·by_cases hn:1≤n
   ·right;omega
   ·left;omega
def sG {n:Nd}(h:nH n=true):n.op=1:=by simp only[nH,Bool.and_eq_true,decide_eq_true_eq]at h;exact h.1.1.1.1.1
def At {n:Nd}{i:Nat}{o:List Int}(h:nH n=true):gC n i o=some (o++[(i:Int)]):=if_pos h
def wL {n:Nd}{i:Nat}{o:List Int}(h1:n.op=1)(h:nH n=false):gC n i o=none:=by
 unfold gC;rw[if_neg (by simp[h]),if_neg (by rintro⟨⟨⟨⟨h,_⟩,_⟩,_⟩,_⟩;omega),if_neg (by rintro⟨⟨⟨⟨h|h,_⟩,_⟩,_⟩,_⟩<;>omega)]
def yF {n:Nd}{i:Nat}{o:List Int}(h1:n.op≠1)(h2:n.op≠2)(h3:n.op≠3)(h4:n.op≠4):gC n i o=none:=by
 unfold gC;rw[if_neg (fun h=>h1 (sG h)),if_neg (by rintro⟨⟨⟨⟨h,_⟩,_⟩,_⟩,_⟩;exact h2 h),if_neg (by rintro⟨⟨⟨⟨h|h,_⟩,_⟩,_⟩,_⟩;exact h3 h;exact h4 h)]
def qm {S:List Int}{n:Nd}{i:Nat}{o:List Int}(hc:wV S (i:Nat) o.reverse)(h2:n.op=2):gC n i o=if(1≤i∧n.a=(i:Int) -1∧n.b=0)∧gw n=true then some (o.take (o.length-1)++[(i:Int)])else none:=by
 obtain⟨t1,t2⟩:=oJ hc;unfold gC;rw[if_neg (fun h=>by have:=sG h;omega)];by_cases hk:(1≤i∧n.a=(i:Int) -1∧n.b=0)∧gw n=true
 ·rw[if_pos hk,if_pos ⟨⟨⟨⟨h2,hk.2⟩,t1.2 hk.1.1⟩,by rw[(t2 hk.1.1).1];exact hk.1.2.1⟩,hk.1.2.2⟩]
 ·rw[if_neg hk,if_neg,if_neg (by rintro⟨⟨⟨⟨h|h,_⟩,_⟩,_⟩,_⟩<;>omega)];rintro⟨⟨⟨⟨_,g1⟩,g2⟩,g3⟩,g4⟩;have hi:=t1.1 g2;exact hk ⟨⟨hi,by rw[g3];exact(t2 hi).1,g4⟩,g1⟩
def jh {S:List Int}{n:Nd}{i:Nat}{o:List Int}(hc:wV S (i:Nat) o.reverse)(h2:n.op=3∨n.op=4):gC n i o=if(2≤i∧n.b=(i:Int) -1∧1≤S[i-1]! ∧n.a=S[i-1]! -1)∧gw n=true then some (o.take (o.length-2)++[(i:Int)])else none:=by
 obtain⟨t1,t2⟩:=oJ hc;obtain⟨u1,u2⟩:=vW hc;unfold gC;rw[if_neg (fun h=>by have:=sG h;omega),if_neg (by rintro⟨⟨⟨⟨h,_⟩,_⟩,_⟩,_⟩;omega)];by_cases hk:(2≤i∧n.b=(i:Int) -1∧1≤S[i-1]! ∧n.a=S[i-1]! -1)∧gw n=true
 ·have hl:=u1.2 ⟨by omega,hk.1.2.2.1⟩;rw[if_pos hk,if_pos ⟨⟨⟨⟨h2,hk.2⟩,hl⟩,by rw[(u2 hl).1];exact hk.1.2.2.2⟩,by rw[(t2 (by omega)).1];exact hk.1.2.1⟩]
 ·rw[if_neg hk,if_neg];rintro⟨⟨⟨⟨_,g1⟩,g2⟩,g3⟩,g4⟩;obtain⟨hi,hS⟩:=u1.1 g2;obtain⟨w1,w2,w3,_⟩:=t2 hi;exact hk ⟨⟨by omega,by rw[g4];exact w1,hS,by rw[g3];exact(u2 g2).1⟩,g1⟩
def fk (l:List Nd):Prop:=∀j,j<l.length→(l[j]!.op=1→0≤l[j]!.key∧l[j]!.key<3∧l[j]!.text.length≤12)∧(l[j]!.op≠1→0≤l[j]!.a∧l[j]!.a<j)∧(l[j]!.op≠1→l[j]!.op≠2→0≤l[j]!.b∧l[j]!.b<j)
def z8 {l:List Nd}:∀(k i:Nat)(o o':List Int),i+k=l.length→(∀x∈o,0≤x∧x<(i:Int))→jM (l.drop i) i o=some o'→
  ∀j,i≤j→j<l.length→(l[j]!.op=1→0≤l[j]!.key∧l[j]!.key<3∧l[j]!.text.length≤12)∧(l[j]!.op≠1→0≤l[j]!.a∧l[j]!.a<j)∧(l[j]!.op≠1→l[j]!.op≠2→0≤l[j]!.b∧l[j]!.b<j):=by
 intro k;induction k with
 |zero=>intro i o o' h1 h2 h3 j h4 h5;omega
 |succ k ih=>
  intro i o o' h1 h2 h3 j h4 h5;have hi:i<l.length:=by omega
  cases hs:gC l[i]! i o with
  |none=>rw[dU hi hs]at h3;cases h3
  |some o2=>
   rw[jv hi hs]at h3;have hm:∀m,0<m→m≤o.length→0≤o[o.length-m]! ∧o[o.length-m]! <(i:Int):=fun m hm1 hm2=>h2 _ (bG (by omega))
   have hsub:∀m,∀x∈o.take m++[(i:Int)],0≤x∧x<((i+1:Nat):Int):=fun m x hx=>by
    rcases List.mem_append.1 hx with hx|hx
    ·have:=h2 x (List.mem_of_mem_take hx);omega
    ·simp only[List.mem_singleton]at hx;omega
   unfold gC at hs;split at hs
   ·rename_i hl;cases hs;rcases Nat.lt_or_ge i j with hj|hj
    ·exact ih (i+1) _ o' (by omega) (by have:=hsub o.length;rwa [List.take_of_length_le (Nat.le_refl _)]at this) h3 j hj h5
    ·obtain rfl:i=j:=by omega
     simp only[nH,Bool.and_eq_true,decide_eq_true_eq]at hl;have hw:=hl.1.1.2;simp only[bI,Bool.and_eq_true,decide_eq_true_eq]at hw;exact⟨fun _=>⟨hl.1.1.1.1.2,hl.1.1.1.2,hw.1.2⟩,fun h=>absurd hl.1.1.1.1.1 h,fun h=>absurd hl.1.1.1.1.1 h⟩
   ·split at hs
    ·rename_i hl;cases hs;rcases Nat.lt_or_ge i j with hj|hj
     ·exact ih (i+1) _ o' (by omega) (hsub _) h3 j hj h5
     ·obtain rfl:i=j:=by omega
      obtain⟨⟨⟨⟨g1,g2⟩,g3⟩,g4⟩,g5⟩:=hl;have:=hm 1 (by omega) (by omega);exact⟨fun h=>by omega,fun _=>by rw[g4];exact this,fun _ h=>absurd g1 h⟩
    ·split at hs
     ·rename_i hl;cases hs;rcases Nat.lt_or_ge i j with hj|hj
      ·exact ih (i+1) _ o' (by omega) (hsub _) h3 j hj h5
      ·obtain rfl:i=j:=by omega
       obtain⟨⟨⟨⟨g1,g2⟩,g3⟩,g4⟩,g5⟩:=hl;have q1:=hm 1 (by omega) (by omega);have q2:=hm 2 (by omega) (by omega);exact⟨fun h=>by omega,fun _=>by rw[g4];exact q2,fun _ _=>by rw[g5];exact q1⟩
     ·cases hs
def tx {l:List Nd}(h:mI l=true):fk l:=by
 unfold mI at h;cases ho:jM l 0 []with
 |none=>rw[ho]at h;cases h
 |some o=>exact fun j hj=>z8 l.length 0 [] o (by omega) (by simp) ho j (Nat.zero_le _) hj
def A5 {n:Nd}(h:n.op=1):nH n=!((((decide (n.key<0) ||decide (3≤n.key)) ||!bI n.text) ||!decide (n.a=0)) ||!decide (n.b=0)):=by
 simp only[nH,h,decide_true,Bool.true_and];rw[show decide (n.key<0)=!decide (0≤n.key)from by rw[←decide_not];exact decide_eq_decide.2 (by omega),show decide (3≤n.key)=!decide (n.key<3)from by rw[←decide_not];exact decide_eq_decide.2 (by omega)];generalize decide (0≤n.key)=a;generalize decide (n.key<3)=b;generalize bI n.text=c;generalize decide (n.a=0)=d;generalize decide (n.b=0)=e;cases a<;>cases b<;>cases c<;>cases d<;>cases e<;>rfl
def rT {S:List Int}{i:Nat}(h:i<S.length)(v:Int):(S.map (D.int .i64)).set (0+i) (tu ((S.map (D.int .i64)).getD (0+i) .any) 1 1 0 (.int .i64 v))=(S.set i v).map (D.int .i64):=by
 rw[Nat.zero_add,getD_map (q:=D.int .i64) h,List.map_set];rfl
abbrev HS:=List Nd
def jC (m:HS):D:=.agg [.sl 5 (m.map Nd.D)]
def lr:List ah:=[[111,115],[97,114,99,104],[97,98,105]]
def wj (k:Int):ah:=if k=0 then [111,115]else if k=1 then [97,114,99,104]else [97,98,105]
def jB (s:ah)(b:Bool):ah:=if b=true then [40,32]++s++[32,41]else s
def mJ (l:List Nd):Nat→Int→ah
 |0,_=>[]
 |f+1,i=>
  if l[i.toNat]!.op=1 then wj l[i.toNat]!.key++[32,61,32]++l[i.toNat]!.text
  else if l[i.toNat]!.op=2 then
   if l[l[i.toNat]!.a.toNat]!.op=1 then wj l[l[i.toNat]!.a.toNat]!.key++[32,33,61,32]++l[l[i.toNat]!.a.toNat]!.text
   else [110,111,116,32]++jB (mJ l f l[i.toNat]!.a) (!decide (l[l[i.toNat]!.a.toNat]!.op=2))
  else if l[i.toNat]!.op=3 then jB (mJ l f l[i.toNat]!.a) (decide (l[l[i.toNat]!.a.toNat]!.op=4))++[32,97,110,100,32]++jB (mJ l f l[i.toNat]!.b) (decide (l[l[i.toNat]!.b.toNat]!.op=4) ||decide (l[l[i.toNat]!.b.toNat]!.op=3))
  else mJ l f l[i.toNat]!.a++[32,111,114,32]++jB (mJ l f l[i.toNat]!.b) (decide (l[l[i.toNat]!.b.toNat]!.op=4))
def j5 (l:List Nd)(i:Int):ah:=mJ l (i.toNat+1) i
def rX {l:List Nd}(hk:fk l):∀(f g:Nat)(i:Int),0≤i→i<l.length→i<f→i<g→mJ l f i=mJ l g i
 |0,_,_,_,_,h,_=>by omega
 |_,0,_,_,_,_,h=>by omega
 |f+1,g+1,i,h0,h1,h2,h3=>by
  obtain⟨k1,k2,k3⟩:=hk i.toNat (by omega);simp only[mJ];by_cases e1:l[i.toNat]!.op=1
  ·rw[if_pos e1,if_pos e1]
  ·rw[if_neg e1,if_neg e1];have ka:=k2 e1;rw[rX hk f g l[i.toNat]!.a (by omega) (by omega) (by omega) (by omega)];by_cases e2:l[i.toNat]!.op=2
   ·rw[if_pos e2,if_pos e2]
   ·have kb:=k3 e1 e2;rw[rX hk f g l[i.toNat]!.b (by omega) (by omega) (by omega) (by omega)]
def HF {l:List Nd}(hk:fk l){i:Int}(h0:0≤i)(h1:i<l.length):j5 l i=
  if l[i.toNat]!.op=1 then wj l[i.toNat]!.key++[32,61,32]++l[i.toNat]!.text
  else if l[i.toNat]!.op=2 then
   if l[l[i.toNat]!.a.toNat]!.op=1 then wj l[l[i.toNat]!.a.toNat]!.key++[32,33,61,32]++l[l[i.toNat]!.a.toNat]!.text
   else [110,111,116,32]++jB (j5 l l[i.toNat]!.a) (!decide (l[l[i.toNat]!.a.toNat]!.op=2))
  else if l[i.toNat]!.op=3 then jB (j5 l l[i.toNat]!.a) (decide (l[l[i.toNat]!.a.toNat]!.op=4))++[32,97,110,100,32]++jB (j5 l l[i.toNat]!.b) (decide (l[l[i.toNat]!.b.toNat]!.op=4) ||decide (l[l[i.toNat]!.b.toNat]!.op=3))
  else j5 l l[i.toNat]!.a++[32,111,114,32]++jB (j5 l l[i.toNat]!.b) (decide (l[l[i.toNat]!.b.toNat]!.op=4)):=by
 obtain⟨k1,k2,k3⟩:=hk i.toNat (by omega)
 conv=>lhs;unfold j5
 simp only[mJ];by_cases e1:l[i.toNat]!.op=1
 ·rw[if_pos e1,if_pos e1]
 ·rw[if_neg e1,if_neg e1];have ka:=k2 e1;rw[show mJ l i.toNat l[i.toNat]!.a=j5 l l[i.toNat]!.a from rX hk _ _ _ (by omega) (by omega) (by omega) (by omega)];by_cases e2:l[i.toNat]!.op=2
  ·rw[if_pos e2,if_pos e2]
  ·have kb:=k3 e1 e2;rw[show mJ l i.toNat l[i.toNat]!.b=j5 l l[i.toNat]!.b from rX hk _ _ _ (by omega) (by omega) (by omega) (by omega)]
def ng (s:ah)(b:Bool):(jB s b).length≤s.length+4:=by
 unfold jB;split<;>simp
def uK {k:Int}(h0:0≤k)(h3:k<3):lr[k.toNat]! =wj k:=by
 obtain rfl|rfl|rfl:k=0∨k=1∨k=2:=by omega
 ·rfl
 ·rfl
 ·rfl
def oX (k:Int):(wj k).length≤4:=by
 unfold wj;split
 ·decide
 ·split<;>decide
def tz {l:List Nd}(hk:fk l):∀(f:Nat)(i:Int),0≤i→i<l.length→(mJ l f i).length+20≤20*2^(f+1)
 |0,i,_,_=>by simp[mJ]
 |f+1,i,h0,h1=>by
  obtain⟨k1,k2,k3⟩:=hk i.toNat (by omega);have hp:20*2^(f+1+1)=20*2^(f+1)+20*2^(f+1):=by rw[Nat.pow_succ 2 (f+1)];omega
  have h1p:1≤2^(f+1):=Nat.one_le_two_pow;simp only[mJ];by_cases e1:l[i.toNat]!.op=1
  ·rw[if_pos e1];have:=oX l[i.toNat]!.key;have:=k1 e1;simp only[List.length_append,List.length_cons,List.length_nil];omega
  ·rw[if_neg e1];have ka:=k2 e1;have la:=tz hk f l[i.toNat]!.a (by omega) (by omega);have wa:=fun b=>ng (mJ l f l[i.toNat]!.a) b
   by_cases e2:l[i.toNat]!.op=2
   ·rw[if_pos e2];split
    ·rename_i e3;have:=oX l[l[i.toNat]!.a.toNat]!.key;have:=((hk l[i.toNat]!.a.toNat (by omega)).1 e3).2.2;simp only[List.length_append,List.length_cons,List.length_nil];omega
    ·have:=wa (!decide (l[l[i.toNat]!.a.toNat]!.op=2));simp only[List.length_append,List.length_cons,List.length_nil];omega
   ·rw[if_neg e2];have kb:=k3 e1 e2;have lb:=tz hk f l[i.toNat]!.b (by omega) (by omega);have wb:=fun b=>ng (mJ l f l[i.toNat]!.b) b
    split
    ·have:=wa (decide (l[l[i.toNat]!.a.toNat]!.op=4));have:=wb (decide (l[l[i.toNat]!.b.toNat]!.op=4) ||decide (l[l[i.toNat]!.b.toNat]!.op=3));simp only[List.length_append,List.length_cons,List.length_nil];omega
    ·have:=wb (decide (l[l[i.toNat]!.b.toNat]!.op=4));simp only[List.length_append,List.length_cons,List.length_nil];omega
def tA {l:List Nd}(hk:fk l)(hl:l.length≤15){i:Int}(h0:0≤i)(h1:i<l.length):(j5 l i).length≤1310720:=by
 have h:=tz hk (i.toNat+1) i h0 h1;have:2^(i.toNat+1+1)≤2^16:=Nat.pow_le_pow_right (by omega) (by omega);unfold j5;omega
def ov (l:List Nd):ah:=if l.length=0 then []else j5 l ((l.length:Int) -1)
def ua (l:List Nd):Bool:=(decide (l.length≤15)&&mI l)&&decide ((ov l).length≤96)
def KB (l:List Nd):ah:=if ua l=true then ov l else []
abbrev PR:=Option (Int×List ah×List Nd)
def wi (k:ah):Int:=if k=[111,115]then 0 else if k=[97,114,99,104]then 1 else if k=[97,98,105]then 2 else-1
def zh (k s v:ah):Bool:=(decide (0≤wi k)&&bI v)&&(decide (s=[61]) ||decide (s=[33,61]))
def xi (k s v:ah)(r:List ah)(nd:List Nd):Int×List ah×List Nd:=
 if s=[33,61]then(((nd++[(⟨1,0,0,wi k,v⟩:Nd)]).length:Nat),r,(nd++[⟨1,0,0,wi k,v⟩])++[⟨2,(nd.length:Nat),0,0,[]⟩])
 else((nd.length:Nat),r,nd++[⟨1,0,0,wi k,v⟩])
def qt (k:ah)(w:List ah)(nd:List Nd):PR:=match w with
 |s::v::r=>if zh k s v=true then some (xi k s v r nd)else none
 |_=>none
def gA (part:List ah→List Nd→PR)(wd:ah)(op:Int):Nat→Int→List ah→List Nd→PR
 |0,a,w,nd=>some (a,w,nd)
 |f+1,a,w,nd=>match w with
  |[]=>some (a,w,nd)
  |x::r=>if x=wd then(match part r nd with
    |none=>none
    |some (b,w',nd')=>gA part wd op f (nd'.length:Nat) w' (nd'++[⟨op,a,b,0,[]⟩]))
   else some (a,w,nd)
def eM (part:List ah→List Nd→PR)(wd:ah)(op:Int)(w:List ah)(nd:List Nd):PR:=match part w nd with
 |none=>none
 |some (a,w',nd')=>gA part wd op w'.length a w' nd'
def vz:ah:=[110,111,116]
def kZ:ah:=[40]
def rY:ah:=[41]
def qO:ah:=[97,110,100]
def yO:ah:=[111,114]
def nR (r:PR):PR:=match r with
 |some (a,x::w',nd')=>if x=rY then some (a,w',nd')else none
 |_=>none
def JH (r:PR):PR:=match r with
 |some (a,w',nd')=>some ((nd'.length:Nat),w',nd'++[⟨2,a,0,0,[]⟩])
 |none=>none
def nr:Nat→List ah→List Nd→PR
 |0,_,_=>none
 |f+1,w,nd=>match w with
  |[]=>none
  |k::r=>if k=vz then JH (nr f r nd)
   else if k=kZ then nR (eM (eM (nr f) qO 3) yO 4 r nd)
   else qt k r nd
def PB (w:List ah)(nd:List Nd)(w':List ah)(nd':List Nd):Prop:=w'.length≤w.length∧nd'.length+2*w'.length≤nd.length+2*w.length∧w'<:+w
def qS (part:List ah→List Nd→PR):Prop:=∀w nd a w' nd',part w nd=some (a,w',nd')→PB w nd w' nd'∧w'.length<w.length
def PB.refl (w:List ah)(nd:List Nd):PB w nd w nd:=⟨Nat.le_refl _,Nat.le_refl _,List.suffix_refl _⟩
def PB.trans {w nd w' nd' w2 nd2}(h:PB w nd w' nd')(h2:PB w' nd' w2 nd2):PB w nd w2 nd2:=⟨Nat.le_trans h2.1 h.1,Nat.le_trans h2.2.1 h.2.1,h2.2.2.trans h.2.2⟩
def PB.tail {x:ah}{w:List ah}{nd:List Nd}{w':List ah}{nd':List Nd}(h:PB w nd w' nd')(n:Nd):PB (x::w) nd w' (nd'++[n]):=by
 obtain⟨h1,h2,h3⟩:=h;refine⟨by simp only[List.length_cons];omega,by simp only[List.length_append,List.length_cons,List.length_nil];omega,h3.trans (List.suffix_cons x w)⟩
def PB.yG {x:ah}{w:List ah}{nd:List Nd}{w':List ah}{nd':List Nd}(h:PB w nd w' nd'):PB (x::w) nd w' nd':=by
 obtain⟨h1,h2,h3⟩:=h;exact⟨by simp only[List.length_cons];omega,by simp only[List.length_cons];omega,h3.trans (List.suffix_cons x w)⟩
def sH {part:List ah→List Nd→PR}(hp:qS part)(wd:ah)(op:Int):∀(f:Nat)(a:Int)(w:List ah)(nd:List Nd)(a':Int)(w':List ah)(nd':List Nd),gA part wd op f a w nd=some (a',w',nd')→PB w nd w' nd'
 |0,a,w,nd,a',w',nd',h=>by simp only[gA,Option.some.injEq,Prod.mk.injEq]at h;obtain⟨rfl,rfl,rfl⟩:=h;exact .refl _ _
 |f+1,a,[],nd,a',w',nd',h=>by simp only[gA,Option.some.injEq,Prod.mk.injEq]at h;obtain⟨rfl,rfl,rfl⟩:=h;exact .refl _ _
 |f+1,a,x::r,nd,a',w',nd',h=>by
  simp only[gA]at h;by_cases hx:x=wd
  ·rw[if_pos hx]at h;cases hq:part r nd with
   |none=>rw[hq]at h;cases h
   |some t=>
    obtain⟨b,w2,nd2⟩:=t;rw[hq]at h;exact((hp _ _ _ _ _ hq).1.tail _).trans (sH hp wd op f _ _ _ _ _ _ h)
  ·rw[if_neg hx]at h;simp only[Option.some.injEq,Prod.mk.injEq]at h;obtain⟨rfl,rfl,rfl⟩:=h;exact .refl _ _
def hR {part:List ah→List Nd→PR}(hp:qS part)(wd:ah)(op:Int):qS (eM part wd op):=by
 intro w nd a w' nd' h;unfold eM at h;cases hq:part w nd with
 |none=>rw[hq]at h;cases h
 |some t=>
  obtain⟨b,w2,nd2⟩:=t;rw[hq]at h;obtain⟨h1,h2⟩:=hp _ _ _ _ _ hq;have:=sH hp wd op _ _ _ _ _ _ _ h;exact⟨h1.trans this,Nat.lt_of_le_of_lt this.1 h2⟩
def nN {k:ah}{w:List ah}{nd:List Nd}{a:Int}{w':List ah}{nd':List Nd}(h:qt k w nd=some (a,w',nd')):PB w nd w' nd':=by
 match w,h with
 |s::v::r,h=>
  simp only[qt]at h;split at h
  ·simp only[Option.some.injEq]at h;unfold xi at h;have hs:r<:+s::v::r:=(List.suffix_cons v r).trans (List.suffix_cons s _);split at h<;>(simp only[Prod.mk.injEq]at h;obtain⟨rfl,rfl,rfl⟩:=h;exact⟨by simp only[List.length_cons];omega,by simp only[List.length_append,List.length_cons,List.length_nil];omega,hs⟩)
  ·cases h
 |[_],h=>cases h
 |[],h=>cases h
def gH:∀f,qS (nr f)
 |0=>fun w nd a w' nd' h=>by cases h
 |f+1=>by
  intro w nd a w' nd' h
  match w,h with
  |[],h=>cases h
  |k::r,h=>
   simp only[nr]at h;split at h
   ·cases hq:nr f r nd with
    |none=>rw[hq]at h;cases h
    |some t=>
     obtain⟨b,w2,nd2⟩:=t;rw[hq]at h;simp only[JH,Option.some.injEq,Prod.mk.injEq]at h;obtain⟨rfl,rfl,rfl⟩:=h;obtain⟨h1,h2⟩:=gH f _ _ _ _ _ hq;exact⟨h1.tail _,by simp only[List.length_cons];omega⟩
   ·split at h
    ·cases hq:eM (eM (nr f) qO 3) yO 4 r nd with
     |none=>rw[hq]at h;cases h
     |some t=>
      obtain⟨b,w2,nd2⟩:=t;rw[hq]at h;obtain⟨h1,h2⟩:=hR (hR (gH f) _ _) _ _ _ _ _ _ _ hq
      match w2,h,h1,h2 with
      |[],h,_,_=>cases h
      |x::w3,h,h1,h2=>
       simp only[nR]at h;split at h
       ·simp only[Option.some.injEq,Prod.mk.injEq]at h;obtain⟨rfl,rfl,rfl⟩:=h;exact⟨(h1.trans (PB.refl _ _).yG).yG,by simp only[List.length_cons]at h2⊢;omega⟩
       ·cases h
    ·exact⟨(nN h).yG,by have:=(nN h).1;simp only[List.length_cons];omega⟩
def xZ {p p':List ah→List Nd→PR}(hp:qS p)(wd:ah)(op:Int){u:Nat}(h:∀w nd,w.length<u→p w nd=p' w nd):∀(f:Nat)(a:Int)(w:List ah)(nd:List Nd),w.length≤u→gA p wd op f a w nd=gA p' wd op f a w nd
 |0,a,w,nd,hu=>rfl
 |f+1,a,[],nd,hu=>rfl
 |f+1,a,x::r,nd,hu=>by
  simp only[List.length_cons]at hu;simp only[gA];split
  ·rw[←h r nd (by omega)];cases hq:p r nd with
   |none=>rfl
   |some t=>
    obtain⟨b,w2,nd2⟩:=t;have:=hp _ _ _ _ _ hq;exact xZ hp wd op h f _ _ _ (by omega)
  ·rfl
def mM {p p':List ah→List Nd→PR}(hp:qS p)(wd:ah)(op:Int){u:Nat}(h:∀w nd,w.length<u→p w nd=p' w nd):∀w nd,w.length<u→eM p wd op w nd=eM p' wd op w nd:=by
 intro w nd hu;unfold eM;rw[←h w nd hu];cases hq:p w nd with
 |none=>rfl
 |some t=>
  obtain⟨b,w2,nd2⟩:=t;have:=hp _ _ _ _ _ hq;exact xZ hp wd op h _ _ _ _ (by omega)
def AR:∀(u f g:Nat)(w:List ah)(nd:List Nd),w.length<u→w.length≤f→w.length≤g→nr f w nd=nr g w nd
 |0,_,_,_,_,h,_,_=>absurd h (Nat.not_lt_zero _)
 |u+1,f,g,[],nd,hu,hf,hg=>by cases f<;>cases g<;>rfl
 |u+1,0,_,_::_,_,_,h,_=>by simp at h
 |u+1,_,0,_::_,_,_,_,h=>by simp at h
 |u+1,f+1,g+1,k::r,nd,hu,hf,hg=>by
  simp only[List.length_cons]at hu hf hg;have ih:∀w nd,w.length<r.length+1→nr f w nd=nr g w nd:=fun w nd h=>AR u f g w nd (by omega) (by omega) (by omega)
  simp only[nr];rw[ih r nd (by omega),mM (hR (gH f) _ _) yO 4 (mM (gH f) qO 3 ih) r nd (by omega)]
def kM (w:List ah)(nd:List Nd):PR:=nr w.length w nd
def oG:List ah→List Nd→PR:=eM kM qO 3
def jl:List ah→List Nd→PR:=eM oG yO 4
def uz:qS kM:=fun w nd a w' nd' h=>gH _ w nd a w' nd' h
def zq:qS oG:=hR uz _ _
def vZ (k:ah)(r:List ah)(nd:List Nd):kM (k::r) nd=if k=vz then JH (kM r nd)else if k=kZ then nR (jl r nd)else qt k r nd:=by
 show nr (r.length+1) (k::r) nd=_;simp only[nr];have ih:∀w nd,w.length<r.length+1→nr r.length w nd=kM w nd:=fun w nd h=>AR (r.length+1) _ _ w nd h (by omega) (Nat.le_refl _)
 rw[show nr r.length r nd=kM r nd from rfl,mM (hR (gH _) _ _) yO 4 (mM (gH _) qO 3 ih) r nd (by omega)];rfl
def uM {part:List ah→List Nd→PR}{wd:ah}{op:Int}{f:Nat}{a:Int}{nd:List Nd}:gA part wd op f a [] nd=some (a,[],nd):=by cases f<;>rfl
def Ek {part:List ah→List Nd→PR}{wd:ah}{op:Int}{f:Nat}{a:Int}{w:List ah}{nd:List Nd}(h:w.head? ≠some wd):gA part wd op f a w nd=some (a,w,nd):=by
 cases f with
 |zero=>rfl
 |succ f=>match w,h with
  |[],_=>rfl
  |x::r,h=>simp only[gA];rw[if_neg (by rintro rfl;exact h rfl)]
def sI {part:List ah→List Nd→PR}(hp:qS part){wd:ah}{op:Int}:∀(f g:Nat)(a:Int)(w:List ah)(nd:List Nd),w.length≤f→w.length≤g→gA part wd op f a w nd=gA part wd op g a w nd
 |_,_,a,[],nd,_,_=>by rw[uM,uM]
 |0,_,_,_::_,_,h,_=>by simp at h
 |_,0,_,_::_,_,_,h=>by simp at h
 |f+1,g+1,a,x::r,nd,hf,hg=>by
  simp only[List.length_cons]at hf hg;simp only[gA];split
  ·cases hq:part r nd with
   |none=>rfl
   |some t=>
    obtain⟨b,w2,nd2⟩:=t;have:=hp _ _ _ _ _ hq;exact sI hp f g _ _ _ (by omega) (by omega)
  ·rfl
def A6 (part:List ah→List Nd→PR)(wd:ah)(op:Int)(a:Int)(w:List ah)(nd:List Nd):PR:=gA part wd op w.length a w nd
def Cq {part:List ah→List Nd→PR}(hp:qS part){wd:ah}{op:Int}{a:Int}{r:List ah}{nd:List Nd}:A6 part wd op a (wd::r) nd=match part r nd with
  |none=>none
  |some (b,w',nd')=>A6 part wd op (nd'.length:Nat) w' (nd'++[⟨op,a,b,0,[]⟩]):=by
 show gA part wd op (r.length+1) a (wd::r) nd=_;simp only[gA,if_true];cases hq:part r nd with
 |none=>rfl
 |some t=>
  obtain⟨b,w2,nd2⟩:=t;have:=hp _ _ _ _ _ hq;exact sI hp _ _ _ _ _ (by omega) (Nat.le_refl _)
structure PO where
 a:Int
 w:List ah
 nd:List Nd
 bad:Bool
def dI (R:PR)(w:List ah)(nd:List Nd)(o:PO):Prop:=(R=some (o.a,o.w,o.nd)∧o.bad=false∨R=none∧o.bad=true)∧PB w nd o.w o.nd
def zV (s:ah):Option (List Nd):=match jl (ai s 32) []with
 |some (_,[],nd)=>if ua nd=true then some nd else none
 |_=>none
def kT (s:ah):List Nd×Int:=if 96<s.length then([],3)else if s=[]then([],0)else match zV s with
 |some nd=>(nd,0)
 |none=>([],7)
def kR (s:ah):Bool:=decide ((kT s).2=0)&&decide (KB (kT s).1=s)
abbrev zb:=List ah→D→Bool→D
def dY:zb:=fun w X b=>.agg [.sl 1 (w.map D.str),X,.bool b]
def pC (Γ:Ctx)(k:Nat)(ob:zb)(n:Nat)(UO:List D)(w:List ah)(nd:List Nd)(b:Bool)(P:PO→Prop)(V:PO→D):Prop:=
 ∀(nx lp ln:Nat) (m:List (Nat×aV)) (K:D→St→Prop),look m lp=some (.buf k [ob w (.own ln 5 0 nd.length) b])→look m ln=some (.buf 5 (nd.map Nd.D))→lp<nx→ln<nx→
  (∀o,P o→K (V o) ⟨nx+1,(nx,.buf 5 (o.nd.map Nd.D))::bO (bK m ln) lp (.buf k [ob o.w (.own nx 5 0 o.nd.length) o.bad])⟩)→Γ.tr n (.ptr lp k 0 0::UO) ⟨nx,m⟩ K
def Mi (Γ:Ctx)(k:Nat)(ob:zb)(n:Nat)(UO:List D)(w:List ah)(nd:List Nd)(b:Bool)(P:PO→Prop)(V:PO→D):Prop:=
 ∀(nx lp ln:Nat) (m:List (Nat×aV)) (K:D→St→Prop),look m lp=some (.buf k [ob w (.own ln 5 0 nd.length) b])→look m ln=some (.buf 5 (nd.map Nd.D))→lp<nx→ln<nx→
  (∀o,P o→K (V o) ⟨nx,bO m lp (.buf k [ob o.w (.own ln 5 0 nd.length) o.bad])⟩)→Γ.tr n (.ptr lp k 0 0::UO) ⟨nx,m⟩ K
def zc (k:Nat)(ob:zb)(P:PO→Prop)(V:PO→D):D→List (Nat×aV)→Prop:=fun d m=>∃(o:PO)(j:Nat),2≤j∧P o∧d=V o∧look m 0=some (.buf k [ob o.w (.own j 5 0 o.nd.length) o.bad])∧look m j=some (.buf 5 (o.nd.map Nd.D))
def HT (k:Nat)(ob:zb)(nd:List Nd)(P:PO→Prop)(V:PO→D):D→List (Nat×aV)→Prop:=fun d m=>∃(o:PO),P o∧d=V o∧look m 0=some (.buf k [ob o.w (.own 1 5 0 nd.length) o.bad])∧look m 1=some (.buf 5 (nd.map Nd.D))
def Va:PO→D:=fun o=>.int .i64 o.a
def JB {m:List (Nat×aV)}(x:Nd):FP m [.a,.a,.a,.a,.a] (Nd.D x):=⟨rfl,rfl,rfl,rfl,rfl,rfl⟩
def Ew {m:List (Nat×aV)}{lp ln:Nat}{w:List ah}{nd:List Nd}{b:Bool}(h1:look m lp=some (.buf 3 [dY w (.own ln 5 0 nd.length) b]))(h2:look m ln=some (.buf 5 (nd.map Nd.D))):
  gY m [[.pt [.sl 1 [.a],.sl 5 [.a,.a,.a,.a,.a],.a]]] [.ptr lp 3 0 0]:=by
 refine⟨⟨by simp[dt,h1], ?_⟩,trivial⟩;intro e he;simp only[aD,h1,List.mem_singleton]at he;subst he;refine⟨rfl,⟨by simp[dt,h2], ?_⟩,rfl,rfl⟩;simp only[aD,h2,List.drop_zero,aH];intro e he;obtain⟨x,_,rfl⟩:=List.mem_map.1 he;exact JB x
def bH (w:List ah):ah:=w.headD []
def aQ (w:List ah):List ah:=if bH w=[]then w else w.drop 1
def bR (w:List ah)(b:Bool):Bool:=if bH w=[]then true else b
def na {w:List ah}{x:ah}(hx:x≠[])(h:bH w=x):∃r,w=x::r:=by
 match w,h with
 |[],h=>exact absurd h.symm hx
 |y::r,h=>exact⟨r,by rw[show y=x from h]⟩
def Fs {w:List ah}(h:¬bH w=[]):1≤w.length:=by
 match w,h with
 |[],h=>exact absurd rfl h
 |_::_,_=>simp
def fD {x:ah}{r:List ah}(hx:x≠[]):aQ (x::r)=r:=if_neg hx
def fC {x:ah}{r:List ah}{b:Bool}(hx:x≠[]):bR (x::r) b=b:=if_neg hx
def C0 (w:List ah):aQ w<:+w:=by
 unfold aQ;split
 ·exact List.suffix_refl _
 ·exact List.drop_suffix 1 w
def kD (w:List ah)(nd:List Nd):PB w nd (aQ w) nd:=by
 have h:=C0 w;have:=h.length_le;exact⟨this,by omega,h⟩
def yH {w:List ah}{b:Bool}(h:bR w b=false):b=false∧bH w≠[]∧w=bH w::aQ w:=by
 unfold bR at h;split at h
 ·cases h
 ·rename_i hs;refine⟨h,hs, ?_⟩
  match w,hs with
  |x::r,hs=>rw[fD (x:=x) (r:=r) hs];rfl
def jk (b:Bool)(k:ah)(w:List ah)(nd:List Nd):PR:=if b=true then none else qt k w nd
def Ed {j:Nat}{k:ah}(hj:j<3)(h:lr[j]! =k):wi k=(j:Nat):=by
 obtain rfl|rfl|rfl:j=0∨j=1∨j=2:=by omega
 all_goals (subst h;rfl)
def Cf {k:ah}(h:0≤wi k):∃j,j<3∧lr[j]! =k∧wi k=(j:Nat):=by
 unfold wi at h⊢;by_cases h1:k=[111,115]
 ·exact⟨0,by omega,h1.symm,by rw[if_pos h1];rfl⟩
 ·by_cases h2:k=[97,114,99,104]
  ·exact⟨1,by omega,h2.symm,by rw[if_neg h1,if_pos h2];rfl⟩
  ·by_cases h3:k=[97,98,105]
   ·exact⟨2,by omega,h3.symm,by rw[if_neg h1,if_neg h2,if_pos h3];rfl⟩
   ·rw[if_neg h1,if_neg h2,if_neg h3]at h;omega
def zI (j:Nat)(k s v:ah)(bad:Bool):Bool:=!(((!decide (lr[j]! =k) ||bad) ||(!decide (s=[61])&& !decide (s=[33,61]))) ||!bI v)
def D4 {j:Nat}{k:ah}{w:List ah}{nd:List Nd}{b:Bool}(hj:j<3)(h:zI j k (bH w) (bH (aQ w)) (bR (aQ w) (bR w b))=true):
  jk b k w nd=some (xi k (bH w) (bH (aQ w)) (aQ (aQ w)) nd)∧wi k=(j:Nat)∧bR (aQ w) (bR w b)=false:=by
 have h0:=h;simp only[zI,Bool.not_or,Bool.and_eq_true,Bool.not_not,decide_eq_true_eq,Bool.not_eq_true',Bool.not_and,Bool.or_eq_true]at h;obtain⟨⟨⟨h1,h2⟩,h3⟩,h4⟩:=h;have hk:=Ed hj h1;obtain⟨g1,g2,g3⟩:=yH h2;obtain⟨g4,g5,g6⟩:=yH g1;refine⟨?_,hk,h2⟩;unfold jk;rw[g4,if_neg (by simp)]
 conv=>lhs;rw[g6,g3]
 simp only[qt];rw[if_pos];simp only[zh,Bool.and_eq_true,Bool.or_eq_true,decide_eq_true_eq];exact⟨⟨by omega,h4⟩,h3⟩
def GH {k:ah}{w:List ah}{nd:List Nd}{b:Bool}(h:∀j,j<3→zI j k (bH w) (bH (aQ w)) (bR (aQ w) (bR w b))=false):jk b k w nd=none:=by
 unfold jk;split
 ·rfl
 ·rename_i hb
  match w with
  |[]=>rfl
  |[_]=>rfl
  |s::v::r=>
   simp only[qt];rw[if_neg];intro ha;simp only[zh,Bool.and_eq_true,Bool.or_eq_true,decide_eq_true_eq]at ha;obtain⟨⟨h1,h2⟩,h3⟩:=ha;obtain⟨j,hj,hj2,_⟩:=Cf h1;have hs:s≠[]:=by rintro rfl;rcases h3 with h|h<;>cases h
   have hv:v≠[]:=by rintro rfl;cases h2
   have:=h j hj;rw[fD hs,fC hs,fC hv]at this;simp only[Bool.not_eq_true]at hb;subst hb;revert this;simp only[zI,bH,List.headD_cons,hj2,h2,decide_true];rcases h3 with rfl|rfl<;>simp
def AI (w:List ah)(nd:List Nd):PB w nd (aQ (aQ w)) nd:=(kD w nd).trans (kD _ nd)
def r5 {b:Bool}{k:ah}{w:List ah}{nd:List Nd}{a:Int}{w':List ah}{nd':List Nd}(h:jk b k w nd=some (a,w',nd')):PB w nd w' nd':=by
 unfold jk at h;split at h
 ·cases h
 ·exact nN h
def DP {w:List ah}{nd:List Nd}(h1:bH w≠vz)(h2:bH w≠kZ):kM w nd=jk (bR w false) (bH w) (aQ w) nd:=by
 match w with
 |[]=>rfl
 |k::r=>
  have h1:k≠vz:=h1;have h2:k≠kZ:=h2;rw[vZ,if_neg h1,if_neg h2];by_cases hk:k=[]
  ·subst hk;show qt [] r nd=none
   match r with
   |[]=>rfl
   |[_]=>rfl
   |s::v::r=>rfl
  ·rw[fD hk,fC hk];rfl
def DC {R:PR}{o:PO}{w:List ah}{nd:List Nd}(h:dI R w nd o)(hs:bH o.w≠rY):nR R=none:=by
 rcases h.1 with⟨h1,_⟩|⟨h1,_⟩
 ·rw[h1]
  match ho:o.w,hs with
  |[],_=>rfl
  |x::r,hs=>simp only[nR];exact if_neg hs
 ·rw[h1];rfl
def dI.pb {R:PR}{o:PO}{w:List ah}{nd:List Nd}(h:dI R w nd o):PB w nd o.w o.nd:=h.2
def He {r:List ah}{nd:List Nd}{o:PO}(h:dI (kM r nd) r nd o):dI (kM (vz::r) nd) (vz::r) nd ⟨(o.nd.length:Nat),o.w,o.nd++[⟨2,o.a,0,0,[]⟩],o.bad⟩:=by
 refine⟨?_,h.2.tail _⟩;rw[vZ,if_pos rfl];rcases h.1 with⟨h1,h2⟩|⟨h1,h2⟩
 ·left;rw[h1];exact⟨rfl,h2⟩
 ·right;rw[h1];exact⟨rfl,h2⟩
def xx (r:List ah)(nd:List Nd):kM (kZ::r) nd=nR (jl r nd):=by rw[vZ,if_neg (by decide),if_pos rfl]
def yf {r:List ah}{nd:List Nd}{o:PO}(h:dI (jl r nd) r nd o)(hs:¬bH o.w=rY):dI (kM (kZ::r) nd) (kZ::r) nd ⟨o.a,aQ o.w,o.nd,true⟩:=
 ⟨.inr ⟨by rw[xx,DC h hs],rfl⟩,h.2.yG.trans (kD _ _)⟩
def EN {r:List ah}{nd:List Nd}{o:PO}(h:dI (jl r nd) r nd o)(hs:bH o.w=rY):dI (kM (kZ::r) nd) (kZ::r) nd ⟨o.a,aQ o.w,o.nd,bR o.w o.bad⟩:=by
 refine⟨?_,h.2.yG.trans (kD _ _)⟩;obtain⟨q,hq⟩:=na (by decide) hs;rw[xx,hq,fD (by decide),fC (by decide)];rcases h.1 with⟨h1,h2⟩|⟨h1,h2⟩
 ·left;rw[h1,hq];exact⟨by simp only[nR,if_true],h2⟩
 ·right;rw[h1];exact⟨rfl,h2⟩
def EM {w:List ah}{nd:List Nd}{o:PO}(hf:kM w nd=jk (bR w false) (bH w) (aQ w) nd)(h:dI (jk (bR w false) (bH w) (aQ w) nd) (aQ w) nd o):dI (kM w nd) w nd o:=
 ⟨by rw[hf];exact h.1,(kD w nd).trans h.2⟩
def Jz {s:ah}{o:PO}(h:dI (jl (ai s 32) []) (ai s 32) [] o)(hc:((o.bad ||decide ((0:Int)<(o.w.length:Nat))) ||!ua o.nd)=true):zV s=none:=by
 unfold zV;rcases h.1 with⟨h1,h2⟩|⟨h1,h2⟩
 ·rw[h1]
  match hw:o.w with
  |[]=>
   simp only[h2,hw,List.length_nil,Bool.false_or]at hc;have:ua o.nd=false:=by simpa using hc
   simp only[this,Bool.false_eq_true,if_false]
  |x::r=>rfl
 ·rw[h1]
def G0 {s:ah}{o:PO}(h:dI (jl (ai s 32) []) (ai s 32) [] o)(hc:((o.bad ||decide ((0:Int)<(o.w.length:Nat))) ||!ua o.nd)=false):zV s=some o.nd:=by
 simp only[Bool.or_eq_false_iff,decide_eq_false_iff_not,Bool.not_eq_false']at hc;unfold zV;rcases h.1 with⟨h1,h2⟩|⟨h1,h2⟩
 ·rw[h1]
  match hw:o.w with
  |[]=>simp only[hc.2,if_true]
  |x::r=>exact absurd hc.1.2 (by rw[hw];simp)
 ·rw[h2]at hc;exact absurd hc.1.1 (by simp)
def GZ {s:ah}{nd:List Nd}(h1:¬96<s.length)(h2:¬s=[])(h:zV s=some nd):kT s=(nd,0):=by simp only[kT,h,if_neg h1,if_neg h2]
def GY {s:ah}(h1:¬96<s.length)(h2:¬s=[])(h:zV s=none):kT s=([],7):=by simp only[kT,h,if_neg h1,if_neg h2]
def FK (part:List ah→List Nd→PR)(wd:ah)(op:Int)(R:PR)(w:List ah)(nd:List Nd)(o:PO):Prop:=(o.bad=false∧R=A6 part wd op o.a o.w o.nd∨o.bad=true∧R=none)∧PB w nd o.w o.nd
def FK.first {part:List ah→List Nd→PR}{wd:ah}{op:Int}{w:List ah}{nd:List Nd}{o:PO}(h:dI (part w nd) w nd o):FK part wd op (eM part wd op w nd) w nd o:=by
 refine⟨?_,h.2⟩;rcases h.1 with⟨h1,h2⟩|⟨h1,h2⟩
 ·left;refine⟨h2, ?_⟩;unfold eM;rw[h1];rfl
 ·right;refine⟨h2, ?_⟩;unfold eM;rw[h1]
def FK.next {part:List ah→List Nd→PR}(hp:qS part){wd:ah}{op:Int}{R:PR}{w:List ah}{nd:List Nd}{a:Int}{r:List ah}{nd1:List Nd}{o:PO}(h:FK part wd op R w nd ⟨a,wd::r,nd1,false⟩)(h2:dI (part r nd1) r nd1 o):
  FK part wd op R w nd ⟨(o.nd.length:Nat),o.w,o.nd++[⟨op,a,o.a,0,[]⟩],o.bad⟩:=by
 refine⟨?_,h.2.trans (h2.2.tail _)⟩;rcases h.1 with⟨_,h1⟩|⟨h1,_⟩
 ·rw[Cq hp]at h1;rcases h2.1 with⟨g1,g2⟩|⟨g1,g2⟩
  ·left;exact⟨g2,by rw[h1,g1]⟩
  ·right;exact⟨g2,by rw[h1,g1]⟩
 ·cases h1
def FK.last {part:List ah→List Nd→PR}{wd:ah}{op:Int}{R:PR}{w:List ah}{nd:List Nd}{o:PO}(h:FK part wd op R w nd o)(hx:o.bad=true∨o.w.head? ≠some wd):dI R w nd o:=by
 refine⟨?_,h.2⟩;rcases h.1 with⟨h1,h2⟩|⟨h1,h2⟩
 ·left;refine⟨?_,h1⟩;rw[h2];unfold A6;rw[Ek];rcases hx with hx|hx
  ·rw[h1]at hx;cases hx
  ·exact hx
 ·right;exact⟨h2,h1⟩
def PB.HB {w w':List ah}{nd nd':List Nd}{W:List ah}(h:PB w nd w' nd')(hW:w<:+W):w'<:+W:=h.2.2.trans hW
def pQ (f:Nat→Int):Nat→Nat→Int
 |_,0=>0
 |i,k+1=>if f i=0 then pQ f (i+1) k else f i
def fR (f:Nat→Int)(i n:Nat):Int:=pQ f i (n-i)
def pP {f:Nat→Int}{i n:Nat}(h:i<n)(hf:f i=0):fR f i n=fR f (i+1) n:=by
 unfold fR;obtain⟨k,hk⟩:∃k,n-i=k+1:=⟨n-i-1,by omega⟩
 rw[hk,show n-(i+1)=k by omega];simp only[pQ,hf,if_true]
def sj {f:Nat→Int}{i n:Nat}(h:i<n)(hf:f i≠0):fR f i n=f i:=by
 unfold fR;obtain⟨k,hk⟩:∃k,n-i=k+1:=⟨n-i-1,by omega⟩
 rw[hk];simp only[pQ,hf,if_false]
def pO {f:Nat→Int}{i n:Nat}(h:n≤i):fR f i n=0:=by
 unfold fR;rw[show n-i=0 by omega];rfl
def kO (f:Nat→Int):Nat→Nat→Int×Int
 |_,0=>(0,0)
 |i,k+1=>if f i=0 then kO f (i+1) k else(f i,((i:Nat):Int))
def eO (f:Nat→Int)(i n:Nat):Int×Int:=kO f i (n-i)
def mW {f:Nat→Int}{i n:Nat}(h:i<n)(hf:f i=0):eO f i n=eO f (i+1) n:=by
 unfold eO;obtain⟨k,hk⟩:∃k,n-i=k+1:=⟨n-i-1,by omega⟩
 rw[hk,show n-(i+1)=k by omega];simp only[kO,hf,if_true]
def kN {f:Nat→Int}{i n:Nat}(h:i<n)(hf:f i≠0):eO f i n=(f i,((i:Nat):Int)):=by
 unfold eO;obtain⟨k,hk⟩:∃k,n-i=k+1:=⟨n-i-1,by omega⟩
 rw[hk];simp only[kO,hf,if_false]
def mV {f:Nat→Int}{i n:Nat}(h:n≤i):eO f i n=(0,0):=by
 unfold eO;rw[show n-i=0 by omega];rfl
def iw (r:Rec)(name rng:ah):Int:=if ek name=false then 4 else if name=r.name then 8 else if m5 rng=false then 6 else 0
def Kq (l:List ah)(i:Nat):Bool:=bI l[i]! && !(decide (0<i)&& !Op.bytesLess l[i-1]! l[i]!)
def jR (l:List ah)(alone:Bool):Bool:=(decide (l.length≤6)&&(alone ||decide (l.length=0)))&&cj (Kq l) 0 l.length
def jA (r:Rec)(w:bz)(alone:Bool):Int:=if iw r w.name w.range≠0 then iw r w.name w.range else if jR w.feats alone=false then 11 else 0
def k8 (r:Rec)(l:List bz):Int:=fR (fun i=>jA r l[i]! (decide ((l.length:Int)=1))) 0 l.length
def iP (r:Rec)(n:bg):Int:=if n.any.length=0 then 9 else if 3<n.any.length then 3 else if k8 r n.any≠0 then k8 r n.any else
 if kR n.when'=false then 7 else if n.option≠[]∧bI n.option=false then 14 else 0
def r6 (r:Rec)(b:iy):Int:=if iw r b.name b.range≠0 then iw r b.name b.range else if kR b.when'=false then 7 else 0
def Hc (l:List bg)(x:ah):Bool:=l.any fun n=>decide (n.option=x)
def Bc (l:List bg)(x:ah):Bool:=l.any fun n=>decide (n.any.length=1)&&decide (n.any[0]!.name=x)
def iO (r:Rec)(s:ah):Int:=if(b7 s).1=2∧Hc r.needs (b7 s).2.1=false then 14 else if(b7 s).1=3∧Bc r.needs (b7 s).2.1=false then 16 else 0
def n4 (r:Rec)(of:List ah):Int:=fR (fun i=>iO r of[i]!) 0 of.length
def jt (r:Rec):Int×Int:=eO (fun i=>iP r r.needs[i]!) 0 r.needs.length
def qu (r:Rec):Int×Int:=eO (fun i=>r6 r r.bars[i]!) 0 r.bars.length
def pN (r:Rec):Int×Int:=eO (fun i=>n4 r r.feats[i]!.of) 0 r.feats.length
def eg (r:Rec):Int×Int:=if(jt r).1≠0 then jt r else if(qu r).1≠0 then qu r else if fh r.feats=false then(11,0)else pN r
def FB (n:Nat)(al:Bool):(decide ((6:Int)<(n:Nat)) ||(decide ((0:Int)<(n:Nat))&& !al))=!(decide (n≤6)&&(al ||decide (n=0))):=by
 rw[show decide ((6:Int)<(n:Nat))=!decide (n≤6)from by rw[←decide_not];exact decide_eq_decide.2 (by omega),show decide ((0:Int)<(n:Nat))=!decide (n=0)from by rw[←decide_not];exact decide_eq_decide.2 (by omega)];generalize decide (n≤6)=a;generalize decide (n=0)=b;cases a<;>cases b<;>cases al<;>rfl
def M1 (l:List ah)(i:Nat):(!bI l[i]! ||(decide ((0:Int)<(i:Nat))&& !Op.bytesLess l[i-1]! l[i]!))=!Kq l i:=by
 unfold Kq;rw[show decide ((0:Int)<(i:Nat))=decide (0<i)from decide_eq_decide.2 (by omega)];generalize bI l[i]! =a;generalize decide (0<i)=b;generalize Op.bytesLess l[i-1]! l[i]! =c;cases a<;>cases b<;>cases c<;>rfl
def FM (k:Int)(x:ah)(n:bg):Bool:=(decide (k=2)&&decide (n.option=x)) ||((decide (k=3)&&decide ((n.any.length:Int)=1))&&decide (n.any[0]!.name=x))
def Ju (k:Int):Int:=if k=2 then 14 else if k=3 then 16 else 0
def Ec (r:Rec)(s:ah):iO r s=if r.needs.any (FM (b7 s).1 (b7 s).2.1)=true then 0 else Ju (b7 s).1:=by
 unfold iO Ju Hc Bc;generalize (b7 s).1=k;generalize (b7 s).2.1=x;by_cases h2:k=2
 ·subst h2;have:FM 2 x=fun n=>decide (n.option=x):=by funext n;simp[FM]
  rw[this];cases r.needs.any fun n=>decide (n.option=x)<;>simp
 ·by_cases h3:k=3
  ·subst h3;have:FM 3 x=fun n=>decide (n.any.length=1)&&decide (n.any[0]!.name=x):=by
    funext n;simp only[FM];rw[show decide ((n.any.length:Int)=1)=decide (n.any.length=1)from decide_eq_decide.2 (by omega)];simp
   rw[this];cases r.needs.any fun n=>decide (n.any.length=1)&&decide (n.any[0]!.name=x)<;>simp
  ·have:FM k x=fun _=>false:=by funext n;simp[FM,h2,h3]
   rw[this];simp[h2,h3]
def F9 {α:Type} [Inhabited α]{c:α→Bool}{l:List α}{i:Nat}(h:i<l.length)(hc:c l[i]! =true):(l.drop i).any c=true:=by
 rw[List.drop_eq_getElem_cons h,List.any_cons];have:l[i]! =l[i]:=by simp[h]
 rw[←this,hc,Bool.true_or]
def I8 {α:Type} [Inhabited α]{c:α→Bool}{l:List α}{i:Nat}(h:i<l.length)(hc:c l[i]! =false):(l.drop i).any c=(l.drop (i+1)).any c:=by
 rw[List.drop_eq_getElem_cons h,List.any_cons];have:l[i]! =l[i]:=by simp[h]
 rw[←this,hc,Bool.false_or]
def F8 {α:Type}{c:α→Bool}{l:List α}{i:Nat}(h:l.length≤i):(l.drop i).any c=false:=by
 rw[List.drop_eq_nil_of_le h];rfl
def gE:ah:=[110,101,101,100]
def jE:ah:=[97,110,121]
def jQ:ah:=[119,104,101,110]
def dH:ah:=[111,112,116,105,111,110]
def iZ:ah:=[98,97,114]
def cC:ah:=[102,101,97,116,117,114,101]
def de:ah:=[112,97,99,107,97,103,101]
def mK:ah:=[102,117,108,108]
def ir:ah:=[98,97,114,101]
def bt (l:List ah):ah:=aP [32] l++[10]
def lz (w:bz):List ah:=[jE,w.name,if w.feats.length=0 then [45]else aP [44] w.feats,if w.bare=true then ir else mK,w.range]
def gF (s:ah):ah:=if s=[]then []else bt [jQ,s]
def ud (s:ah):ah:=if s=[]then []else bt [dH,s]
def lv (n:bg):ah:=bt [gE]++(n.any.map fun w=>bt (lz w)).flatten++gF n.when'++ud n.option
def qU (b:iy):ah:=bt [iZ,b.name,b.range]++gF b.when'
def nE (f:bp):ah:=bt ([cC,f.name]++f.of)
def mh (r:Rec):ah:=bt [de,r.name,kY r.v]
def eZ (r:Rec):ah:=mh r++(r.needs.map lv).flatten++(r.bars.map qU).flatten++(r.feats.map nE).flatten
def cd (r:Rec):Int×Int:=if ek r.name=false then(4,0)else if eh r.v=false then(5,0)else if 8<r.needs.length∨8<r.bars.length then(3,0)else
 if(eg r).1≠0 then eg r else if 4096<(eZ r).length then(3,0)else(0,0)
def ez (r:Rec):ah×Int:=if(cd r).1≠0 then([],(cd r).1)else(eZ r,0)
def bz.sm (w:bz):Prop:=(w.name.length≤1048576∧w.range.length≤1048576)∧∀t∈w.feats,t.length≤1048576
def bg.sm (n:bg):Prop:=(∀w∈n.any,w.sm)∧n.when'.length≤1048576∧n.option.length≤1048576
def iy.sm (b:iy):Prop:=b.name.length≤1048576∧b.range.length≤1048576∧b.when'.length≤1048576
def il (r:Rec):Prop:=(r.name.length≤1048576∧r.v.sm)∧(∀n∈r.needs,n.sm)∧(∀b∈r.bars,b.sm)∧rD r.feats
def EP {r:Rec}{e:Int×Int}(h:jt r=e)(hn:e.1≠0):eg r=e:=by rw[eg,if_pos (by rw[h];exact hn),h]
def yg {r:Rec}{e:Int×Int}(h0:jt r=(0,0))(h:qu r=e)(hn:e.1≠0):eg r=e:=by rw[eg,if_neg (by rw[h0];simp),if_pos (by rw[h];exact hn),h]
def ER {r:Rec}(h0:jt r=(0,0))(h1:qu r=(0,0))(h:fh r.feats=false):eg r=(11,0):=by rw[eg,if_neg (by rw[h0];simp),if_neg (by rw[h1];simp),if_pos h]
def sU {r:Rec}{e:Int×Int}(h0:jt r=(0,0))(h1:qu r=(0,0))(h:fh r.feats=true)(h2:pN r=e):eg r=e:=by rw[eg,if_neg (by rw[h0];simp),if_neg (by rw[h1];simp),if_neg (by rw[h];simp),h2]
def xA (f:Nat→Int):∀(k i:Nat),(kO f i k).1=0→kO f i k=(0,0)
 |0,_,_=>rfl
 |k+1,i,h=>by
  simp only[kO]at h⊢;by_cases hf:f i=0
  ·rw[if_pos hf]at h⊢;exact xA f k (i+1) h
  ·rw[if_neg hf]at h;exact absurd h hf
def ES {r:Rec}(h:(eg r).1=0):eg r=(0,0):=by
 unfold eg at h⊢;split
 ·rename_i h1;rw[if_pos h1]at h;exact absurd h h1
 ·rename_i h1;rw[if_neg h1]at h;split
  ·rename_i h2;rw[if_pos h2]at h;exact absurd h h2
  ·rename_i h2;rw[if_neg h2]at h;split
   ·rename_i h3;rw[if_pos h3]at h;cases h
   ·rename_i h3;rw[if_neg h3]at h;exact xA _ _ _ h
def lS {r:Rec}{e:Int×Int}(h0:ek r.name=true)(h1:eh r.v=true)(h2:¬8<r.needs.length)(h3:¬8<r.bars.length)(hp:eg r=e)(hn:e.1≠0):cd r=e:=by
 rw[cd,if_neg (by simp[h0]),if_neg (by simp[h1]),if_neg (by rintro(h|h);exact h2 h;exact h3 h),if_pos (by rw[hp];exact hn),hp]
def sc {r:Rec}(h0:ek r.name=true)(h1:eh r.v=true)(h2:¬8<r.needs.length)(h3:¬8<r.bars.length)(hp:eg r=(0,0)):cd r=if 4096<(eZ r).length then(3,0)else(0,0):=by
 rw[cd,if_neg (by simp[h0]),if_neg (by simp[h1]),if_neg (by rintro(h|h);exact h2 h;exact h3 h),if_neg (by rw[hp];simp)]
def sB (r:Rec):Prop:=(ek r.name=true∧eh r.v=true)∧(r.needs.length≤8∧r.bars.length≤8)∧eg r=(0,0)
def nU (n:Nat)(l:List ah):List ah:=if l.length≤n then l else l.take (n-1)++[aP [32] (l.drop (n-1))]
def cN (n:Nat)(op:Bool)(t:ah):List ah:=if op=true then nU n (ai t 32)else ai t 32
def ju (w:ah)(n:Nat)(op:Bool)(t:ah):Option (List ah):=
 if(cN n op t)[0]! =w∧(n=0∨(cN n op t).length=n)∧[]∉cN n op t then some (cN n op t)else none
def bo (w:ah)(n:Nat)(op:Bool):List ah→Option (List ah×List ah)
 |[]=>none
 |t::r=>match ju w n op t with
  |some l=>some (l,r)
  |none=>none
def bj (ls:List ah):ah×List ah:=match bo jQ 2 true ls with
 |some (l,r)=>(l[1]!,r)
 |none=>([],ls)
def qC (l:List ah):Bool:=decide (l[3]! =ir) ||decide (l[3]! =mK)
def eR (l:List ah):bz:=⟨l[1]!,l[4]!,if l[2]! =[45]then []else ai l[2]! 44,decide (l[3]! =ir)⟩
def bV:List ah→List bz×List ah
 |[]=>([],[])
 |t::r=>match ju jE 5 true t with
  |some l=>if qC l=true then(eR l::(bV r).1,(bV r).2)else([],t::r)
  |none=>([],t::r)
def p7 (ls:List ah):ah×List ah:=match bo dH 2 false ls with
 |some (l,r)=>(l[1]!,r)
 |none=>([],ls)
def cY (ls:List ah):bg×List ah:=(⟨(bV ls).1,(bj (bV ls).2).1,(p7 (bj (bV ls).2).2).1⟩,(p7 (bj (bV ls).2).2).2)
def iG:Nat→List ah→List bg×List ah
 |0,ls=>([],ls)
 |f+1,ls=>match bo gE 1 false ls with
  |some (_,r)=>((cY r).1::(iG f (cY r).2).1,(iG f (cY r).2).2)
  |none=>([],ls)
def lf:Nat→List ah→List iy×List ah
 |0,ls=>([],ls)
 |f+1,ls=>match bo iZ 3 true ls with
  |some (l,r)=>(⟨l[1]!,l[2]!,(bj r).1⟩::(lf f (bj r).2).1,(lf f (bj r).2).2)
  |none=>([],ls)
def dy:List ah→List bp×List ah
 |[]=>([],[])
 |t::r=>match ju cC 0 false t with
  |some l=>if 2≤l.length then(⟨l[1]!,l.drop 2⟩::(dy r).1,(dy r).2)else([],t::r)
  |none=>([],t::r)
def nw:Rec:=⟨[],iK,[],[],[]⟩
def ey (ls:List ah):List bg×List ah:=iG ls.length ls
def jF (ls:List ah):List iy×List ah:=lf ls.length ls
def r8 (nm:ah)(v:dq)(r:List ah):Rec×List ah:=(⟨nm,v,(ey r).1,(jF (ey r).2).1,(dy (jF (ey r).2).2).1⟩,(dy (jF (ey r).2).2).2)
def qf (ls:List ah):Option (Rec×List ah):=match bo de 3 false ls with
 |some (l,r)=>match lJ l[2]! with
  |some v=>some (r8 l[1]! v r)
  |none=>none
 |none=>none
def gM {w:ah}{n:Nat}{op:Bool}{ls l r:List ah}(h:bo w n op ls=some (l,r)):r.length+1=ls.length:=by
 match ls,h with
 |t::q,h=>
  simp only[bo]at h;split at h
  ·cases h;rfl
  ·cases h
 |[],h=>cases h
def qo (ls:List ah):(bj ls).2.length≤ls.length:=by
 unfold bj;split
 ·rename_i l r h;have:=gM h;simp only;omega
 ·exact Nat.le_refl _
def EH (ls:List ah):(p7 ls).2.length≤ls.length:=by
 unfold p7;split
 ·rename_i l r h;have:=gM h;simp only;omega
 ·exact Nat.le_refl _
def qP:∀ls:List ah,(bV ls).2.length≤ls.length
 |[]=>Nat.le_refl _
 |t::r=>by
  have:=qP r;simp only[bV];split
  ·split
   ·simp only[List.length_cons];omega
   ·exact Nat.le_refl _
  ·exact Nat.le_refl _
def uO (ls:List ah):(cY ls).2.length≤ls.length:=by
 have h1:=qP ls;have h2:=qo (bV ls).2;have h3:=EH (bj (bV ls).2).2;show(p7 (bj (bV ls).2).2).2.length≤_;omega
def uP:∀(f g:Nat)(ls:List ah),ls.length≤f→ls.length≤g→iG f ls=iG g ls
 |0,0,_,_,_=>rfl
 |0,g+1,ls,h,_=>by
  have:ls=[]:=List.length_eq_zero_iff.1 (by omega);subst this;rfl
 |f+1,0,ls,_,h=>by
  have:ls=[]:=List.length_eq_zero_iff.1 (by omega);subst this;rfl
 |f+1,g+1,ls,hf,hg=>by
  simp only[iG];cases h:bo gE 1 false ls with
  |none=>rfl
  |some p=>
   obtain⟨l,r⟩:=p;have h1:=gM h;have h2:=uO r;simp only;rw[uP f g _ (by omega) (by omega)]
def xk:∀(f g:Nat)(ls:List ah),ls.length≤f→ls.length≤g→lf f ls=lf g ls
 |0,0,_,_,_=>rfl
 |0,g+1,ls,h,_=>by
  have:ls=[]:=List.length_eq_zero_iff.1 (by omega);subst this;rfl
 |f+1,0,ls,_,h=>by
  have:ls=[]:=List.length_eq_zero_iff.1 (by omega);subst this;rfl
 |f+1,g+1,ls,hf,hg=>by
  simp only[lf];cases h:bo iZ 3 true ls with
  |none=>rfl
  |some p=>
   obtain⟨l,r⟩:=p;have h1:=gM h;have h2:=qo r;simp only;rw[xk f g _ (by omega) (by omega)]
def x8 {ls l r:List ah}(h:bo gE 1 false ls=some (l,r)):ey ls=((cY r).1::(ey (cY r).2).1,(ey (cY r).2).2):=by
 have h1:=gM h;have h2:=uO r;unfold ey;rw[←h1];simp only[iG,h];rw[uP r.length (cY r).2.length _ h2 (Nat.le_refl _)]
def x7 {ls:List ah}(h:bo gE 1 false ls=none):ey ls=([],ls):=by
 unfold ey
 match ls,h with
 |[],_=>rfl
 |t::r,h=>simp only[List.length_cons,iG,h]
def zj {ls l r:List ah}(h:bo iZ 3 true ls=some (l,r)):jF ls=(⟨l[1]!,l[2]!,(bj r).1⟩::(jF (bj r).2).1,(jF (bj r).2).2):=by
 have h1:=gM h;have h2:=qo r;unfold jF;rw[←h1];simp only[lf,h];rw[xk r.length (bj r).2.length _ h2 (Nat.le_refl _)]
def zi {ls:List ah}(h:bo iZ 3 true ls=none):jF ls=([],ls):=by
 unfold jF
 match ls,h with
 |[],_=>rfl
 |t::r,h=>simp only[List.length_cons,lf,h]
structure RdS where
 r:Rec
 st:Nat
 deriving Inhabited
def sk {f:Nat→Int}:∀{k i:Nat},pQ f i k=0→∀j,i≤j→j<i+k→f j=0
 |0,i,_,j,h1,h2=>absurd h2 (by omega)
 |k+1,i,h,j,h1,h2=>by
  simp only[pQ]at h;by_cases hf:f i=0
  ·rw[if_pos hf]at h;by_cases hj:j=i
   ·rw[hj];exact hf
   ·exact sk h j (by omega) (by omega)
  ·rw[if_neg hf]at h;exact absurd h hf
def zC {f:Nat→Int}{n:Nat}(h:fR f 0 n=0)(j:Nat)(hj:j<n):f j=0:=sk h j (by omega) (by omega)
def sn {f:Nat→Int}:∀{k i:Nat},(kO f i k).1=0→∀j,i≤j→j<i+k→f j=0
 |0,i,_,j,h1,h2=>absurd h2 (by omega)
 |k+1,i,h,j,h1,h2=>by
  simp only[kO]at h;by_cases hf:f i=0
  ·rw[if_pos hf]at h;by_cases hj:j=i
   ·rw[hj];exact hf
   ·exact sn h j (by omega) (by omega)
  ·rw[if_neg hf]at h;exact absurd h hf
def zB {f:Nat→Int}{n:Nat}(h:(eO f 0 n).1=0)(j:Nat)(hj:j<n):f j=0:=sn h j (by omega) (by omega)
def bz.fit (w:bz):Prop:=w.sm∧(w.feats.length≤6∧∀t∈w.feats,t.length≤12)
def bg.fit (n:bg):Prop:=(n.any.length≤3∧∀w∈n.any,w.fit)∧n.when'.length≤1048576∧n.option.length≤1048576
def bp.fit (x:bp):Prop:=x.sm∧x.of.length≤6
structure Rec.fit (r:Rec):Prop where
 nm:r.name.length≤1048576
 v:r.v.sm
 ns:r.needs.length≤8
 n:∀x∈r.needs,x.fit
 bs:r.bars.length≤8
 b:∀x∈r.bars,x.sm
 fs:r.feats.length≤8
 f:∀x∈r.feats,x.fit
def rM {α:Type} [Inhabited α]{l:List α}{x:α}(h:x∈l):∃i,i<l.length∧l[i]! =x:=by
 obtain⟨i,hi,e⟩:=List.mem_iff_getElem.1 h;exact⟨i,hi,by rw[←e];simp[hi]⟩
def FD {r:Rec}{w:bz}{al:Bool}(h:jA r w al=0)(hs:w.sm):w.fit:=by
 refine⟨hs, ?_⟩;unfold jA at h;split at h
 ·rename_i h1;exact absurd h h1
 ·split at h
  ·cases h
  ·rename_i h2;simp only[jR,Bool.not_eq_false,Bool.and_eq_true,decide_eq_true_eq,dr]at h2;refine⟨h2.1.1,fun t ht=>?_⟩;obtain⟨i,hi,rfl⟩:=rM ht;have:=h2.2 i (by omega) hi;simp only[Kq,bI,Bool.and_eq_true,decide_eq_true_eq]at this;exact this.1.1.2
def Es {r:Rec}{n:bg}(h:iP r n=0)(hs:n.sm):n.fit:=by
 unfold iP at h;split at h
 ·cases h
 split at h
 ·cases h
 rename_i h1 h2;split at h
 ·rename_i h3;exact absurd h h3
 rename_i h3;refine⟨⟨by omega,fun w hw=>?_⟩,hs.2⟩;obtain⟨i,hi,rfl⟩:=rM hw;exact FD (zC (Classical.not_not.1 h3) i hi) (hs.1 _ hw)
def B9 {r:Rec}(h:sB r∧il r):r.fit:=by
 obtain⟨⟨_,⟨h1,h2⟩,hp⟩,⟨s1,s2⟩,s3,s4,s5⟩:=h;have h0:(jt r).1=0∧fh r.feats=true:=by
  unfold eg at hp;split at hp
  ·rename_i h;rw[hp]at h;exact absurd rfl h
  split at hp
  ·rename_i h;rw[hp]at h;exact absurd rfl h
  split at hp
  ·cases hp
  rename_i a b c;exact⟨Classical.not_not.1 a,by simpa using c⟩
 obtain⟨h3,h4⟩:=h0;simp only[fh,Bool.and_eq_true,decide_eq_true_eq,dr]at h4;refine⟨s1,s2,h1,fun x hx=>?_,h2,s4,h4.1,fun x hx=>⟨s5 x hx, ?_⟩⟩
 ·obtain⟨i,hi,rfl⟩:=rM hx;exact Es (zB h3 i hi) (s3 _ hx)
 ·obtain⟨i,hi,rfl⟩:=rM hx;have:=h4.2 i (by omega) hi;simp only[jU,sE,Bool.and_eq_true,decide_eq_true_eq]at this;exact this.2.1.1
def jb (x:UInt8)(B:Nat):∀l:List ah,(∀t∈l,t.length≤B)→(aP [x] l).length≤l.length*(B+1)
 |[],_=>by simp[aP]
 |[t],h=>by have:=h t (.head _);simp only[aP,List.length_cons,List.length_nil];omega
 |t::u::r,h=>by
  have h1:=h t (.head _);have h2:=jb x B (u::r) fun y hy=>h y (.tail _ hy)
  simp only[aP,List.length_append,List.length_cons,List.length_nil,Nat.succ_mul]at h2⊢;omega
def Ax {w:bz}(h:w.fit):(aP [44] w.feats).length≤6291462:=by
 have h1:=jb 44 1048576 w.feats h.1.2;have h2:=Nat.mul_le_mul_right (1048576+1) h.2.1;omega
def wQ {w:bz}(h:w.fit):(aP [44] w.feats).length≤78:=by
 have h1:=jb 44 12 w.feats h.2.2;have h2:=Nat.mul_le_mul_right (12+1) h.2.1;omega
def iS (w:bz):ah:=bt (lz w)
def vC {w:bz}(h:w.fit):(iS w).length≤8400000:=by
 have h1:=Ax h;have h2:=h.1.1;simp only[iS,bt,lz,aP,List.length_append,List.length_cons,List.length_nil];split<;>split<;>simp only[jE,ir,mK,List.length_append,List.length_cons,List.length_nil]<;>omega
def nb {s:ah}(h:s.length≤1048576):(gF s).length≤1048590:=by
 unfold gF;split
 ·simp
 ·simp only[bt,aP,jQ,List.length_append,List.length_cons,List.length_nil];omega
def EK {s:ah}(h:s.length≤1048576):(ud s).length≤1048590:=by
 unfold ud;split
 ·simp
 ·simp only[bt,aP,dH,List.length_append,List.length_cons,List.length_nil];omega
def oT {α:Type}(q:α→ah)(B:Nat){l:List α}(h:∀x∈l,(q x).length≤B)(i:Nat):(((l.take i).map q).flatten).length≤i*B:=by
 have h1:=ma q B (l.take i) fun x hx=>h x (List.mem_of_mem_take hx)
 have h2:=Nat.mul_le_mul_right B (List.length_take_le i l);omega
def mX {α:Type} [Inhabited α](q:α→ah){l:List α}{i:Nat}(h:i<l.length):((l.take (i+1)).map q).flatten=((l.take i).map q).flatten++q l[i]! :=by
 rw[List.take_add_one,List.getElem?_eq_getElem h,List.map_append,List.flatten_append];simp[h]
def CA {n:bg}(h:n.fit):(lv n).length≤27400000:=by
 have h1:=ma iS 8400000 n.any fun w hw=>vC (h.1.2 w hw)
 have h2:=Nat.mul_le_mul_right 8400000 h.1.1;have h3:=nb h.2.1;have h4:=EK h.2.2;have h5:(bt [gE]).length=5:=rfl;unfold iS at h1;simp only[lv,List.length_append];omega
def Dz {b:iy}(h:b.sm):(qU b).length≤3145800:=by
 have h1:=nb h.2.2;have h2:=h.1;have h3:=h.2.1;simp only[qU,bt,aP,iZ,List.length_append,List.length_cons,List.length_nil];omega
def BU {x:bp}(h:x.fit):(nE x).length≤8400000:=by
 have h1:=jb 32 1048576 ([cC,x.name]++x.of) (by
  intro t ht;simp only[List.cons_append,List.nil_append,List.mem_cons]at ht;rcases ht with rfl|rfl|ht
  ·simp[cC]
  ·exact h.1.1
  ·exact h.1.2.2 _ ht)
 have h2:=h.2;have h3:([cC,x.name]++x.of).length≤8:=by simp only[List.length_append,List.length_cons,List.length_nil];omega
 have h4:=Nat.mul_le_mul_right (1048576+1) h3;simp only[nE,bt,List.length_append,List.length_cons,List.length_nil]at h1 h4⊢;omega
def Cb {r:Rec}(h1:r.name.length≤1048576)(h2:r.v.sm):(mh r).length≤3145800:=by
 have h3:=yK r.v h2;simp only[mh,bt,aP,de,List.length_append,List.length_cons,List.length_nil];omega
def cq (n:bg)(j:Nat):ah:=bt [gE]++((n.any.take j).map iS).flatten
def kU {n:bg}{j:Nat}(h:j<n.any.length):cq n (j+1)=cq n j++iS n.any[j]! :=by simp only[cq,mX iS h,List.append_assoc]
def Cy {n:bg}{j:Nat}(h:n.any.length≤j):lv n=cq n j++gF n.when'++ud n.option:=by
 rw[cq,List.take_of_length_le h];rfl
def Cz {n:bg}(h:n.fit)(j:Nat)(hj:j≤3):(cq n j).length≤25200005:=by
 have h1:=oT iS 8400000 (fun w hw=>vC (h.1.2 w hw)) j;have h2:=Nat.mul_le_mul_right 8400000 hj;have h5:(bt [gE]).length=5:=rfl;simp only[cq,List.length_append];omega
def hH (r:Rec)(i:Nat):ah:=mh r++((r.needs.take i).map lv).flatten
def tL (r:Rec)(i:Nat):ah:=hH r r.needs.length++((r.bars.take i).map qU).flatten
def wN (r:Rec)(i:Nat):ah:=tL r r.bars.length++((r.feats.take i).map nE).flatten
def Ij (r:Rec):hH r 0=mh r:=by simp[hH]
def Ik (r:Rec):tL r 0=hH r r.needs.length:=by simp[tL]
def Il (r:Rec):wN r 0=tL r r.bars.length:=by simp[wN]
def Bv (r:Rec):wN r r.feats.length=eZ r:=by simp only[wN,tL,hH,List.take_length,eZ]
def kE {r:Rec}{i:Nat}(h:i<r.needs.length):hH r (i+1)=hH r i++lv r.needs[i]! :=by simp only[hH,mX lv h,List.append_assoc]
def Fy {r:Rec}{i:Nat}(h:i<r.bars.length):tL r (i+1)=tL r i++qU r.bars[i]! :=by simp only[tL,mX qU h,List.append_assoc]
def Fz {r:Rec}{i:Nat}(h:i<r.feats.length):wN r (i+1)=wN r i++nE r.feats[i]! :=by simp only[wN,mX nE h,List.append_assoc]
def Bt {r:Rec}(h:r.fit)(i:Nat)(hi:i≤r.needs.length):(hH r i).length≤222400000:=by
 have a0:=Cb h.nm h.v;have a1:=oT lv 27400000 (fun x hx=>CA (h.n x hx)) i;have b1:=Nat.mul_le_mul_right 27400000 (Nat.le_trans hi h.ns);simp only[hH,List.length_append];omega
def Bu {r:Rec}(h:r.fit)(i:Nat)(hi:i≤r.bars.length):(tL r i).length≤247600000:=by
 have a0:=Bt h r.needs.length (Nat.le_refl _);have a1:=oT qU 3145800 (fun x hx=>Dz (h.b x hx)) i;have b1:=Nat.mul_le_mul_right 3145800 (Nat.le_trans hi h.bs);simp only[tL,List.length_append];omega
def HE {r:Rec}(h:r.fit)(i:Nat)(hi:i≤r.feats.length):(wN r i).length≤314800000:=by
 have a0:=Bu h r.bars.length (Nat.le_refl _);have a1:=oT nE 8400000 (fun x hx=>BU (h.f x hx)) i;have b1:=Nat.mul_le_mul_right 8400000 (Nat.le_trans hi h.fs);simp only[wN,List.length_append];omega
def xn {r:Rec}(h:(cd r).1=0):sB r:=by
 unfold cd at h;split at h
 ·cases h
 split at h
 ·cases h
 split at h
 ·cases h
 rename_i a b c;split at h
 ·rename_i d;exact absurd h d
 rename_i d;exact⟨⟨by simpa using a,by simpa using b⟩,⟨by omega,by omega⟩,ES (Classical.not_not.1 d)⟩
def Au (r:Rec):Int:=if(ez r).2≠0 then 0 else ou (ez r).1
def oV (l:List ah)(x:ah)(i:Nat):Int:=match(l.drop i).findIdx? (fun t=>decide (x=t))with
 |some k=>((i+k:Nat):Int)
 |none=>-1
def GL {l:List ah}{x:ah}{i:Nat}(h:i<l.length)(he:x=l[i]!):oV l x i=(i:Nat):=by
 unfold oV;rw[List.drop_eq_getElem_cons h,List.findIdx?_cons];have:x=l[i]:=by simpa[h]using he
 simp[←this]
def GM {l:List ah}{x:ah}{i:Nat}(h:i<l.length)(he:¬x=l[i]!):oV l x i=oV l x (i+1):=by
 unfold oV;have:¬x=l[i]:=by simpa[h]using he
 rw[List.drop_eq_getElem_cons h,List.findIdx?_cons];simp only[this,decide_false,Bool.false_eq_true,if_false];cases(l.drop (i+1)).findIdx? (fun t=>decide (x=t))with
 |none=>rfl
 |some k=>simp only[Option.map_some];congr 1;omega
def D8 {l:List ah}{x:ah}{i:Nat}(h:l.length≤i):oV l x i=-1:=by
 unfold oV;rw[List.drop_eq_nil_of_le h];rfl
def D9 (l:List ah)(x:ah):decide (0≤oV l x 0)=decide (x∈l):=by
 unfold oV;rw[List.drop_zero];cases h:l.findIdx? (fun t=>decide (x=t))with
 |none=>
  have:=List.findIdx?_eq_none_iff.1 h;have hn:x∉l:=fun hm=>by have:=this x hm;simp at this
  simp[hn]
 |some k=>
  obtain⟨hk,hx,_⟩:=List.findIdx?_eq_some_iff_getElem.1 h;have hm:x∈l:=by
   have:x=l[k]:=by simpa using hx
   rw[this];exact List.getElem_mem hk
  simp[hm]
structure Ld where
 ls:List ah
 at':Nat
 deriving Inhabited,DecidableEq
def Ld.D (r:Ld):D:=.agg [.sl 1 (r.ls.map D.str),.int .i64 (r.at':Nat)]
def Ld.rest (r:Ld):List ah:=r.ls.drop r.at'
def Ld.sm (r:Ld):Prop:=(r.at'≤r.ls.length∧r.ls.length≤1048577)∧∀t∈r.ls,t.length≤1048576
def Ld.to (r:Ld)(q:List ah):Ld:=⟨r.ls,r.ls.length-q.length⟩
def gh (n:Int)(t:ah):List ah:=if n<0 then ai t 32 else nU n.toNat (ai t 32)
def vD (n:Nat)(op:Bool)(t:ah):gh (if op=true then(n:Int)else-1) t=cN n op t:=by
 unfold gh cN;cases op
 ·rfl
 ·have:¬(n:Int)<0:=by omega
  simp[this]
def uc:Option (List ah×List ah)→D
 |none=>.au
 |some (l,_)=>.sl 1 (l.map D.str)
def Ld.after (r:Ld)(o:Option (List ah×List ah)):Ld:=match o with
 |none=>r
 |some _=>⟨r.ls,r.at'+1⟩
def Ld.Fi {r:Ld}(h:r.ls.length≤r.at'):r.rest=[]:=List.drop_eq_nil_of_le h
def Ld.m7 {r:Ld}(h:r.at'<r.ls.length):r.rest=r.ls[r.at']! ::r.ls.drop (r.at'+1):=by
 unfold Ld.rest;rw[List.drop_eq_getElem_cons h];simp[h]
def C6 (n:Nat)(op:Bool)(t:ah)(h:op=true→1≤n):1≤(cN n op t).length:=by
 have hs:1≤(ai t 32).length:=by
  exact fB 32 t []
 unfold cN;split
 ·rename_i ho;have:=h ho;unfold nU;split
  ·exact hs
  ·simp
 ·exact hs
def x9 {w:ah}{n:Nat}{op:Bool}{t:ah}(h:((¬(cN n op t)[0]! =w∨((cN n op t).length:Int)<1)∨((0:Int)<n∧¬((cN n op t).length:Int)=n))∨[]∈cN n op t)(h1:1≤(cN n op t).length):ju w n op t=none:=by
 rw[ju,if_neg];rintro⟨a,b,c⟩;rcases h with((h|h)|h)|h
 ·exact h a
 ·omega
 ·rcases b with b|b<;>omega
 ·exact c h
def uR {w:ah}{n:Nat}{op:Bool}{t:ah}(h:(((cN n op t)[0]! =w∧¬((cN n op t).length:Int)<1)∧(¬(0:Int)<n∨((cN n op t).length:Int)=n))∧¬[]∈cN n op t):ju w n op t=some (cN n op t):=by
 rw[ju,if_pos ⟨h.1.1.1,by rcases h.1.2 with h|h<;>omega,h.2⟩]
def anyL (t:ah):Option (List ah):=match ju jE 5 true t with
 |some l=>if qC l=true then some l else none
 |none=>none
def No (p:ah→Option (List ah))(ls:List ah):Prop:=∀t r,ls=t::r→p t=none
def c9 {w:ah}{n:Nat}{op:Bool}{ls l r:List ah}(h:bo w n op ls=some (l,r)):∃t,ls=t::r∧ju w n op t=some l:=by
 match ls,h with
 |[],h=>cases h
 |t::q,h=>
  simp only[bo]at h;split at h
  ·rename_i l' hl;simp only[Option.some.injEq,Prod.mk.injEq]at h;obtain⟨rfl,rfl⟩:=h;exact⟨t,rfl,hl⟩
  ·cases h
def Stop (s:Nat)(ls:List ah):Prop:=(s=2→No anyL ls∧No (ju jQ 2 true) ls)∧(s=2∨s=3→No (ju dH 2 false) ls)∧(s=5→No (ju jQ 2 true) ls)
def nA (m:List (Nat×aV))(l:Nat)(t:List UInt8):Prop:=(∃u,look m l=some (.bld none 0 u)∧t=[])∨(∃l2 u,look m l=some (.bld (some l2) t.length u)∧look m l2=some (.row t))
@[go_sem] def dp (m:List (Nat×aV))(l:Nat):List (Nat×aV):=match look m l with
 |some (.bld (some l2) _ _)=>bK m l2
 |_=>m
@[go_sem] def lQ (m:List (Nat×aV))(l L:Nat)(t:List UInt8):List (Nat×aV):=(L,.row t)::bO (dp m l) l (.bld (some L) t.length true)
def TrW (UO:D)(s:List UInt8)(ds:List D)(st:St)(K:D→St→Prop):Prop:=∃l t,ds=[.ptr l 2 0 0,UO]∧nA st.m l t∧l<st.nx∧s≠[]∧t.length+s.length≤1099511627776∧K .any ⟨st.nx+1,lQ st.m l st.nx (t++s)⟩
def MV (ds:List D)(st:St)(K:D→St→Prop):Prop:=∃s,TrW (.str s) s ds st K
def MU (ds:List D)(st:St)(K:D→St→Prop):Prop:=∃c,TrW (.int .u8 c.toNat) [c] ds st K
def MT (ds:List D)(st:St)(K:D→St→Prop):Prop:=∃l t,ds=[.ptr l 2 0 0]∧nA st.m l t∧t≠[]∧K (.str t) ⟨st.nx,bK (dp st.m l) l⟩
def IG (Γ:Ctx):Prop:=∀(ds:List D)(st:St)(K:D→St→Prop),MV ds st K→Γ.tr 489 ds st K
def IK (Γ:Ctx):Prop:=∀(ds:List D)(st:St)(K:D→St→Prop),MU ds st K→Γ.tr 664 ds st K
def ID (Γ:Ctx):Prop:=∀(ds:List D)(st:St)(K:D→St→Prop),MT ds st K→Γ.tr 452 ds st K
def Ce (b a:ah)(l:List ah)(h:a≠[]):aP b (a::l)≠[]:=by
 match l with
 |[]=>exact h
 |c::r=>
  rw[ew b a (c::r) (by simp)];intro e;have:=List.append_eq_nil_iff.1 e;exact h (List.append_eq_nil_iff.1 this.1).1
def vN (ws:List ah)(t:ah):Prop:=(aP [32] ws≠[]∧ws.length≤1048600)∧(∀w∈ws,w.length≤2097200)∧t.length+(aP [32] ws).length+1≤1099511627776
def vN.mk {a:ah}{l:List ah}{t:ah}(h1:a≠[])(h2:l.length≤99)(h3:∀w∈a::l,w.length≤2097200)(h4:t.length≤1000000000):vN (a::l) t:=by
 have h5:=jb 32 2097200 (a::l) h3;have h6:(a::l).length≤100:=by simp only[List.length_cons];omega
 have h7:=Nat.mul_le_mul_right (2097200+1) h6;exact⟨⟨Ce _ _ _ h1,by omega⟩,h3,by omega⟩
def IB (Γ:Ctx):Prop:=∀(ws:List ah)(t:ah)(l lw nx:Nat)(m:List (Nat×aV))(K:D→St→Prop),nA m l t→look m lw=some (.buf 1 (ws.map D.str))→l<nx→lw<nx→vN ws t→
 K (.tup []) ⟨nx+1,lQ (bK m lw) l nx (t++bt ws)⟩→Γ.tr 450 [.ptr l 2 0 0,.own lw 1 0 ws.length] ⟨nx,m⟩ K
def pY {m:List (Nat×aV)}{l L:Nat}{t:List UInt8}(h:l≠L):look (lQ m l L t) l=some (.bld (some L) t.length true)∧look (lQ m l L t) L=some (.row t):=by
 constructor
 ·simp only[lQ,look,if_neg (fun e=>h (Eq.symm e))]
  haveI:bS:={gd:=fun _=>True,le:=fun _ _ _ _ _=>trivial}
  rw[bh,if_pos rfl]
 ·simp only[lQ,look,if_pos]
def Gd {m:List (Nat×aV)}{l L:Nat}{t:List UInt8}(h:l≠L):nA (lQ m l L t) l t:=.inr ⟨L,true,pY h⟩
end Go.Abs
