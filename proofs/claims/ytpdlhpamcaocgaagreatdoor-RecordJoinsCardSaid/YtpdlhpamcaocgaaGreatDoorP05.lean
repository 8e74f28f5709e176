/- A part of the proofs of the statements: AbsZ, LAsmG, LAsmR, RData, LPlain1, LPlain2, LPlain3, RSpec1, RSpec2, RSpec3, RSpec4, RSpec5, RSpec6, RPrs, RSpec7, RSpec8, RSpec9, RSpec10, RSpec11, RSpec12, RSpec13, RBldC, RSpec14. -/
import Derived.Test.YtpdlhpamcaocgaaGreatDoorP04
set_option linter.all false
set_option maxRecDepth 4000
section
namespace Go.Abs
variable [bQ]
section
variable {P:Program} {ν:List (Nat×Nat)} {bx:List Nat} {Γ:Ctx}
def RD.re {x x':X}{σ:List (Nat×Nat)}(hw:x'.w=x.w)(hI:x'.I=x.I)(hβ:∀l l',j6 0 σ l=some l'→x'.β l'=x.β l){v:Value}{d d':D}(hv:RD ν x v d)(hd:Ff 0 σ d d'):RD ν x' v d':=by
 rcases hd with⟨rfl,hn⟩|hd|hd
 ·exact hv.aI hn (fun _ h=>by rw[hI];exact h) (fun _ _=>by rw[hw])
 ·exact RD.rn (x:=x) (x':=x') hw hI hβ hv _ hd
 ·exact RD.nl (x:=x) (x':=x') hw hI hv _ hd
def jU.re {x x':X}{σ:List (Nat×Nat)}(hw:x'.w=x.w)(hI:x'.I=x.I)(hβ:∀l l',j6 0 σ l=some l'→x'.β l'=x.β l){b base tot:Nat}{b0 blk:aU}(o2:jU ν x b base tot b0)(q3:nu 0 σ b0 blk):jU ν x' b base tot blk:=by
 cases b0 with
 |iter s p=>
  cases blk with
  |iter s' p'=>simp only[nu]at q3;obtain⟨rfl,rfl⟩:=q3;simp only[jU,hw]at o2⊢;exact o2
  |_=>simp[nu]at q3
 |row s=>
  cases blk with
  |row s'=>simp only[nu]at q3;subst q3;simp only[jU,hw]at o2⊢;exact o2
  |_=>simp[nu]at q3
 |bld o n u=>
  cases blk with
  |bld o' n' u'=>
   simp only[nu]at q3;obtain⟨q3,rfl,rfl⟩:=q3;obtain⟨p1,v,p2,p3⟩:=o2;refine⟨p1,v,by rw[hw];exact p2, ?_⟩;cases o with
   |none=>simp only at q3;subst q3;exact p3
   |some l0=>
    obtain⟨l1,q4,rfl⟩:=q3;obtain⟨g,t,p4,p5,p6⟩:=p3;exact⟨g,t,p4,p5,by rw[hβ l0 l1 q4];exact p6⟩
  |_=>simp[nu]at q3
 |buf k es=>
  cases blk with
  |iter s' p'=>simp[nu]at q3
  |row s'=>simp[nu]at q3
  |bld o' n' u'=>simp[nu]at q3
  |buf k' es'=>
   simp only[nu]at q3;obtain⟨rfl,q3⟩:=q3;obtain⟨p1,p2,cc,T,fr,p3,p4,p5,p6⟩:=o2;rw[←hw]at p3;rcases q3 with⟨rfl,hn⟩|q3|q3
   ·exact⟨p1,p2,cc,T,fr,p3,p4,p5,fun i hi=>⟨(p6 i hi).1,fun j hj=>⟨((p6 i hi).2 j hj).1,RD.re hw hI hβ ((p6 i hi).2 j hj).2 (.inl ⟨rfl,gO (bO hn i) j⟩)⟩⟩⟩
   ·obtain⟨r1,r2⟩:=iq q3;refine⟨p1,by omega,cc,T,fr,p3,p4,p5,fun i hi=>?_⟩;have hi':i<es.length:=by omega
    obtain⟨s1,s2⟩:=uR (r2 i hi');exact⟨s1.trans (p6 i hi').1,fun j hj=>⟨((p6 i hi').2 j hj).1,RD.re hw hI hβ ((p6 i hi').2 j hj).2 (.inr (.inl (s2 j (by rw[(p6 i hi').1];exact hj))))⟩⟩
   ·obtain⟨r1,r2⟩:=lJ q3;refine⟨p1,by omega,cc,T,fr,p3,p4,p5,fun i hi=>?_⟩;have hi':i<es.length:=by omega
    obtain⟨s1,s2⟩:=ud (r2 i hi');exact⟨s1.trans (p6 i hi').1,fun j hj=>⟨((p6 i hi').2 j hj).1,RD.re hw hI hβ ((p6 i hi').2 j hj).2 (.inr (.inr (s2 j (by rw[(p6 i hi').1];exact hj))))⟩⟩
def AS {lo c:Nat}{σ:List (Nat×Nat)}{l l':Nat}(h0:eB 0 c σ=true)(h:j6 0 σ l=some l'):l'<c∧(l,l')∈σ:=by
 obtain⟨h1,h2⟩:=o9 h0 h;rcases h2 with⟨h2,_⟩|⟨_,h2⟩
 ·omega
 ·exact⟨h1,h2⟩
def oT {c:Nat}:∀{σ:List (Nat×Nat)}{a b:Nat},eB 0 c σ=true→(a,b)∈σ→j6 0 σ a=some b
 |[],a,b,_,h=>by cases h
 |(a0,b0)::r,a,b,h0,h=>by
  unfold j6;simp only[eB,Bool.and_eq_true,List.all_eq_true,Bool.not_eq_true']at h0;obtain⟨_,_,p4,p5⟩:=h0;rcases List.mem_cons.1 h with h|h
  ·simp only[Prod.mk.injEq]at h;obtain⟨rfl,rfl⟩:=h;simp
  ·have:=(p4 _ h).1;simp only at this;have hne:Nat.beq a0 a=false:=by
    cases hb:Nat.beq a0 a with
    |false=>rfl
    |true=>obtain rfl:=Nat.eq_of_beq_eq_true hb;simp at this
   rw[hne];exact oT p5 h
structure Fr (σi σo:List (Nat×Nat))(q q1:Nat)(m0 m1:List (Nat×aU))(st st':St):Prop where
 oki:eB 0 q σi=true
 oko:eB 0 st'.nx σo=true
 nx:st.nx≤st'.nx
 lt:∀l i,(l,i)∈σi→look st.m l≠none
 io:∀i l,(i,l)∈σo→(l,i)∈σi∨st.nx≤l
 m0:∀i b,look m0 i=some b→∃l b',(l,i)∈σi∧look st.m l=some b'∧nu 0 σi b' b
 m1:∀l b,look st'.m l=some b→(∃i b1,(i,l)∈σo∧look m1 i=some b1∧nu 0 σo b1 b)∨(jm σo l=none∧(∀i,(l,i)∉σi)∧look st.m l=some b)
def FX {fid:Nat}{fn:Func}{af:aB}{K:D→St→Prop}(hΓ:Ok P ν bx Γ)(hmix:P.follows .mixedOrders=true)(hf:P.funcs[fid]? =some fn)(hc:compile P ν bx fn=some af)
  {x:X} {args:Array Value} {ds cs:List D} {st:St} {σi:List (Nat×Nat)} {q:Nat} {m0:List (Nat×aU)} (hl:args.size=ds.length) (hargs:∀i,i<ds.length→RD ν x (args.getD i undef) (ds.getD i .any))
  (hs:dm ν x (look st.m)) (hfr:df st x) (hlen:cs.length=ds.length) (hds:∀i,i<ds.length→Ff 0 σi (ds.getD i .any) (cs.getD i .any)) (hnp:cs.length=af.np)
  (oki:eB 0 q σi=true) (hlt:∀l i,(l,i)∈σi→look st.m l≠none) (hm0:∀i b,look m0 i=some b→∃l b',(l,i)∈σi∧look st.m l=some b'∧nu 0 σi b' b)
  (hw:bz (Γ.at q) af.body (fun e env st1=>e.home∧lD st1.m env af.res∧∃(σo:List (Nat×Nat)) (q1:Nat) (m1:List (Nat×aU)) (st':St) (vd':D),Fr σi σo q q1 m0 m1 st st'∧Ff 0 σo (gU af env st1) vd'∧K vd' st'∧∀i,look st1.m i=look m1 i) (et af cs) ⟨q,m0⟩):
  Calls P fid args x.w fun
   | .returned v,w'=>∃x' d st',K d st'∧x'.w=w'∧Step x x'∧RD ν x' v d∧dm ν x' (look st'.m)∧df st' x'
   |_,_=>False:=by
 obtain⟨body,c1,c2,c3,c4,c5,c6⟩:=eD hc
 let x0:X:=⟨x.w,x.I,fun i=>(jm σi i).bind x.β⟩
 have hx0:∀l i,(l,i)∈σi→x0.β i=x.β l:=fun l i h=>by simp only[x0,rD oki h,Option.bind_some]
 have hβ0:∀l i,j6 0 σi l=some i→x0.β i=x.β l:=fun l i h=>hx0 l i (AS (lo:=0) oki h).2
 have hx0':∀i p,x0.β i=some p→∃l,(l,i)∈σi∧x.β l=some p∧i<q:=by
  intro i p h;obtain⟨l,h1,h2⟩:=Option.bind_eq_some_iff.1 (show(jm σi i).bind x.β=some p from h);exact⟨l,ig h1,h2,mI oki (ig h1)⟩
 have hs0:dm ν x0 (look m0):=by
  refine⟨fun i blk b base tot e1 e2=>?_,fun i j b base tot base' tot' e1 e2 e3 e4=>?_,hs.imm,fun i b base tot e=>?_,bQ.le x _ (fun _ h=>h) (fun _ _=>rfl) hs.gd⟩
  ·obtain⟨l,b',h1,h2,h3⟩:=hm0 i blk e1;rw[hx0 l i h1]at e2;obtain⟨o1,o2⟩:=hs.own l b' b base tot h2 e2;exact⟨o1,jU.re (x:=x) (x':=x0) rfl rfl hβ0 o2 h3⟩
  ·obtain⟨l,h1,h2,_⟩:=hx0' i _ e3;obtain⟨l',h1',h2',_⟩:=hx0' j _ e4;have:=hs.inj l l' b base tot base' tot' (hlt _ _ h1) (hlt _ _ h1') h2 h2';subst this;have:=oT oki h1;rw[oT oki h1']at this;exact(Option.some.inj this).symm
  ·obtain⟨l,_,h2,_⟩:=hx0' i _ e;exact hs.cG l b base tot h2
 have hf0:df ⟨q,m0⟩ x0:=by
  refine⟨fun i hi=>?_,fun i hi=>?_⟩
  ·cases h:x0.β i with
   |none=>rfl
   |some p=>obtain⟨_,_,_,h4⟩:=hx0' i p h;simp only at hi;omega
  ·cases h:look m0 i with
   |none=>exact absurd h hi
   |some b=>obtain⟨l,b',h1,_⟩:=hm0 i b h;exact mI oki h1
 have hi:=qf (P:=P) (ν:=ν) (bx:=bx) (x:=x0) (ds:=cs) (st:=⟨q,m0⟩) c4 c5 c6 (args:=args) (by omega) hnp (fun i hi=>RD.re (x:=x) (x':=x0) rfl rfl hβ0 (hargs i (by omega)) (hds i (by omega))) hs0 hf0;have hcs:=nK (C:={P,ν,bx,slots:=slotsOf fn,ntmps:=fn.ntmps,vm:=Cv P fn}) (hΓ.at q) (jP fn).1 hmix x0 (fun l h=>hf0.β l h) body af.body c2 _ _ _ _ x0 hw hi (.refl _);refine calls_of_wp hf c1 (wp_mono hcs fun e a w' hp=>?_);obtain⟨e',x',env',st1,he,hxw,hst,hi',hh,hro,σo,q1,m1,st',vd',hfm,hvd,hK,hlk⟩:=hp;subst hxw;obtain⟨v,r1,r2,r3⟩:=my hi' c3 hro
 let x2:X:=⟨x'.w,x'.I,fun l=>match jm σo l with|some i=>x'.β i|none=>x.β l⟩
 have hx2:∀i l,(i,l)∈σo→x2.β l=x'.β i:=fun i l h=>by simp only[x2,rD hfm.oko h]
 have hx2n:∀l,jm σo l=none→x2.β l=x.β l:=fun l h=>by simp only[x2,h]
 have hβ2:∀i l,j6 0 σo i=some l→x2.β l=x'.β i:=fun i l h=>hx2 i l (AS (lo:=0) hfm.oko h).2
 have hx0s:∀l i p,(l,i)∈σi→x.β l=some p→x'.β i=some p:=fun l i p h e=>hst.β _ _ (by rw[hx0 l i h];exact e)

 have hnew:∀i p,x'.β i=some p→(∃l,(l,i)∈σi∧x.β l=some p)∨x.w.heap.size≤p.1∨∃l p',(∃j,(l,j)∈σi)∧x.β l=some p'∧p'.1=p.1:=by
  intro i p e;rcases hst.newβ i p e with h|h|⟨j,p',h1,h2⟩
  ·obtain⟨l,h3,h4,_⟩:=hx0' i p h;exact .inl ⟨l,h3,h4⟩
  ·exact .inr (.inl h)
  ·obtain⟨l,h3,h4,_⟩:=hx0' j p' h1;exact .inr (.inr ⟨l,p',⟨j,h3⟩,h4,h2⟩)
 have hstep:Step x x2:=by
  refine⟨hst.os,hst.tape,hst.output,hst.size,hst.I,hst.kR,fun l p hp=>?_,fun b hb hn=>hst.old b hb fun i p h e=>?_,fun b h=>?_,fun l p h=>?_⟩
  ·cases h:jm σo l with
   |none=>rw[hx2n l h];exact hp
   |some i=>
    have hm:=ig h;rw[hx2 i l hm];rcases hfm.io i l hm with h2|h2
    ·exact hx0s l i p h2 hp
    ·rw[hfr.β l h2]at hp;cases hp
  ·obtain⟨l,_,h2,_⟩:=hx0' i p h;exact hn l p h2 e
  ·rcases hst.newI b h with h|h|⟨i,p,h1,h2⟩
   ·exact .inl h
   ·exact .inr (.inl h)
   ·obtain⟨l,_,h3,_⟩:=hx0' i p h1;exact .inr (.inr ⟨l,p,h3,h2⟩)
  ·cases h1:jm σo l with
   |none=>rw[hx2n l h1]at h;exact .inl h
   |some i=>
    have hm:=ig h1;rw[hx2 i l hm]at h;rcases hnew i p h with⟨l',h2,h3⟩|h2|⟨l',p',_,h3,h4⟩
    ·exact .inr (.inr ⟨l',p,h3,rfl⟩)
    ·exact .inr (.inl h2)
    ·exact .inr (.inr ⟨l',p',h3,h4⟩)
 have hsim:dm ν x2 (look st'.m):=by
  refine⟨fun l blk b base tot e1 e2=>?_,fun l1 l2 b base tot base' tot' e1 e2 e3 e4=>?_,hi'.jD.imm,fun l b base tot e=>?_,bQ.le x' _ (fun _ h=>h) (fun _ _=>rfl) hi'.jD.gd⟩
  ·rcases hfm.m1 l blk e1 with⟨i,b1,h1,h2,h3⟩|⟨h1,h2,h3⟩
   ·rw[hx2 i l h1]at e2;obtain⟨o1,o2⟩:=hi'.jD.own i b1 b base tot (by rw[hlk];exact h2) e2;exact⟨o1,jU.re (x:=x') (x':=x2) rfl rfl hβ2 o2 h3⟩
   ·rw[hx2n l h1]at e2;obtain⟨o1,o2⟩:=hs.own l blk b base tot h3 e2;have hlt:=hs.cG l b base tot e2;have hno:∀i p,x0.β i=some p→p.1≠b:=by
     rintro i ⟨b',base',tot'⟩ h e;simp only at e;subst e;obtain⟨l',h4,h5,_⟩:=hx0' i _ h;have:=hs.inj l' l b' base' tot' base tot (hfm.lt _ _ h4) (by rw[h3];simp) h5 e2;subst this;exact h2 _ h4
    refine⟨fun h=>?_,o2.mono hstep.le (hst.old b hlt hno)⟩;rcases hst.newI b h with h|h|⟨i,p,h4,h5⟩
    ·exact o1 h
    ·exact absurd hlt (Nat.not_lt.2 h)
    ·exact hno i p h4 h5
  ·have mix:∀l1 l2 base tot base' tot',(∃i b1,(i,l1)∈σo∧look m1 i=some b1)→jm σo l2=none→(∀i,(l2,i)∉σi)→look st.m l2≠none→x2.β l1=some (b,base,tot)→x2.β l2=some (b,base',tot')→False:=by
    rintro l1 l2 base tot base' tot' ⟨i,b1,h1,h2⟩ h3 h4 h5 e3 e4;rw[hx2 i l1 h1]at e3;rw[hx2n l2 h3]at e4;rcases hnew i _ e3 with⟨l',h6,h7⟩|h6|⟨l',⟨pb,pt,pq⟩,⟨j,h6⟩,h7,h8⟩
    ·have:=hs.inj l' l2 b base tot base' tot' (hfm.lt _ _ h6) h5 h7 e4;subst this;exact h4 _ h6
    ·have:=hs.cG l2 b base' tot' e4;simp only at h6;omega
    ·simp only at h8;subst h8;have:=hs.inj l' l2 pb pt pq base' tot' (hfm.lt _ _ h6) h5 h7 e4;subst this;exact h4 _ h6
   cases f1:look st'.m l1 with
   |none=>exact absurd f1 e1
   |some b1=>
    cases f2:look st'.m l2 with
    |none=>exact absurd f2 e2
    |some b2=>
     rcases hfm.m1 l1 b1 f1 with⟨i,c1,h1,h2,_⟩|⟨h1,h2,h3⟩<;>rcases hfm.m1 l2 b2 f2 with⟨j,c2,k1,k2,_⟩|⟨k1,k2,k3⟩
     ·rw[hx2 i l1 h1]at e3;rw[hx2 j l2 k1]at e4;have:=hi'.jD.inj i j b base tot base' tot' (by rw[hlk,h2];simp) (by rw[hlk,k2];simp) e3 e4;subst this;have:=oT hfm.oko h1;rw[oT hfm.oko k1]at this;exact(Option.some.inj this).symm
     ·exact(mix l1 l2 base tot base' tot' ⟨i,c1,h1,h2⟩ k1 k2 (by rw[k3];simp) e3 e4).elim
     ·exact(mix l2 l1 base' tot' base tot ⟨j,c2,k1,k2⟩ h1 h2 (by rw[h3];simp) e4 e3).elim
     ·rw[hx2n l1 h1]at e3;rw[hx2n l2 k1]at e4;exact hs.inj l1 l2 b base tot base' tot' (by rw[h3];simp) (by rw[k3];simp) e3 e4
  ·cases h1:jm σo l with
   |none=>rw[hx2n l h1]at e;exact Nat.lt_of_lt_of_le (hs.cG l b base tot e) hst.size
   |some i=>
    rw[hx2 i l (ig h1)]at e;exact hi'.jD.cG i b base tot e
 have hfr2:df st' x2:=by
  refine⟨fun l hl=>?_,fun l hl=>?_⟩
  ·cases h1:jm σo l with
   |none=>rw[hx2n l h1];exact hfr.β l (by have:=hfm.nx;omega)
   |some i=>have:=mI hfm.oko (ig h1);omega
  ·cases f1:look st'.m l with
   |none=>exact absurd f1 hl
   |some b1=>
    rcases hfm.m1 l b1 f1 with⟨i,c1,h1,_⟩|⟨_,_,h3⟩
    ·exact mI hfm.oko h1
    ·have:=hfr.m l (by rw[h3];simp);have:=hfm.nx;omega
 have hrd:=RD.re (ν:=ν) (x:=x') (x':=x2) rfl rfl hβ2 r2 hvd;rcases Ex.v7 hh with h|h<;>rw[h]at he<;>subst he<;>exact⟨hi'.defers,v,r1,x2,vd',st',hK,rfl,hstep,hrd,hsim,hfr2⟩
end
end Go.Abs
end
section
namespace Go.Abs
structure Ly where
 tr:List D→St→(D→St→Prop)→Prop
 mu:List D→St→Nat
 mono:∀(ds:List D) (st:St) (K K':D→St→Prop),(∀d st',K d st'→K' d st')→tr ds st K→tr ds st K'
def Ly.no:Ly:=⟨fun _ _ _=>False,fun _ _=>0,fun _ _ _ _ _ h=>h⟩
def nD (af:aB)(Q:D→List (Nat×aU)→Prop):Ex→List aW→St→Prop:=fun e env st=>e.home∧lD st.m env af.res∧∃m1,(∀i,look st.m i=look m1 i)∧Q (gU af env st) m1
def dX {af:aB}{Q:D→List (Nat×aU)→Prop}{vd:D}{m1:List (Nat×aU)}{e:Ex}{env:List aW}{st:St}(h1:e.home)(h2:lD st.m env af.res)(h3:gU af env st=vd)(h4:st.m=m1)(h5:Q vd m1):nD af Q e env st:=⟨h1,h2,m1,fun i=>by rw[h4],by rw[h3];exact h5⟩
def One (vd:D)(m1:List (Nat×aU)):D→List (Nat×aU)→Prop:=fun d m=>d=vd∧m=m1
def oneq (vd:D)(m1:List (Nat×aU)):One vd m1 vd m1:=⟨rfl,rfl⟩
section
variable [bQ] {P:Program} {ν:List (Nat×Nat)} {bx:List Nat} {Γ:Ctx}
def CX (P:Program)(ν:List (Nat×Nat))(Γ':Ctx)(bx:List Nat)(tr:List D→St→(D→St→Prop)→Prop)(fid:Nat):Prop:=
 ∀(ds:List D) (st:St) (K:D→St→Prop),tr ds st K→Ok P ν bx Γ'→∀(x:X) (args:Array Value),args.size=ds.length→(∀i,i<ds.length→RD ν x (args.getD i undef) (ds.getD i .any))→dm ν x (look st.m)→df st x→
  eZ P x (fun v x'=>∃d st',K d st'∧Step x x'∧RD ν x' v d∧dm ν x' (look st'.m)∧df st' x') ((callFunc fid args).run P x.w)
end
end Go.Abs
end
section
namespace Go.Abs
abbrev RT:=List D→D→Prop
abbrev FT:=D→List D→D→D→Prop
abbrev TT:=List D→St→(D→St→Prop)→Prop
def wN (T:TT):Prop:=∀ds st K K',(∀d st',K d st'→K' d st')→T ds st K→T ds st K'
def vY (A:RT→Prop):RT:=fun ds d=>∀T,A T→T ds d
def j0 (A:FT→Prop):FT:=fun d ds v s=>∀T,A T→T d ds v s
def EX (T:TT):Ctx:=⟨fun _ _=>False,fun _ _=>.any,fun _=>T,fun _ _ _=>False,fun _ _ _=>.any,fun _ _ _=>.any,0⟩
def zv (C:Ctx→Prop):TT:=fun ds st K=>∀T,wN T→C (EX T)→T ds st K
def qC (C:Ctx→Prop):wN (zv C):=fun _ _ _ _ h h1 T hT hC=>hT _ _ _ _ h (h1 T hT hC)
def noR:RT:=fun _ _=>False
def LN:FT:=fun _ _ _ _=>False
def noT:TT:=fun _ _ _=>False
def sK:wN noT:=fun _ _ _ _ _ h=>h.elim
structure ng where
 key:Nat
 rel:RT
 mu:List D→Nat
 relF:FT
 tr:TT
 muE:List D→St→Nat
 mono:wN tr
def LM:List D→Nat:=fun _=>0
def DS:List D→St→Nat:=fun _ _=>0
def jv:ng:=⟨0,noR,LM,LN,noT,DS,sK⟩
def rP (k:Nat)(A:RT→Prop)(mu:List D→Nat:=LM):ng:=⟨k,vY A,mu,LN,noT,DS,sK⟩
def rF (k:Nat)(A:FT→Prop):ng:=⟨k,noR,LM,j0 A,noT,DS,sK⟩
def rG (k:Nat)(C:Ctx→Prop)(mu:List D→St→Nat:=DS):ng:=⟨k,noR,LM,LN,zv C,mu,qC C⟩
def rFG (k:Nat)(A:FT→Prop)(C:Ctx→Prop):ng:=⟨k,noR,LM,j0 A,zv C,DS,qC C⟩
noncomputable def pick (r:D→Prop):D:=Classical.epsilon r
def gP {r:D→Prop}(h:∃d,r d):r (pick r):=Classical.epsilon_spec h
def KZ (R:RT):Prop:=∀ds d d',R ds d→R ds d'→d=d'
def rV (R:FT):Prop:=∀d ds v s v' s',R d ds v s→R d ds v' s'→v=v'∧s=s'
def IC {A:RT→Prop}(h:A fun ds d=>A fun ds' d'=>ds'=ds→d=d'):KZ (vY A):=fun ds d d' h1 h2=>h2 _ (h1 _ h) rfl
def FP {A:FT→Prop}(h:A fun d ds v s=>A fun d' ds' v' s'=>d'=d→ds'=ds→v=v'∧s=s'):rV (j0 A):=fun d ds v s v' s' h1 h2=>h2 _ (h1 _ h) rfl rfl
noncomputable def tL (t:List (Nat×ng)):Ctx where
 pre n ds:=∃d,(lk t n jv).rel ds d
 val n ds:=pick ((lk t n jv).rel ds)
 tr n:=(lk t n jv).tr
 fp n d ds:=∃v s,(lk t n jv).relF d ds v s
 fv n d ds:=pick fun v=>∃s,(lk t n jv).relF d ds v s
 fs n d ds:=pick fun s=>∃v,(lk t n jv).relF d ds v s
 lo:=0
def EI (t:List (Nat×ng)):Iq:=⟨fun n=>(lk t n jv).key,fun n=>(lk t n jv).mu,fun n=>(lk t n jv).muE⟩
noncomputable abbrev under (t:List (Nat×ng))(k u:Nat):Ctx:=(tL t).under (EI t) k u
def aN (t:List (Nat×ng))(k u n:Nat):(((tL t).under (EI t) k u).at n).bp:=
 fun f ds st K K' h hh=>⟨hh.1,(lk t f jv).mono ds st K K' h hh.2⟩
section
variable {t:List (Nat×ng)} {n k u:Nat} {ds:List D} {d v s:D} {st:St} {K:D→St→Prop}
def dA (hD:KZ (lk t n jv).rel)(hk:(lk t n jv).key<k∨(lk t n jv).key=k∧(lk t n jv).mu ds<u)(h:(lk t n jv).rel ds d):(under t k u).pre n ds∧(under t k u).val n ds=d:=
 ⟨⟨hk,d,h⟩,hD _ _ _ (gP ⟨d,h⟩) h⟩
def okf (hD:rV (lk t n jv).relF)(hk:(lk t n jv).key<k)(h:(lk t n jv).relF d ds v s):(under t k u).fp n d ds∧(under t k u).fv n d ds=v∧(under t k u).fs n d ds=s:=by
 refine⟨⟨.inl hk,v,s,h⟩, ?_, ?_⟩
 ·obtain⟨s',h'⟩:=gP (r:=fun v=>∃s,(lk t n jv).relF d ds v s) ⟨v,s,h⟩;exact(hD _ _ _ _ _ _ h' h).1
 ·obtain⟨v',h'⟩:=gP (r:=fun s=>∃v,(lk t n jv).relF d ds v s) ⟨s,v,h⟩;exact(hD _ _ _ _ _ _ h' h).2
def zF (hk:(lk t n jv).key<k∨(lk t n jv).key=k∧(lk t n jv).muE ds st<u)(h:(lk t n jv).tr ds st K):(under t k u).tr n ds st K:=⟨hk,h⟩
end
section
variable [bQ] {P:Program} {ν:List (Nat×Nat)} {bx:List Nat} {Γ:Ctx} {t:List (Nat×ng)} {fid n key:Nat}
def Ag (P:Program)(ν:List (Nat×Nat))(bx:List Nat)(Γ:Ctx)(fid:Nat)(ds:List D)(d:D):Prop:=Ok P ν bx Γ→∀(x:X)(args:Array Value),args.size=ds.length→(∀i,i<ds.length→RD ν x (args.getD i undef) (ds.getD i .any))→aG ds=true→
  (∀b,x.I b→b<x.w.heap.size)→bQ.gd x→eZ P x (fun v x'=>jh x x'∧RD ν x' v d) ((callFunc fid args).run P x.w)
def uc (P:Program)(ν:List (Nat×Nat))(bx:List Nat)(Γ:Ctx)(fid:Nat)(d:D)(ds:List D)(vd new:D):Prop:=Ok P ν bx Γ→∀(x:X)(f:Nat→Option aU)(args:Array Value)(l k:Nat),args.size=ds.length+1→
   RD ν x (args.getD 0 undef) (.ptr l k 0 0)→(∀i,i<ds.length→RD ν x (args.getD (i+1) undef) (ds.getD i .any))→dm ν x f→f l=some (.buf k [d])→d.aI=true→aG ds=true→
   eZ P x (fun v x'=>Step x x'∧RD ν x' v vd∧dm ν x' (fun l'=>if l'=l then some (.buf k [new])else f l')∧x'.β=x.β) ((callFunc fid args).run P x.w)
def lI (P:Program)(ν:List (Nat×Nat))(bx:List Nat)(Γ:Ctx)(fid:Nat)(ds:List D)(st:St)(K:D→St→Prop):Prop:=Ok P ν bx Γ→∀(x:X)(args:Array Value),args.size=ds.length→(∀i,i<ds.length→RD ν x (args.getD i undef) (ds.getD i .any))→dm ν x (look st.m)→df st x→
  eZ P x (fun v x'=>∃d st',K d st'∧Step x x'∧RD ν x' v d∧dm ν x' (look st'.m)∧df st' x') ((callFunc fid args).run P x.w)
structure JN (P:Program)(ν:List (Nat×Nat))(bx:List Nat)(t:List (Nat×ng))(fid n:Nat):Prop where
 p:∀ds d,(lk t n jv).rel ds d→Ag P ν bx (under t (lk t n jv).key ((lk t n jv).mu ds)) fid ds d
 f:rV (lk t n jv).relF∧∀d ds v s,(lk t n jv).relF d ds v s→uc P ν bx (under t (lk t n jv).key ((lk t n jv).mu (d::ds))) fid d ds v s
 g:∀ds st K,(lk t n jv).tr ds st K→lI P ν bx (under t (lk t n jv).key ((lk t n jv).muE ds st)) fid ds st K
def okA (hsm:∀fid n,cW ν fid=some n→n<1000000)(hB:∀t,bx.contains (1000000000+t)=true→t=bQ.tB)(h:∀fid n,cW ν fid=some n→JN P ν bx t fid n):Ok P ν bx (tL t):=by
 refine LO (EI t) hsm hB (fun fid n hn ds hp hok=>(h fid n hn).p ds _ (gP hp) hok) (fun fid n hn _ d ds hp hok=>?_) (fun fid n hn ds st K htr hok=>(h fid n hn).g ds st K htr hok);obtain⟨v,s,hr⟩:=hp;obtain⟨hD,hf⟩:=(h fid n hn).f;have h2:(tL t).fv n d ds=v∧(tL t).fs n d ds=s:=by
  constructor
  ·obtain⟨s',h'⟩:=gP (r:=fun v=>∃s,(lk t n jv).relF d ds v s) ⟨v,s,hr⟩;exact(hD _ _ _ _ _ _ h' hr).1
  ·obtain⟨v',h'⟩:=gP (r:=fun s=>∃v,(lk t n jv).relF d ds v s) ⟨s,v,hr⟩;exact(hD _ _ _ _ _ _ h' hr).2
 rw[h2.1,h2.2];exact hf d ds v s hr hok
def AG {Γ:D→List D→Ctx}:rV LN∧∀d ds v s,LN d ds v s→uc P ν bx (Γ d ds) fid d ds v s:=⟨fun _ _ _ _ _ _ h=>h.elim,fun _ _ _ _ h=>h.elim⟩
def bE {A:RT→Prop}{mu:List D→Nat}(hr:lk t n jv=rP key A mu)(h:A fun ds d=>Ag P ν bx (under t key (mu ds)) fid ds d):JN P ν bx t fid n:=by
 refine⟨?_, ?_, ?_⟩<;>rw[hr]
 ·exact fun ds d hd=>hd (fun ds d=>Ag P ν bx (under t key (mu ds)) fid ds d) h
 ·exact AG
 ·exact fun _ _ _ h=>h.elim
def Jf {A:FT→Prop}(hr:lk t n jv=rF key A)(hD:rV (j0 A))(h:A fun d ds v s=>uc P ν bx (under t key 0) fid d ds v s):JN P ν bx t fid n:=by
 refine⟨?_, ?_, ?_⟩<;>rw[hr]
 ·exact fun _ _ h=>h.elim
 ·exact⟨hD,fun d ds v s hd=>hd _ h⟩
 ·exact fun _ _ _ h=>h.elim
def uz {Γ:List D→St→Ctx}:wN fun ds st K=>lI P ν bx (Γ ds st) fid ds st K:=fun ds st K K' h hg hok x args hl ha hs hf=>(hg hok x args hl ha hs hf).mono fun v x' ⟨d,st',h1,h2⟩=>⟨d,st',h _ _ h1,h2⟩
def ra {C:Ctx→Prop}{mu:List D→St→Nat}(hr:lk t n jv=rG key C mu)(h:C (EX fun ds st K=>lI P ν bx (under t key (mu ds st)) fid ds st K)):JN P ν bx t fid n:=by
 refine⟨?_, ?_, ?_⟩<;>rw[hr]
 ·exact fun _ _ h=>h.elim
 ·exact AG
 ·exact fun ds st K hd=>hd (fun ds st K=>lI P ν bx (under t key (mu ds st)) fid ds st K) uz h
def LP {A:FT→Prop}{C:Ctx→Prop}(hr:lk t n jv=rFG key A C)(hD:rV (j0 A))(h:A fun d ds v s=>uc P ν bx (under t key 0) fid d ds v s)(h2:C (EX fun ds st K=>lI P ν bx (under t key 0) fid ds st K)):JN P ν bx t fid n:=by
 refine⟨?_, ?_, ?_⟩<;>rw[hr]
 ·exact fun _ _ h=>h.elim
 ·exact⟨hD,fun d ds v s hd=>hd _ h⟩
 ·exact fun ds st K hd=>hd _ uz h2
def CV (P:Program)(ν:List (Nat×Nat))(bx:List Nat)(fid:Nat)(af:aB):Prop:=(P.funcs[fid]?).map (fun f=>(compile P ν bx f,f.name== "runtime.NumGoroutine"))=some (some af,false)
def CV.split {af:aB}(h:CV P ν bx fid af):∃fn,P.funcs[fid]? =some fn∧compile P ν bx fn=some af∧(fn.name== "runtime.NumGoroutine")=false:=by
 unfold CV at h;cases hf:P.funcs[fid]? with
 |none=>rw[hf]at h;cases h
 |some fn=>
  rw[hf]at h;have h2:=Option.some.inj h;exact⟨fn,rfl,congrArg Prod.fst h2,congrArg Prod.snd h2⟩
def aX {af:aB}{ds:List D}{d:D}(hmix:P.follows .mixedOrders=true)(hC:CV P ν bx fid af)(h1:ds.length=af.np)(h2:bz (Γ.at 0) af.body (Ir af d) (et af ds) ⟨0,[]⟩):Ag P ν bx Γ fid ds d:=by
 intro hok x args hl hargs hnl himm hgd;obtain⟨fn,hf,hc,hn⟩:=hC.split;obtain⟨body,c1,_⟩:=eD hc;exact .inr ⟨fid,args,ep hf hn (by rw[c1];rfl) args x.w,FY hok hmix hf hc hl hargs hnl himm hgd h1 h2⟩
def xy {af:aB}{d:D}{ds:List D}{vd new:D}(k0:Nat)(hmix:P.follows .mixedOrders=true)(hC:CV P ν bx fid af)(h1:ds.length+1=af.np)(hk:d.cells.length=k0)
  (h2:bz (Γ.at 1) af.body (Ba af k0 vd new) (et af (.ptr 0 k0 0 0::ds)) ⟨1,[(0,.buf k0 [d])]⟩):uc P ν bx Γ fid d ds vd new:=by
 intro hok x f args l k hl h0 hargs hs hfl hd hnl;obtain⟨fn,hf,hc,hn⟩:=hC.split;obtain⟨body,c1,_⟩:=eD hc;have hkk:k=k0:=by
  generalize args.getD 0 undef=v0 at h0;cases h0 with
  |ptr _ _ _ _ b base tot at_ hβ hat=>
   obtain⟨p1,p2,c,T,fr,p3,p4,p5,p6⟩:=(hs.own l _ b base tot hfl hβ).2;have:=(p6 0 (by simp)).1;simp only[List.getD_cons_zero]at this;omega
 subst hkk;exact .inr ⟨fid,args,ep hf hn (by rw[c1];rfl) args x.w,FW hok hmix hf hc hl h0 hargs hs hfl hd hnl h1 h2⟩
def F6 {k l:Nat}{d:D}{ds:List D}{vd new:D}{st:St}{K:D→St→Prop}(h:uc P ν bx Γ fid d ds vd new)(hl:look st.m l=some (.buf k [d]))(hd:d.aI=true)(hnl:aG ds=true)(hK:K vd ⟨st.nx,bN st.m l (.buf k [new])⟩):
  lI P ν bx Γ fid (.ptr l k 0 0::ds) st K:=by
 intro hok x args hl2 hargs hs hf;refine(h hok x (look st.m) args l k (by simpa using hl2) (hargs 0 (by simp)) (fun i hi=>hargs (i+1) (by simpa using hi)) hs hl hd hnl).mono ?_;rintro v x' ⟨h1,h2,h3,h4⟩;have e:(fun l'=>if l'=l then some (.buf k [new])else look st.m l')=look (bN st.m l (.buf k [new])):=by
  funext l';rw[bh]
 refine⟨vd,_,hK,h1,h2,e▸h3,fun l' hl'=>by rw[h4];exact hf.β l' hl',fun l' hl'=>?_⟩;rw[bh]at hl';split at hl'
 ·rename_i e;subst e;exact hf.m _ (by rw[hl];simp)
 ·exact hf.m _ hl'
def xz {af:aB}{ds:List D}{st:St}{K:D→St→Prop}{σi:List (Nat×Nat)}{q:Nat}{m0:List (Nat×aU)}{cs:List D}{Q:D→List (Nat×aU)→Prop}(hmono:∀q,(Γ.at q).bp)(hmix:P.follows .mixedOrders=true)(hC:CV P ν bx fid af)
  (h1:cs.length=ds.length) (h2:∀i,i<ds.length→Ff 0 σi (ds.getD i .any) (cs.getD i .any)) (h3:cs.length=af.np)
  (h4:eB 0 q σi=true) (h5:∀l i,(l,i)∈σi→look st.m l≠none) (h6:∀i b,look m0 i=some b→∃l b',(l,i)∈σi∧look st.m l=some b'∧nu 0 σi b' b)
  (h7:bz (Γ.at q) af.body (nD af Q) (et af cs) ⟨q,m0⟩) (h8:∀d m1,Q d m1→∃(σo:List (Nat×Nat)) (q1:Nat) (st':St) (vd':D),Fr σi σo q q1 m0 m1 st st'∧Ff 0 σo d vd'∧K vd' st'):lI P ν bx Γ fid ds st K:=by
 intro hok x args hl hargs hs hfr;obtain⟨fn,hf,hc,hn⟩:=hC.split;obtain⟨body,c1,_⟩:=eD hc;refine .inr ⟨fid,args,ep hf hn (by rw[c1];rfl) args x.w, ?_⟩;refine Calls.mono (FX (K:=K) hok hmix hf hc hl hargs hs hfr h1 h2 h3 h4 h5 h6 (dP (hmono q) _ _ _ _ _ (fun e env st1 h=>?_) h7)) fun e w' he=>?_
 ·obtain⟨g1,g2,m1,g3,g4⟩:=h;obtain⟨σo,q1,st',vd',k1,k2,k3⟩:=h8 _ _ g4;exact⟨g1,g2,σo,q1,m1,st',vd',k1,k2,k3,g3⟩
 ·match e,he with
  | .returned v,he=>
   obtain⟨x',d,st',g0,g1,g2,g3,g4,g5⟩:=he;exact⟨x',g1,d,st',g0,g2,g3,g4,g5⟩
end
end Go.Abs
end
section
namespace Go.Abs
structure bw where
 name:ah
 range:ah
 feats:List ah
 bare:Bool
 deriving Inhabited,DecidableEq
def bw.D (x:bw):D:=.agg [.str x.name,.str x.range,.sl 1 (x.feats.map D.str),.bool x.bare]
structure bc where
 any:List bw
 when':ah
 option:ah
 deriving Inhabited,DecidableEq
def bc.D (x:bc):D:=.agg [.sl 4 (x.any.map bw.D),.str x.when',.str x.option]
structure fZ where
 name:ah
 range:ah
 when':ah
 deriving Inhabited,DecidableEq
def fZ.D (x:fZ):D:=.agg [.str x.name,.str x.range,.str x.when']
structure bo where
 name:ah
 of:List ah
 deriving Inhabited,DecidableEq
def bo.D (x:bo):D:=.agg [.str x.name,.sl 1 (x.of.map D.str)]
structure Rec where
 name:ah
 v:dw
 needs:List bc
 bars:List fZ
 feats:List bo
 deriving Inhabited,DecidableEq
def Rec.D (x:Rec):D:=.agg [.str x.name,.int .i64 x.v.major,.int .i64 x.v.minor,.int .i64 x.v.patch,.str x.v.pre,.str x.v.build,.sl 3 (x.needs.map bc.D),.sl 3 (x.bars.map fZ.D),.sl 2 (x.feats.map bo.D)]
structure bU where
 op:Int
 parts:Int
 v:dw
 deriving Inhabited,DecidableEq
def bU.D (x:bU):D:=.agg [.int .i64 x.op,.int .i64 x.parts,.int .i64 x.v.major,.int .i64 x.v.minor,.int .i64 x.v.patch,.str x.v.pre,.str x.v.build]
structure Nd where
 op:Int
 a:Int
 b:Int
 key:Int
 text:ah
 deriving Inhabited,DecidableEq
def Nd.D (x:Nd):D:=.agg [.int .i64 x.op,.int .i64 x.a,.int .i64 x.b,.int .i64 x.key,.str x.text]
def fZ.eq (a b:fZ):eU (fZ.D a).cells (fZ.D b).cells=decide (a=b):=by
 obtain⟨a1,a2,a3⟩:=a;obtain⟨b1,b2,b3⟩:=b;simp only[fZ.D,D.cells,eU,oH,fZ.mk.injEq,Bool.and_true];simp only[Bool.decide_and]
def bw.same {a b:bw}(e1:a.name=b.name)(e2:a.range=b.range)(e3:a.bare=b.bare):decide (a=b)=decide (a.feats=b.feats):=by
 obtain⟨a1,a2,a3,a4⟩:=a;obtain⟨b1,b2,b3,b4⟩:=b;simp only at e1 e2 e3;subst e1;subst e2;subst e3;simp
def rising (l:List ah):Bool:=cj (fun i=>Op.bytesLess l[i-1]! l[i]!) 1 l.length
def bZ (s:ah):Int×ah×ah:=
 if bI s=true then(1,s,[])
 else if s.length>0∧at8 s 0=63∧bI (s.drop 1)=true then(2,s.drop 1,[])
 else if(ai s 47).length=2∧ei (ai s 47)[0]! =true∧bI (ai s 47)[1]! =true then(3,(ai s 47)[0]!,(ai s 47)[1]!)
 else(0,[],[])
def findF (l:List bo)(nm:ah)(i:Nat):Int:=match(l.drop i).findIdx? (fun x=>decide (x.name=nm))with
 |some k=>((i+k:Nat):Int)
 |none=>-1
def Dm {l:List bo}{nm:ah}{i:Nat}(h:i<l.length)(he:l[i]!.name=nm):findF l nm i=(i:Nat):=by
 unfold findF;rw[List.drop_eq_getElem_cons h,List.findIdx?_cons];have:l[i].name=nm:=by simpa[h]using he
 simp[this]
def Dn {l:List bo}{nm:ah}{i:Nat}(h:i<l.length)(he:¬l[i]!.name=nm):findF l nm i=findF l nm (i+1):=by
 unfold findF;have:¬l[i].name=nm:=by simpa[h]using he
 rw[List.drop_eq_getElem_cons h,List.findIdx?_cons];simp only[this,decide_false,Bool.false_eq_true,if_false];cases(l.drop (i+1)).findIdx? (fun x=>decide (x.name=nm))with
 |none=>rfl
 |some k=>simp only[Option.map_some];congr 1;omega
def Bs {l:List bo}{nm:ah}{i:Nat}(h:l.length≤i):findF l nm i=-1:=by
 unfold findF;rw[List.drop_eq_nil_of_le h];rfl
def Hu:ah:=[100,101,102,97,117,108,116]
def JS (l:List bo)(nm:ah):Bool:=decide (nm=Hu) ||decide (0≤findF l nm 0)
def iz (l:List bo)(s:ah):Bool:=!(decide ((bZ s).1=0) ||(decide ((bZ s).1=1)&& !JS l (bZ s).2.1))
def sC (l:List bo)(of:List ah):Bool:=decide (of.length≤6)&&rising of&&cj (fun i=>iz l of[i]!) 0 of.length
def jV (l:List bo)(i:Nat):Bool:=bI l[i]!.name&& !(decide (0<i)&& !Op.bytesLess l[i-1]!.name l[i]!.name)&&sC l l[i]!.of
def e7 (l:List bo):Bool:=decide (l.length≤8)&&cj (jV l) 0 l.length
def bo.sm (x:bo):Prop:=x.name.length≤1048576∧x.of.length≤1048576∧∀t∈x.of,t.length≤1048576
def ry (l:List bo):Prop:=∀x∈l,x.sm
def uB (b:ah):∀(l:List ah)(i:Nat),(aO b (l.take i)).length≤(aO b l).length
 |[],i=>by simp
 |[t],0=>by simp[aO]
 |[t],i+1=>by simp
 |t::u::r,0=>by simp[aO]
 |t::u::r,1=>by simp[aO]
 |t::u::r,i+2=>by
  have:=uB b (u::r) (i+1);simp only[List.take_succ_cons,aO,List.length_append]at this⊢;omega
def nV (b t:ah):∀(l:List ah),l≠[]→aO b (l++[t])=aO b l++b++t
 |[],h=>absurd rfl h
 |[u],_=>by simp[aO]
 |u::v::r,_=>by
  have:=nV b t (v::r) (by simp);simp only[List.cons_append,aO]at this⊢;rw[this];simp
def nW (b:ah)(l:List ah)(i:Nat)(h:i<l.length):aO b (l.take (i+1))=(if 0<i then aO b (l.take i)++b else [])++l[i]! :=by
 have e:l.take (i+1)=l.take i++[l[i]!]:=by
  rw[List.take_add_one,List.getElem?_eq_getElem h];simp[h]
 rw[e];by_cases h0:0<i
 ·rw[if_pos h0,nV _ _ _ (by intro hn;have:=congrArg List.length hn;simp only[List.length_take,List.length_nil]at this;omega)]
 ·obtain rfl:i=0:=by omega
  simp[aO]
end Go.Abs
namespace Go.Abs
def Gg {s:ah}(h0:bI s=true):bZ s=(1,s,[]):=by simp only[bZ,if_pos h0]
def Gi {s:ah}(h0:bI s=false)(h:(0<(s.length:Int)∧at8 s 0=63)∧bI (s.drop 1)=true):bZ s=(2,s.drop 1,[]):=by
 simp only[bZ,h0,Bool.false_eq_true,if_false];rw[if_pos ⟨by omega,h.1.2,h.2⟩]
def xD {s:ah}(h:(¬0<(s.length:Int)∨¬at8 s 0=63)∨bI (s.drop 1)=false):¬(s.length>0∧at8 s 0=63∧bI (s.drop 1)=true):=by
 rintro⟨h1,h2,h3⟩;rcases h with(h|h)|h
 ·omega
 ·exact h h2
 ·rw[h3]at h;cases h
def Gj {s:ah}(h0:bI s=false)(h:(¬0<(s.length:Int)∨¬at8 s 0=63)∨bI (s.drop 1)=false)(h2:(((ai s 47).length:Int)=2∧ei (ai s 47)[0]! =true)∧bI (ai s 47)[1]! =true):bZ s=((3:Int),(ai s 47)[0]!,(ai s 47)[1]!):=by
 simp only[bZ,h0,Bool.false_eq_true,if_false];rw[if_neg (xD h),if_pos ⟨by omega,h2.1.2,h2.2⟩]
def Gf {s:ah}(h0:bI s=false)(h:(¬0<(s.length:Int)∨¬at8 s 0=63)∨bI (s.drop 1)=false)(h2:(¬((ai s 47).length:Int)=2∨ei (ai s 47)[0]! =false)∨bI (ai s 47)[1]! =false):bZ s=(0,[],[]):=by
 simp only[bZ,h0,Bool.false_eq_true,if_false];rw[if_neg (xD h),if_neg];rintro⟨g1,g2,g3⟩;rcases h2 with(h2|h2)|h2
 ·omega
 ·rw[g2]at h2;cases h2
 ·rw[g3]at h2;cases h2
end Go.Abs
end
namespace Go.Abs
def vE (s:ah)(i:Nat)(h:i<s.length):at8 s i=((s[i]'h).toNat:Int):=by simp[at8,h]
def wT (p:Int→Bool)(s:ah):cj (fun i=>p (at8 s i)) 0 s.length=true↔∀c∈s,p c.toNat=true:=by
 rw[dq];constructor
 ·intro h c hc;obtain⟨i,hi,rfl⟩:=List.getElem_of_mem hc;have:=h i (by omega) hi
  rwa [vE s i hi]at this
 ·intro h j _ hj;rw[vE s j hj];exact h _ (List.getElem_mem hj)
def mB {b:Int}:∀{s cur:ah},(∀c∈s,(c.toNat:Int)≠b)→a8 b s cur=[cur++s]
 |[],cur,_=>by simp[a8]
 |c::r,cur,h=>by
  simp only[a8];rw[if_neg (h c (.head _)),mB (fun d hd=>h d (.tail _ hd))];simp
def tn {b:Int}{x:UInt8}(hx:(x.toNat:Int)=b)(r:ah):∀{w cur:ah},(∀c∈w,(c.toNat:Int)≠b)→a8 b (w++x::r) cur=(cur++w)::a8 b r []
 |[],cur,_=>by simp[a8,hx]
 |c::w,cur,h=>by
  simp only[List.cons_append,a8];rw[if_neg (h c (.head _)),tn hx r (fun d hd=>h d (.tail _ hd))];simp
def qL {b:Int}{x:UInt8}(hx:(x.toNat:Int)=b):∀{ws:List ah},ws≠[]→(∀w∈ws,∀c∈w,(c.toNat:Int)≠b)→ai (aO [x] ws) b=ws
 |[],h,_=>absurd rfl h
 |[w],_,h=>by
  show a8 b w []=[w];rw[mB (h w (.head _))];rfl
 |w::u::r,_,h=>by
  have ih:=qL (ws:=u::r) hx (by simp) (fun v hv=>h v (.tail _ hv));show a8 b (w++[x]++aO [x] (u::r)) []=_;rw[List.append_assoc,List.singleton_append,tn hx _ (h w (.head _))];rw[show a8 b (aO [x] (u::r)) []=u::r from ih];rfl
def me {b:Int}{x:UInt8}(hx:(x.toNat:Int)=b):∀(s cur:ah),aO [x] (a8 b s cur)=cur++s
 |[],cur=>by simp[a8,aO]
 |c::r,cur=>by
  simp only[a8];split
  ·rename_i h;rw[eu _ _ _ (by intro h;have:=fq b r [];rw[h]at this;simp at this),me hx r []];have:c=x:=UInt8.toNat_inj.1 (by omega);simp[this]
  ·rw[me hx r];simp
def jJ {b:Int}{x:UInt8}(hx:(x.toNat:Int)=b)(s:ah):aO [x] (ai s b)=s:=by
 unfold ai;rw[me hx];rfl
def xi {n:Nat}(h:n<10):aM (dg n).toNat=true:=by
 have:=Df h;simp only[aM,Bool.and_eq_true,decide_eq_true_eq];omega
def xh {Q:Nat→Prop}(h1:∀n,n<10→Q n)(h2:∀n,9<n→Q (n/10)→Q n)(n:Nat):Q n:=by
 induction n using Nat.strongRecOn with
 |ind n ih=>
  by_cases h:n<10
  ·exact h1 n h
  ·exact h2 n (by omega) (ih _ (by omega))
def lQ (n:Nat):∀c∈cC n,aM c.toNat=true:=by
 refine xh (Q:=fun n=>∀c∈cC n,aM c.toNat=true) (fun n h c hc=>?_) (fun n h ih c hc=>?_) n
 ·rw[mP h]at hc;obtain rfl:=List.mem_singleton.1 hc;exact xi h
 ·rw[mO h]at hc;rcases List.mem_append.1 hc with hc|hc
  ·exact ih c hc
  ·obtain rfl:=List.mem_singleton.1 hc;exact xi (by omega)
def FN (n:Nat):cC n≠[]:=by
 refine xh (Q:=fun n=>cC n≠[]) (fun n h=>?_) (fun n h ih=>?_) n
 ·rw[mP h];simp
 ·rw[mO h];simp
def mW (x:UInt8):∀(ws:List ah)(c:UInt8),c∈aO [x] ws→c=x∨∃w∈ws,c∈w
 |[],c,h=>by simp[aO]at h
 |[w],c,h=>.inr ⟨w,.head _,h⟩
 |w::u::r,c,h=>by
  rw[eu _ _ _ (by simp)]at h;simp only[List.mem_append,List.mem_singleton]at h;rcases h with(h|h)|h
  ·exact .inr ⟨w,.head _,h⟩
  ·exact .inl h
  ·rcases mW x (u::r) c h with h|⟨v,hv,hc⟩
   ·exact .inl h
   ·exact .inr ⟨v,.tail _ hv,hc⟩
def ET {s:ah}{p:Bool}(h:mC s p=true){c:UInt8}(hc:c∈s):jg c.toNat=true∨c=46:=by
 simp only[mC,Bool.or_eq_true,decide_eq_true_eq,iO,Bool.and_eq_true,dq]at h;rcases h with rfl|⟨_,h⟩
 ·cases hc
 ·rw[←jJ (b:=46) (x:=46) rfl s]at hc;rcases mW 46 _ c hc with rfl|⟨w,hw,hcw⟩
  ·exact .inr rfl
  ·left;obtain⟨i,hi,rfl⟩:=List.getElem_of_mem hw;have:=h i (by omega) hi;rw[show(ai s 46)[i]! =(ai s 46)[i]by simp[hi]]at this;simp only[ee,lF,Bool.and_eq_true]at this;exact(wT jg _).1 this.1.2 c hcw
def Dg {c:UInt8}(h:aM c.toNat=true):c.toNat≠46∧c.toNat≠45∧c.toNat≠43∧c.toNat≠32∧c.toNat≠10:=by
 simp only[aM,Bool.and_eq_true,decide_eq_true_eq]at h;omega
def coreS (v:dw):ah:=cC v.major.toNat++[46]++cC v.minor.toNat++[46]++cC v.patch.toNat
def Cu (v:dw):z7 v=coreS v++(if v.pre=[]then []else 45::v.pre)++(if v.build=[]then []else 43::v.build):=rfl
def hv (c:UInt8):Nat:=if aM c.toNat=true then c.toNat-48 else c.toNat-87
def qV (s:ah):Nat:=s.foldl (fun n c=>n*16+hv c) 0
def He {s:ah}(h:bI s=true){c:UInt8}(hc:c∈s):vj c.toNat=true:=by
 simp only[bI,Bool.and_eq_true]at h;exact(wT vj s).1 h.2 c hc
def pw.wf (x:pw):Prop:=0≤x.sum∧x.sum<18446744073709551616
def wH.wf (l:wH):Prop:=∀x∈l.lines,x.wf
end Go.Abs
section
namespace Go.Abs
def qM {b:Int}{x:UInt8}(hx:(x.toNat:Int)=b):∀(s cur:ah),a8 b s cur=match s.findIdx? (fun c=>c==x)with
  |some k=>(cur++s.take k)::a8 b (s.drop (k+1)) []
  |none=>[cur++s]
 |[],cur=>by simp[a8]
 |c::r,cur=>by
  simp only[a8,List.findIdx?_cons];by_cases h:c=x
  ·subst h;rw[if_pos hx];simp
  ·have h1:¬(c.toNat:Int)=b:=fun e=>h (UInt8.toNat_inj.1 (by omega))
   have h2:(c==x)=false:=by simpa using h
   rw[if_neg h1,h2,qM hx r (cur++[c])];cases r.findIdx? (fun c=>c==x)with
   |none=>simp
   |some k=>simp
def vb (s:ah)(x:UInt8):ai s x.toNat=if(dR s x).2.2=true then(dR s x).1::ai (dR s x).2.1 x.toNat else [s]:=by
 unfold ai dR;rw[qM (x:=x) rfl];cases s.findIdx? (fun c=>c==x)with
 |none=>simp
 |some k=>simp
def uU {s:ah}:(((dR s 47).2.2=true∧ei (dR s 47).1=true)∧bI (dR s 47).2.1=true)↔(((ai s 47).length:Int)=2∧ei (ai s 47)[0]! =true)∧bI (ai s 47)[1]! =true:=by
 have h:=vb s 47;rw[show(((47:UInt8).toNat:Nat):Int)=47 from rfl]at h;by_cases hc:(dR s 47).2.2=true
 ·rw[if_pos hc]at h;rw[h];have hj:=jJ (b:=47) (x:=47) rfl (dR s 47).2.1;constructor
  ·rintro⟨⟨_,h1⟩,h2⟩;have h3:ai (dR s 47).2.1 47=[(dR s 47).2.1]:=by
    show a8 47 _ []=_;rw[mB (fun c hc=>?_)]
    ·rfl
    ·have:=He h2 hc;simp only[vj,fJ,aM,Bool.or_eq_true,Bool.and_eq_true,decide_eq_true_eq]at this;omega
   rw[h3];exact⟨⟨rfl,h1⟩,h2⟩
  ·rintro⟨⟨h1,h2⟩,h3⟩;refine⟨⟨hc,h2⟩, ?_⟩;generalize ai (dR s 47).2.1 47=q at hj h1 h3
   match q,h1 with
   |[y],_=>
    have:y=(dR s 47).2.1:=hj;rw[←this];exact h3
   |[],h1=>simp at h1
   |_::_::_,h1=>simp at h1;omega
 ·rw[if_neg hc]at h;rw[h];constructor
  ·rintro⟨⟨h1,_⟩,_⟩;exact absurd h1 hc
  ·rintro⟨⟨h1,_⟩,_⟩;simp at h1
def xO {s:ah}:(cR s [63]).2=true↔0<(s.length:Int)∧at8 s 0=63:=by
 match s with
 |[]=>simp[cR,List.isPrefixOf]
 |c::r=>
  have e:((c.toNat:Int)=63)↔c=63:=⟨fun h=>UInt8.toNat_inj.1 (by have:(63:UInt8).toNat=63:=rfl;omega),fun h=>by subst h;rfl⟩;simp only[cR,List.isPrefixOf,Bool.and_true,at8,List.getD_cons_zero,List.length_cons];by_cases h:c=63
  ·subst h;simp
  ·have:¬(c.toNat:Int)=63:=fun h2=>h (e.1 h2)
   have h3:((63:UInt8)==c)=false:=by simpa using fun h2=>h h2.symm
   simp[h3,this]
def uG {s:ah}(h:(cR s [63]).2=true):(cR s [63]).1=s.drop 1:=by
 unfold cR at h⊢;split at h
 ·rename_i hp;rw[if_pos hp];rfl
 ·cases h
def Gl {s:ah}(h0:bI s=false)(h:(cR s [63]).2=true∧bI (cR s [63]).1=true):bZ s=(2,(cR s [63]).1,[]):=by
 rw[uG h.1]at h⊢;exact Gi h0 ⟨xO.1 h.1,h.2⟩
def Ay {s:ah}(h:(cR s [63]).2=false∨bI (cR s [63]).1=false):(¬0<(s.length:Int)∨¬at8 s 0=63)∨bI (s.drop 1)=false:=by
 by_cases hp:(cR s [63]).2=true
 ·rw[uG hp]at h;rcases h with h|h
  ·rw[hp]at h;cases h
  ·exact .inr h
 ·have:=fun h2=>hp (xO.2 h2)
  by_cases h1:0<(s.length:Int)
  ·exact .inl (.inr fun h2=>this ⟨h1,h2⟩)
  ·exact .inl (.inl h1)
def Gm {s:ah}(h0:bI s=false)(h:(cR s [63]).2=false∨bI (cR s [63]).1=false)(h2:((dR s 47).2.2=true∧ei (dR s 47).1=true)∧bI (dR s 47).2.1=true):bZ s=((3:Int),(dR s 47).1,(dR s 47).2.1):=by
 have h3:=uU.1 h2;rw[Gj h0 (Ay h) h3];have hs:=vb s 47;rw[show(((47:UInt8).toNat:Nat):Int)=47 from rfl,if_pos h2.1.1]at hs;have hj:=jJ (b:=47) (x:=47) rfl (dR s 47).2.1;have hl:=h3.1.1;rw[hs]at hl⊢;generalize ai (dR s 47).2.1 47=q at hj hl
 match q,hl with
 |[y],_=>
  have:y=(dR s 47).2.1:=hj;rw[←this];rfl
 |[],h1=>simp at h1
 |_::_::_,h1=>simp at h1;omega
def Gk {s:ah}(h0:bI s=false)(h:(cR s [63]).2=false∨bI (cR s [63]).1=false)(h2:((dR s 47).2.2=false∨ei (dR s 47).1=false)∨bI (dR s 47).2.1=false):bZ s=(0,[],[]):=by
 refine Gf h0 (Ay h) ?_;have hn:¬((((ai s 47).length:Int)=2∧ei (ai s 47)[0]! =true)∧bI (ai s 47)[1]! =true):=fun h3=>by
  obtain⟨⟨g1,g2⟩,g3⟩:=uU.2 h3;rcases h2 with(h2|h2)|h2
  ·rw[g1]at h2;cases h2
  ·rw[g2]at h2;cases h2
  ·rw[g3]at h2;cases h2
 by_cases k1:((ai s 47).length:Int)=2
 ·by_cases k2:ei (ai s 47)[0]! =true
  ·right;cases k3:bI (ai s 47)[1]! with
   |false=>rfl
   |true=>exact absurd ⟨⟨k1,k2⟩,k3⟩ hn
  ·exact .inl (.inr (by simpa using k2))
 ·exact .inl (.inl k1)
end Go.Abs
namespace Go.Abs
def Bn {l:List bo}{i:Nat}(h:(!bI l[i]!.name ||(decide ((0:Int)<(i:Int))&& !Op.bytesLess l[i-1]!.name l[i]!.name) ||decide ((6:Int)<(l[i]!.of.length:Int)) ||!rising l[i]!.of)=false):
  jV l i=cj (fun j=>iz l l[i]!.of[j]!) 0 l[i]!.of.length:=by
 simp only[Bool.or_eq_false_iff,Bool.not_eq_false',decide_eq_false_iff_not]at h;obtain⟨⟨⟨h1,h2⟩,h3⟩,h4⟩:=h;have e:(decide (0<i)&& !Op.bytesLess l[i-1]!.name l[i]!.name)=false:=by
  rw[show decide (0<i)=decide ((0:Int)<(i:Int))from decide_eq_decide.2 (by omega)];exact h2
 simp only[jV,sC,h1,e,h4];rw[decide_eq_true (by omega)];rfl
def Bm {l:List bo}{i:Nat}(h:(!bI l[i]!.name ||(decide ((0:Int)<(i:Int))&& !Op.bytesLess l[i-1]!.name l[i]!.name) ||decide ((6:Int)<(l[i]!.of.length:Int)) ||!rising l[i]!.of)=true):
  jV l i=false:=by
 have e:decide ((0:Int)<(i:Int))=decide (0<i):=decide_eq_decide.2 (by omega);have e6:decide ((6:Int)<(l[i]!.of.length:Int))=!decide (l[i]!.of.length≤6):=by
  by_cases h6:l[i]!.of.length≤6
  ·rw[decide_eq_true h6,decide_eq_false (by omega)];rfl
  ·rw[decide_eq_false h6,decide_eq_true (by omega)];rfl
 rw[e,e6]at h;simp only[jV,sC];revert h;generalize bI l[i]!.name=a;generalize (decide (0<i)&& !Op.bytesLess l[i-1]!.name l[i]!.name)=b;generalize decide (l[i]!.of.length≤6)=c;generalize rising l[i]!.of=d;cases a<;>cases b<;>cases c<;>cases d<;>simp
end Go.Abs
end
section
namespace Go.Abs
def bM (op:Int):ah:=if op=1 then [61]else if op=2 then [33,61]else if op=3 then [60]else if op=4 then [60,61]else if op=5 then [62]else if op=6 then [62,61]else if op=7 then [94]else if op=8 then [126]else []
def qc (op:Int):(bM op).length≤2:=by
 unfold bM;repeat' split
 all_goals decide
def pC (s w:ah):Bool:=decide (w.length≤s.length)&&decide (s.take w.length=w)
def lx (c:bU):Bool:=(decide (0<c.parts) ||decide (c.v.major=0))&&(decide (1<c.parts) ||decide (c.v.minor=0))&&(decide (2<c.parts) ||decide (c.v.patch=0))
def iy (c:bU):Bool:=decide (1≤c.op)&&decide (c.op≤9)&&eO c.v&&decide (c.v.build=[])&&decide ((if c.op=9 then 0 else 1)≤c.parts)&&decide (c.parts≤if c.op=9 then 2 else 3)&&(decide (3≤c.parts) ||decide (c.v.pre=[]))&&lx c
def bU.sm (c:bU):Prop:=c.v.sm
def xd {c:bU}(h:(decide (c.op<1) ||decide (9<c.op) ||!eO c.v ||!decide (c.v.build=[]))=true):iy c=false:=by
 unfold iy;rw[show decide (c.op<1)=!decide (1≤c.op)by rw[←decide_not];exact decide_eq_decide.2 (by omega),show decide (9<c.op)=!decide (c.op≤9)by rw[←decide_not];exact decide_eq_decide.2 (by omega)]at h;revert h;generalize decide (1≤c.op)=a1;generalize decide (c.op≤9)=a2;generalize eO c.v=a3;generalize decide (c.v.build=[])=a4;cases a1<;>cases a2<;>cases a3<;>cases a4<;>simp
def uk {c:bU}(h:(decide (c.op<1) ||decide (9<c.op) ||!eO c.v ||!decide (c.v.build=[]))=false):1≤c.op∧c.op≤9∧eO c.v=true∧c.v.build=[]:=by
 simp only[Bool.or_eq_false_iff,decide_eq_false_iff_not,Bool.not_eq_false',decide_eq_true_eq]at h;exact⟨by omega,by omega,h.1.2,h.2⟩
end Go.Abs
namespace Go.Abs
def mK {c:bU}(hy:1≤c.op∧c.op≤9∧eO c.v=true∧c.v.build=[]){lo hi:Int}(hlo:(if c.op=9 then 0 else 1)=lo)(hhi:(if c.op=9 then 2 else 3)=hi):
  iy c=(!(decide (c.parts<lo) ||decide (hi<c.parts) ||(decide (c.parts<3)&& !decide (c.v.pre=[])))&&lx c):=by
 obtain⟨h1,h2,h3,h4⟩:=hy;unfold iy;rw[decide_eq_true h1,decide_eq_true h2,h3,decide_eq_true h4,hlo,hhi];rw[show decide (c.parts<lo)=!decide (lo≤c.parts)by rw[←decide_not];exact decide_eq_decide.2 (by omega),show decide (hi<c.parts)=!decide (c.parts≤hi)by rw[←decide_not];exact decide_eq_decide.2 (by omega),show decide (c.parts<3)=!decide (3≤c.parts)by rw[←decide_not];exact decide_eq_decide.2 (by omega)];generalize decide (lo≤c.parts)=a1;generalize decide (c.parts≤hi)=a2;generalize decide (3≤c.parts)=a3;generalize decide (c.v.pre=[])=a4;cases a1<;>cases a2<;>cases a3<;>cases a4<;>simp
end Go.Abs
namespace Go.Abs
def bU.ik (c:bU):List Int:=[c.v.major,c.v.minor,c.v.patch]
def dt (c:bU):Nat→ah
 |0=>[]
 |i+1=>dt c i++(if 0<i then [46]else [])++cC (c.ik[i]!).toNat
def gC (c:bU):ah:=if c.op=9 then(if 0<c.parts then [46]else [])++[42]else if c.v.pre=[]then []else 45::c.v.pre
def hZ (c:bU):ah:=bM c.op++dt c c.parts.toNat++gC c
def cP (c:bU):ah:=if iy c=true then hZ c else []
def mh {c:bU}(h:eO c.v=true)(i:Nat):0≤c.ik[i]! ∧c.ik[i]! ≤9999:=by
 simp only[eO,pN,Bool.and_eq_true,decide_eq_true_eq]at h
 match i with
 |0=>exact h.1.1.1.1
 |1=>exact h.1.1.1.2
 |2=>exact h.1.1.2
 |k+3=>exact(by simp[bU.ik]:0≤c.ik[k+3]! ∧c.ik[k+3]! ≤9999)
def mZ {c:bU}(h:eO c.v=true):∀i,(dt c i).length≤5*i
 |0=>by simp[dt]
 |i+1=>by
  have:=mZ h i;have hn:=mh h i;have:=dK 4 (c.ik[i]!).toNat (by omega) (by omega);simp only[dt,List.length_append];split
  ·simp only[List.length_singleton];omega
  ·simp only[List.length_nil];omega
def ki {c:bU}(h:iy c=true):eO c.v=true∧0≤c.parts∧c.parts≤3∧1≤c.op∧c.op≤9:=by
 simp only[iy,Bool.and_eq_true,decide_eq_true_eq]at h;obtain⟨⟨⟨⟨⟨⟨⟨h1,h2⟩,h3⟩,h4⟩,h5⟩,h6⟩,h7⟩,h8⟩:=h;refine⟨h3, ?_, ?_,h1,h2⟩
 ·split at h5<;>omega
 ·split at h6<;>omega
end Go.Abs
namespace Go.Abs
def ir (c:bU):List ah:=(c.ik.map fun n=>cC n.toNat).take c.parts.toNat
def uN (c:bU):∀i,i≤3→aO [46] ((c.ik.map fun n=>cC n.toNat).take i)=dt c i
 |0,_=>by simp[aO,dt]
 |i+1,h=>by
  have hl:i<(c.ik.map fun n=>cC n.toNat).length:=by simp[bU.ik];omega
  have hl2:i<c.ik.length:=by show i<3;omega
  rw[nW _ _ _ hl,uN c i (by omega)];simp only[dt];have e:(c.ik.map fun n=>cC n.toNat)[i]! =cC (c.ik[i]!).toNat:=by simp[hl2]
  rw[e];split
  ·simp
  ·obtain rfl:i=0:=by omega
   simp[dt]
def yw {c:bU}(h:c.parts≤3):(ir c).length=c.parts.toNat:=by
 simp[ir,bU.ik];omega
def vi {c:bU}(h:c.parts≤3):aO [46] (ir c)=dt c c.parts.toNat:=uN c _ (by omega)
def qh {c:bU}(h0:0≤c.parts)(h:c.parts≤3):aO [46] (ir c++[[42]])=dt c c.parts.toNat++((if 0<c.parts then [46]else [])++[42]):=by
 by_cases hp:0<c.parts
 ·rw[nV _ _ _ (by intro hn;have:=congrArg List.length hn;rw[yw h]at this;simp only[List.length_nil]at this;omega),vi h,if_pos hp];simp
 ·have:c.parts.toNat=0:=by omega
  rw[if_neg hp,this];have e:ir c=[]:=by simp[ir,this]
  rw[e];rfl
end Go.Abs
namespace Go.Abs
def opsL:List Int:=[2,4,6,1,3,5,7,8]
def nZ (s:ah)(i:Nat):Option Int:=(opsL.drop i).find? fun o=>pC s (bM o)
def iG (s:ah):Int×ah:=match nZ s 0 with
 |some o=>(o,s.drop (bM o).length)
 |none=>if 0<s.length∧at8 s (s.length-1)=42 then(9,s)else(7,s)
def GA {s:ah}{i:Nat}(h:i<8)(hb:pC s (bM opsL[i]!)=true):nZ s i=some opsL[i]! :=by
 have hl:i<opsL.length:=h;unfold nZ;rw[List.drop_eq_getElem_cons hl,List.find?_cons];rw[show opsL[i]! =opsL[i]by simp[hl]]at hb⊢;rw[hb]
def GB {s:ah}{i:Nat}(h:i<8)(hb:pC s (bM opsL[i]!)=false):nZ s i=nZ s (i+1):=by
 have hl:i<opsL.length:=h;unfold nZ;rw[List.drop_eq_getElem_cons hl,List.find?_cons];rw[show opsL[i]! =opsL[i]by simp[hl]]at hb;rw[hb]
def D5 {s:ah}{i:Nat}(h:8≤i):nZ s i=none:=by
 unfold nZ;rw[List.drop_eq_nil_of_le h];rfl
def fh (s:ah)(i:Nat):ah×ah:=match(s.drop i).findIdx? (fun c=>c==45)with
 |some k=>(s.take (i+k),s.drop (i+k+1))
 |none=>(s,[])
def GP {s:ah}{i:Nat}(h:i<s.length)(he:at8 s i=45):fh s i=(s.take i,s.drop (i+1)):=by
 unfold fh;rw[mR s i h,List.findIdx?_cons];have:s.getD i 0=45:=UInt8.toNat_inj.1 (by simp only[at8]at he;show(s.getD i 0).toNat=45;omega);rw[this];rfl
def GQ {s:ah}{i:Nat}(h:i<s.length)(he:¬at8 s i=45):fh s i=fh s (i+1):=by
 unfold fh;rw[mR s i h,List.findIdx?_cons];have:(s.getD i 0==45)=false:=by
  rw[beq_eq_false_iff_ne];intro e;exact he (by simp only[at8,e];rfl)
 rw[this];simp only[Bool.false_eq_true,if_false];cases(s.drop (i+1)).findIdx? (fun c=>c==45)with
 |none=>rfl
 |some k=>simp only[Option.map_some];rw[show i+(k+1)=i+1+k by omega]
def En {s:ah}{i:Nat}(h:s.length≤i):fh s i=(s,[]):=by
 unfold fh;rw[List.drop_eq_nil_of_le h];rfl
end Go.Abs
namespace Go.Abs
def fg (l:List ah):Bool:=decide (l.length≤3)&&cj (fun i=>dM l[i]!) 0 l.length
def numV (l:List ah):dw:=⟨if 0<l.length then cT l[0]! else 0,if 1<l.length then cT l[1]! else 0,if 2<l.length then cT l[2]! else 0,[],[]⟩
end Go.Abs
namespace Go.Abs
def di:bU:=⟨0,0,iH⟩
def HH (op:Int)(l:List ah):List ah:=if op=9 then l.take (l.length-1)else l
def nv (op:Int)(l:List ah)(pre:ah):bU:=⟨op,(l.length:Nat),{numV l with pre:=pre}⟩
def D3 (s:ah)(op:Int)(l:List ah)(pre:ah):Bool:=fg l&& !(decide (cP (nv op l pre)=[]) ||(!decide (cP (nv op l pre)=s)&& !decide (cP (nv op l pre)=94::s)))
def eJ (s:ah):Option bU:=
 let o:=iG s
 let p:=fh o.2 0
 let l:=HH o.1 (ai p.1 46)
 if D3 s o.1 l p.2=true then some (nv o.1 l p.2)else none
def zV (s:ah):(iG s).2.length≤s.length:=by
 unfold iG;split
 ·simp
 ·split<;>exact Nat.le_refl _
def x6 (s:ah):(fh s 0).1.length≤s.length∧(fh s 0).2.length≤s.length:=by
 unfold fh;split<;>simp<;>omega
end Go.Abs
namespace Go.Abs
def bS (s:ah):Int×ah:=match nZ s 0 with
 |some o=>(o,s.drop (bM o).length)
 |none=>(9,s)
def cN (s:ah):ah×ah:=fh (bS s).2 0
def cw (s:ah):List ah:=HH (bS s).1 (ai (cN s).1 46)
def jy (s:ah):Prop:=(bS s).1=9→(ai (cN s).1 46)[(ai (cN s).1 46).length-1]! =[42]
instance (s:ah):Decidable (jy s):=by unfold jy;exact inferInstance
def cF (s:ah):bU:=nv (bS s).1 (cw s) (cN s).2
def dC (s:ah):Option bU:=if jy s∧fg (cw s)=true∧iy (cF s)=true∧cP (cF s)=s then some (cF s)else none
def AH (l:List ah)(i:Nat):dw:=⟨if 0<i then cT l[0]! else 0,if 1<i then cT l[1]! else 0,if 2<i then cT l[2]! else 0,[],[]⟩
def Cg (s:ah):(bS s).2.length≤s.length:=by
 unfold bS;split<;>simp
def fU {s:ah}(h:¬(jy s∧fg (cw s)=true∧iy (cF s)=true∧cP (cF s)=s)):dC s=none:=by
 unfold dC;rw[if_neg h]
end Go.Abs
namespace Go.Abs
def gv (s:ah):Option bU:=if(dC s).isSome=true then dC s else dC (94::s)
def yv (c:bU):aU:=.buf 1 [.str (cC c.v.major.toNat),.str (cC c.v.minor.toNat),.str (cC c.v.patch.toNat)]
def tt (c:bU):[D.str (cC c.v.major.toNat),D.str (cC c.v.minor.toNat),D.str (cC c.v.patch.toNat)].take c.parts.toNat=(ir c).map D.str:=by
 unfold ir bU.ik;rw[List.map_take];rfl
def G9 {c:bU}{m:List (Nat×aU)}{l:Nat}(hl:look m l=some (yv c)):xV m [.sl 1 [.a]] (.own l 1 0 c.parts.toNat)=.sl 1 ((ir c).map D.str):=by
 show D.sl 1 _=_;simp only[aD,hl,yv,List.drop_zero,tt,List.map_map];congr 1
def EW {c:bU}{m:List (Nat×aU)}{l:Nat}(h:c.parts≤3)(hl:look m l=some (yv c)):Fk m [.sl 1 [.a]] (.own l 1 0 c.parts.toNat):=by
 simp only[Fk,HN,HM];refine⟨by simp[dr,hl,yv];omega, ?_⟩;simp only[aD,hl,yv,List.drop_zero,tt];intro e he;obtain⟨x,_,rfl⟩:=List.mem_map.1 he;trivial
end Go.Abs
end
namespace Go.Abs
def mL {c:bU}(h:cP c≠[]):iy c=true∧cP c=hZ c:=by
 unfold cP at h⊢;split at h
 ·rename_i hb;exact⟨hb,if_pos hb⟩
 ·exact absurd rfl h
def v8 {s:ah}{op:Int}{l:List ah}{pre:ah}:D3 s op l pre=true↔fg l=true∧cP (nv op l pre)≠[]∧(cP (nv op l pre)=s∨cP (nv op l pre)=94::s):=by
 simp only[D3,Bool.and_eq_true,Bool.not_eq_true',Bool.or_eq_false_iff,decide_eq_false_iff_not,Bool.and_eq_false_iff,Bool.not_eq_false',decide_eq_true_eq]
def pZ (c:UInt8):Prop:=c≠33∧c≠60∧c≠61∧c≠62∧c≠94∧c≠126
def lS {c:UInt8}(h:aM c.toNat=true):pZ c∧c≠42:=by
 simp only[aM,Bool.and_eq_true,decide_eq_true_eq]at h;refine⟨⟨?_, ?_, ?_, ?_, ?_, ?_⟩, ?_⟩<;>rintro rfl<;>revert h<;>decide
def xW {k:bU}:∀(i:Nat)(c:UInt8),c∈dt k i→aM c.toNat=true∨c=46
 |0,c,h=>by simp[dt]at h
 |i+1,c,h=>by
  simp only[dt,List.mem_append]at h;rcases h with(h|h)|h
  ·exact xW i c h
  ·split at h
   ·exact .inr (List.mem_singleton.1 h)
   ·cases h
  ·exact .inl (lQ _ c h)
def sM (k:bU):∀i,0<i→∃c r,dt k i=c::r∧aM c.toNat=true
 |0,h=>by omega
 |1,_=>by
  have hd:=lQ (k.ik[0]!).toNat;have hn:=FN (k.ik[0]!).toNat;simp only[dt,Nat.lt_irrefl,if_false,List.nil_append];generalize cC (k.ik[0]!).toNat=w at hd hn
  match w,hn with
  |c::r,_=>exact⟨c,r,rfl,hd c (.head _)⟩
 |i+2,_=>by
  obtain⟨c,r,h1,h2⟩:=sM k (i+1) (by omega);refine⟨c,r++(if 0<i+1 then [46]else [])++cC (k.ik[i+1]!).toNat, ?_,h2⟩;show dt k (i+1)++_++_=_;rw[h1];simp
def Bf {c:bU}(h:iy c=true)(h9:c.op≠9):0<c.parts.toNat:=by
 simp only[iy,Bool.and_eq_true,decide_eq_true_eq]at h;have:=h.1.1.1.2;rw[if_neg h9]at this;omega
def B8 {s:ah}{o:Int}(h:nZ s 0=some o):1≤o∧o≤8∧∃x t,s=x::t∧¬pZ x∧(x=94→o=7):=by
 have hm:=List.mem_of_find?_eq_some h;have hb:=List.find?_some h;simp only[pC,Bool.and_eq_true,decide_eq_true_eq]at hb;obtain⟨h1,h2⟩:=hb;have hne:s≠[]∨bM o=[]:=by
  by_cases e:s=[]
  ·right;subst e;simpa using h1
  ·exact .inl e
 simp only[opsL,List.drop_zero,List.mem_cons,List.not_mem_nil,or_false]at hm;have key:∀w:ah,w≠[]→s.take w.length=w→∃x t t',s=x::t∧w=x::t':=by
  intro w hw hs
  match w,hw with
  |x::t',_=>
   match s with
   |[]=>simp at hs
   |y::t=>
    simp only[List.length_cons,List.take_succ_cons,List.cons.injEq]at hs;exact⟨x,t,t',by rw[hs.1],rfl⟩
 rcases hm with rfl|rfl|rfl|rfl|rfl|rfl|rfl|rfl
 all_goals
  refine⟨by omega,by omega, ?_⟩;obtain⟨x,t,t',e1,e2⟩:=key _ (by decide) h2;have hxx:=congrArg (fun w:ah=>w.headD 0) e2;simp only[List.headD_cons]at hxx;refine⟨x,t,e1, ?_, ?_⟩
  ·rw[←hxx];unfold pZ;decide
  ·rw[←hxx];decide
def sO (t:ah):nZ (94::t) 0=some 7:=by
 unfold nZ opsL;have hn:∀w:ah,w≠[]→w.headD 0≠94→pC (94::t) w=false:=by
  intro w hw hx
  match w,hw with
  |x::r,_=>
   unfold pC;rw[Bool.and_eq_false_iff];right;rw[decide_eq_false_iff_not];intro h;simp only[List.length_cons,List.take_succ_cons,List.cons.injEq]at h;exact hx h.1.symm
 have hy:pC (94::t) (bM 7)=true:=by
  unfold pC;rw[show bM 7=[94]by decide];simp
 simp only[List.drop_zero,List.find?_cons,hn _ (show bM 2≠[]by decide) (by decide),hn _ (show bM 4≠[]by decide) (by decide),hn _ (show bM 6≠[]by decide) (by decide),hn _ (show bM 1≠[]by decide) (by decide),
  hn _ (show bM 3≠[]by decide) (by decide),hn _ (show bM 5≠[]by decide) (by decide),hy]
def ya (t:ah):bS (94::t)=(7,t):=by
 simp only[bS,sO];rw[show bM 7=[94]by decide];rfl
def tl (b:Int):∀(s cur:ah),∃r l,a8 b s cur=(cur++r)::l
 |[],cur=>⟨[],[],by simp[a8]⟩
 |c::s,cur=>by
  simp only[a8];split
  ·exact⟨[],_,by rw[List.append_nil]⟩
  ·obtain⟨r,l,h⟩:=tl b s (cur++[c]);exact⟨c::r,l,by rw[h];simp⟩
def Co {x:UInt8}{t:ah}(h:¬pZ x):fg (ai (fh (x::t) 0).1 46)=false:=by
 have hx:x≠45∧x≠46∧aM x.toNat=false:=by
  refine⟨?_, ?_, ?_⟩
  ·rintro rfl;exact h (by unfold pZ;decide)
  ·rintro rfl;exact h (by unfold pZ;decide)
  ·cases hd:aM x.toNat with
   |false=>rfl
   |true=>exact absurd (lS hd).1 h
 have hp:∃r,(fh (x::t) 0).1=x::r:=by
  unfold fh;rw[List.drop_zero,List.findIdx?_cons];rw[if_neg (by simpa using hx.1)];cases t.findIdx? (fun c=>c==45)with
  |none=>exact⟨t,rfl⟩
  |some k=>exact⟨t.take k,by simp⟩
 obtain⟨r,hr⟩:=hp;rw[hr];have h46:¬((x.toNat:Int)=46):=fun e=>hx.2.1 (UInt8.toNat_inj.1 (by show x.toNat=46;omega))
 obtain⟨q,l,hs⟩:=tl 46 r [x];have e:ai (x::r) 46=(x::q)::l:=by
  unfold ai;simp only[a8];rw[if_neg h46];simpa using hs
 rw[e];unfold fg;rw[Bool.and_eq_false_iff];right;rw[aK (by simp)];have hn:dM ((x::q)::l)[0]! =false:=by
  show dM (x::q)=false;rw[zE];rw[aK (by simp)];have:aM (at8 (x::q) 0)=false:=by simpa[at8]using hx.2.2
  rw[this];simp
 rw[hn];rfl
def HG {s:ah}(h:iG s=bS s):eJ s=if D3 s (bS s).1 (cw s) (cN s).2=true then some (cF s)else none:=by
 unfold eJ;simp only[h];rfl
def tc {s:ah}:dC s=if jy s∧fg (cw s)=true∧iy (cF s)=true∧cP (cF s)=s then some (cF s)else none:=rfl
def Cd {s:ah}(h:∀c∈s,c≠45):fh s 0=(s,[]):=by
 unfold fh;rw[List.drop_zero,List.findIdx?_eq_none_iff.2 (fun c hc=>by simpa using h c hc)]
def ve {k:bU}(hb:iy k=true)(h9:k.op=9):hZ k=aO [46] (ir k++[[42]]):=by
 obtain⟨_,h0,h3,_,_⟩:=ki hb;rw[qh h0 h3];unfold hZ gC;rw[if_pos h9,h9];rfl
def mD {k:bU}{w:ah}(h:w∈ir k++[[42]]){c:UInt8}(hc:c∈w):aM c.toNat=true∨c=42:=by
 rcases List.mem_append.1 h with h|h
 ·have:=List.mem_of_mem_take h;obtain⟨n,_,rfl⟩:=List.mem_map.1 this;exact .inl (lQ _ c hc)
 ·obtain rfl:=List.mem_singleton.1 h;exact .inr (List.mem_singleton.1 hc)
def vc {k:bU}{s:ah}(hb:iy k=true)(h9:k.op=9)(hs:hZ k=s):(0<s.length∧at8 s (s.length-1)=42)∧fh s 0=(s,[])∧ai s 46=ir k++[[42]]:=by
 have ht:=ve hb h9;obtain⟨_,h0,h3,_,_⟩:=ki hb;rw[hs]at ht;have hch:∀c∈s,aM c.toNat=true∨c=42∨c=46:=by
  intro c hc;rw[ht]at hc;rcases mW 46 _ c hc with h|⟨w,hw,hcw⟩
  ·exact .inr (.inr h)
  ·rcases mD hw hcw with h|h
   ·exact .inl h
   ·exact .inr (.inl h)
 refine⟨?_,Cd (fun c hc=>?_), ?_⟩
 ·have he:∃q,s=q++[42]:=by
   rw[ht,qh h0 h3];exact⟨dt k k.parts.toNat++(if 0<k.parts then [46]else []),by rw[List.append_assoc]⟩
  obtain⟨q,rfl⟩:=he;simp[at8]
 ·rintro rfl;rcases hch 45 hc with h|h|h
  ·revert h;decide
  ·revert h;decide
  ·revert h;decide
 ·rw[ht];refine qL (b:=46) (x:=46) rfl (by simp) fun w hw c hc=>?_
  rcases mD hw hc with h|h
  ·have:=(Dg h).1;omega
  ·rw[h];decide
def r6 {k:bU}{s:ah}(hb:iy k=true)(h7:k.op=7)(hs:hZ k=94::s):(∀c∈s,c≠42)∧∃c r,s=c::r∧aM c.toNat=true:=by
 have hp:=Bf hb (by omega);have e:s=dt k k.parts.toNat++gC k:=by
  unfold hZ at hs;rw[h7,show bM 7=[94]by decide]at hs;simpa using hs.symm
 obtain⟨c,r,h1,h2⟩:=sM k _ hp;refine⟨fun c hc=>?_,c,r++gC k,by rw[e,h1];rfl,h2⟩;rw[e]at hc;rcases List.mem_append.1 hc with hc|hc
 ·rcases xW _ c hc with h|h
  ·exact(lS h).2
  ·rw[h];decide
 ·unfold gC at hc;rw[if_neg (by omega)]at hc;split at hc
  ·cases hc
  ·rcases List.mem_cons.1 hc with rfl|hc
   ·decide
   ·have hv:=(ki hb).1;simp only[eO,Bool.and_eq_true]at hv;rcases ET hv.1.2 hc with h|h
    ·rintro rfl;revert h;decide
    ·rw[h];decide
def rL {s:ah}:D3 s (bS s).1 (cw s) (cN s).2=true↔fg (cw s)=true∧cP (cF s)≠[]∧(cP (cF s)=s∨cP (cF s)=94::s):=v8
def Db (s:ah):gv s=eJ s:=by
 have hcar:bS (94::s)=(7,s):=ya s;have hL7:cw (94::s)=ai (fh s 0).1 46:=by
  unfold cw cN;rw[hcar];rfl
 have hK7:cF (94::s)=nv 7 (ai (fh s 0).1 46) (fh s 0).2:=by
  unfold cF;rw[hL7];unfold cN;rw[hcar]
 cases ho:nZ s 0 with
 |some o=>
  obtain⟨o1,o8,x,t,hs,hx,hx94⟩:=B8 ho;have hrw:bS s=(o,s.drop (bM o).length):=by simp only[bS,ho]
  have hsp:iG s=bS s:=by rw[hrw];simp only[iG,ho]
  have hstar:jy s:=by
   intro h;rw[hrw]at h;simp only at h;omega
  have hcn:dC (94::s)=none:=fU fun h=>by
   have:=h.2.1;rw[hL7,hs,Co hx]at this;cases this
  have hop:(cF s).op=o:=by show(bS s).1=o;rw[hrw]
  rw[HG hsp];by_cases hk:fg (cw s)=true∧cP (cF s)=s
  ·have hne:cP (cF s)≠[]:=by rw[hk.2,hs];simp
   have hb:=(mL hne).1;have hr:dC s=some (cF s):=by rw[tc,if_pos ⟨hstar,hk.1,hb,hk.2⟩]
   have hok:D3 s (bS s).1 (cw s) (cN s).2=true:=rL.2 ⟨hk.1,hne,.inl hk.2⟩;rw[if_pos hok];unfold gv;rw[hr];rfl
  ·have hr:dC s=none:=fU fun h=>hk ⟨h.2.1,h.2.2.2⟩
   have hok:¬D3 s (bS s).1 (cw s) (cN s).2=true:=fun h=>by
    obtain⟨h1,h2,h3⟩:=rL.1 h;rcases h3 with h3|h3
    ·exact hk ⟨h1,h3⟩
    ·obtain⟨hb,he⟩:=mL h2;have h3':hZ (cF s)=94::s:=by rw[←he];exact h3
     have h7:o=7:=by
      have hh:∃y w,bM o=y::w∧(y=94→o=7):=by
       have:o=1∨o=2∨o=3∨o=4∨o=5∨o=6∨o=7∨o=8:=by omega
       rcases this with rfl|rfl|rfl|rfl|rfl|rfl|rfl|rfl
       ·exact⟨61,[],by decide,by decide⟩
       ·exact⟨33,[61],by decide,by decide⟩
       ·exact⟨60,[],by decide,by decide⟩
       ·exact⟨60,[61],by decide,by decide⟩
       ·exact⟨62,[],by decide,by decide⟩
       ·exact⟨62,[61],by decide,by decide⟩
       ·exact⟨94,[],by decide,by decide⟩
       ·exact⟨126,[],by decide,by decide⟩
      obtain⟨y,w,e1,e2⟩:=hh;unfold hZ at h3';rw[hop,e1]at h3';simp only[List.cons_append,List.cons.injEq]at h3';exact e2 h3'.1
     obtain⟨_,c,r,e1,e2⟩:=r6 hb (by rw[hop];exact h7) h3';rw[hs]at e1;simp only[List.cons.injEq]at e1;rw[←e1.1]at e2;exact hx (lS e2).1
   rw[if_neg hok];unfold gv;rw[hr,if_neg (by simp),hcn]
 |none=>
  have hrw:bS s=(9,s):=by simp only[bS,ho]
  have h94:∀t,s≠94::t:=by
   rintro t rfl;rw[sO]at ho;cases ho
  have hop:(cF s).op=9:=by show(bS s).1=9;rw[hrw]
  have hst7:jy (94::s):=by
   intro h;rw[hcar]at h;simp only at h;omega
  by_cases hl:0<s.length∧at8 s (s.length-1)=42
  ·have hsp:iG s=bS s:=by rw[hrw];simp only[iG,ho,if_pos hl]
   have hcn:dC (94::s)=none:=fU fun h=>by
    obtain⟨_,h2,h3,h4⟩:=h;have he:=(mL (c:=cF (94::s)) (by rw[h4];simp)).2;rw[h4]at he;have hno:=(r6 h3 (by rw[hK7];rfl) he.symm).1;have hmem:s[s.length-1]'(by omega)∈s:=List.getElem_mem _;refine hno _ hmem (UInt8.toNat_inj.1 ?_);have:=hl.2;rw[vE s _ (by omega)]at this;show _=42;omega
   rw[HG hsp];by_cases hk:fg (cw s)=true∧cP (cF s)=s
   ·have hne:cP (cF s)≠[]:=by
     rw[hk.2];intro h;rw[h]at hl;simp at hl
    obtain⟨hb,he⟩:=mL hne;obtain⟨_,g2,g3⟩:=vc (s:=s) hb hop (he.symm.trans hk.2);have hstar:jy s:=by
     intro _;have hP:cN s=(s,[]):=by unfold cN;rw[hrw];exact g2
     rw[hP];simp only;rw[g3];simp
    have hr:dC s=some (cF s):=by rw[tc,if_pos ⟨hstar,hk.1,hb,hk.2⟩]
    have hok:D3 s (bS s).1 (cw s) (cN s).2=true:=rL.2 ⟨hk.1,hne,.inl hk.2⟩;rw[if_pos hok];unfold gv;rw[hr];rfl
   ·have hr:dC s=none:=fU fun h=>hk ⟨h.2.1,h.2.2.2⟩
    have hok:¬D3 s (bS s).1 (cw s) (cN s).2=true:=fun h=>by
     obtain⟨h1,h2,h3⟩:=rL.1 h;rcases h3 with h3|h3
     ·exact hk ⟨h1,h3⟩
     ·obtain⟨hb,he⟩:=mL h2;have h3':hZ (cF s)=94::s:=by rw[←he];exact h3
      have ht:=ve hb hop;rw[h3']at ht;have hm:(94:UInt8)∈aO [46] (ir (cF s)++[[42]]):=by rw[←ht];simp
      rcases mW 46 _ _ hm with h|⟨w,hw,hcw⟩
      ·revert h;decide
      ·rcases mD hw hcw with h|h
       ·revert h;decide
       ·revert h;decide
    rw[if_neg hok];unfold gv;rw[hr,if_neg (by simp),hcn]
  ·have hsp:iG s=(7,s):=by simp only[iG,ho,if_neg hl]
   have hr:dC s=none:=fU fun h=>by
    obtain⟨h1,h2,h3,h4⟩:=h;have he:hZ (cF s)=s:=(if_pos h3:cP (cF s)=hZ (cF s)).symm.trans h4;exact hl (vc h3 hop he).1
   have h6:eJ s=if D3 s 7 (ai (fh s 0).1 46) (fh s 0).2=true then some (cF (94::s))else none:=by
    unfold eJ;simp only[hsp];rw[hK7];rfl
   have hRC:gv s=dC (94::s):=by
    unfold gv;rw[hr];rfl
   rw[hRC,h6,tc];by_cases hok:D3 s 7 (ai (fh s 0).1 46) (fh s 0).2=true
   ·rw[if_pos hok];obtain⟨h1,h2,h3⟩:=v8.1 hok;obtain⟨hb,he⟩:=mL h2;rcases h3 with h3|h3
    ·exfalso;rw[he]at h3;have hh:∃w,hZ (nv 7 (ai (fh s 0).1 46) (fh s 0).2)=94::w:=by
      unfold hZ;exact⟨_,rfl⟩
     obtain⟨w,hw⟩:=hh;exact h94 w (by rw[←h3,hw])
    ·rw[if_pos ⟨hst7,by rw[hL7];exact h1,by rw[hK7];exact hb,by rw[hK7];exact h3⟩]
   ·rw[if_neg hok,if_neg];rintro⟨_,g2,g3,g4⟩;rw[hK7]at g3 g4;rw[hL7]at g2;exact hok (v8.2 ⟨g2,by rw[g4];simp,.inr g4⟩)
abbrev Alt:=List bU
abbrev vC:=List Alt
def ou (a:Alt):D:=.sl 7 (a.map bU.D)
def yT (a:Alt):(ou a).aI=true:=rfl
def rz (l k:Nat)(es:List D)(r:List Alt):j9 l k es (r.map ou)=r.map ou:=si l k es _ (bm yT _)
def gV (r:vC):D:=.agg [.sl 1 (r.map ou)]
def kZ (a:Alt):Bool:=decide (1≤a.length)&&decide (a.length≤6)&&cj (fun k=>iy a[k]!) 0 a.length
def jW (r:vC):Bool:=decide (1≤r.length)&&decide (r.length≤6)&&cj (fun i=>kZ r[i]!) 0 r.length
def pz (a:Alt):ah:=aO [44,32] (a.map cP)
def Cl (r:vC):ah:=aO [32,124,124,32] (r.map pz)
def bU.lo (c:bU):Prop:=c.v.pre.length≤1000∧c.v.build.length≤1000
def bU.lo.sm {c:bU}(h:c.lo):c.v.sm:=⟨Nat.le_trans h.1 (by decide),Nat.le_trans h.2 (by decide)⟩
def mA (r:vC):Prop:=∀a∈r,∀c∈a,c.lo
def xe {c:bU}(h:c.lo):(cP c).length≤1100:=by
 unfold cP;split
 ·rename_i hb;obtain⟨hv,h0,h3,_⟩:=ki hb;have h1:=qc c.op;have h2:=mZ hv c.parts.toNat;have ht:(gC c).length≤1001:=by
   unfold gC;have:=h.1;split
   ·split<;>simp
   ·split
    ·simp
    ·simp only[List.length_cons];omega
  simp only[hZ,List.length_append];omega
 ·simp
def qB (b:ah)(M:Nat):∀(l:List ah),(∀t∈l,t.length≤M)→(aO b l).length≤l.length*(M+b.length)
 |[],_=>by simp[aO]
 |[t],h=>by
  have:=h t (.head _);simp only[aO,List.length_singleton,Nat.one_mul];omega
 |t::u::r,h=>by
  have h1:=h t (.head _);have h2:=qB b M (u::r) fun x hx=>h x (.tail _ hx)
  simp only[aO,List.length_append];simp only[List.length_cons,Nat.add_mul,Nat.one_mul]at h2⊢;omega
def CY {a:Alt}(h:∀c∈a,c.lo)(hl:a.length≤6):(pz a).length≤6612:=by
 have:=qB [44,32] 1100 (a.map cP) (fun t ht=>by
  obtain⟨c,hc,rfl⟩:=List.mem_map.1 ht;exact xe (h c hc))
 simp only[List.length_map]at this;have h2:a.length*(1100+([44,32]:ah).length)≤6*1102:=Nat.mul_le_mul hl (by decide);unfold pz;omega
def Dl {r:vC}(h:jW r=true){i:Nat}(hi:i<r.length):kZ r[i]! =true:=by
 simp only[jW,Bool.and_eq_true,decide_eq_true_eq]at h;exact dq.1 h.2 i (by omega) hi
def Bd {a:Alt}(h:kZ a=true):1≤a.length∧a.length≤6:=by
 simp only[kZ,Bool.and_eq_true,decide_eq_true_eq]at h;exact h.1
def hO {α β:Type} [Inhabited α](f:α→β)(l:List α){i:Nat}(h:i<l.length):(l.map f).take (i+1)=(l.map f).take i++[f l[i]!]:=by
 rw[List.take_add_one];simp[h]
def pV (r:vC):Bool:=jW r&&decide ((Cl r).length≤96)
def uS (r:vC):ah:=if pV r=true then Cl r else []
def aJ:ah→ah→List ah
 |[],cur=>[cur]
 |[c],cur=>[cur++[c]]
 |c::d::r,cur=>if c=124∧d=124 then cur::aJ r []else aJ (d::r) (cur++[c])
def ox:ah→ah
 |[]=>[]
 |c::r=>if c=32 then ox r else c::r
def ea (s:ah):ah:=(ox (ox s).reverse).reverse
def ke:∀s,(ox s).length≤s.length
 |[]=>Nat.le_refl _
 |c::r=>by
  unfold ox;split
  ·have:=ke r;simp only[List.length_cons];omega
  ·exact Nat.le_refl _
def uf (s:ah):(ea s).length≤s.length:=by
 have h1:=ke s;have h2:=ke (ox s).reverse;simp only[List.length_reverse]at h2;simp only[ea,List.length_reverse];omega
def kW:∀(s cur:ah),(aJ s cur).length≤s.length+1∧(∀t∈aJ s cur,t.length≤cur.length+s.length)
 |[],cur=>by simp[aJ]
 |[c],cur=>by simp[aJ]
 |c::d::r,cur=>by
  unfold aJ;split
  ·have:=kW r [];refine⟨by simp only[List.length_cons];omega,fun t ht=>?_⟩;rcases List.mem_cons.1 ht with rfl|ht
   ·simp
   ·have:=this.2 t ht;simp only[List.length_nil,List.length_cons]at this⊢;omega
  ·have:=kW (d::r) (cur++[c]);refine⟨by have:=this.1;simp only[List.length_cons]at this⊢;omega,fun t ht=>?_⟩;have:=this.2 t ht;simp only[List.length_append,List.length_cons,List.length_nil]at this⊢;omega
def wOK (t:ah):Bool:=cj (fun k=>(eJ (ea (ai t 44)[k]!)).isSome) 0 (ai t 44).length
def AU (s:ah):Bool:=cj (fun i=>wOK (aJ s [])[i]!) 0 (aJ s []).length
def pA (t:ah):Alt:=(ai t 44).map fun x=>(eJ (ea x)).getD di
def j7 (s:ah):vC:=(aJ s []).map pA
def iF (s:ah):vC×Int:=
 if 96<s.length then([],3)else if AU s=false then([],6)else if jW (j7 s)=false then([],6)else if 96<(Cl (j7 s)).length then([],3)else(j7 s,0)
def m3 (s:ah):Bool:=decide ((iF s).2=0)&&decide (uS (iF s).1=s)
def Da {s:ah}(h:s.length≤1000):((eJ s).getD di).lo:=by
 unfold eJ;simp only;split
 ·have h1:=zV s;have h2:=x6 (iG s).2;exact⟨by show(fh (iG s).2 0).2.length≤1000;omega,by show([]:ah).length≤1000;decide⟩
 ·exact⟨by show([]:ah).length≤1000;decide,by show([]:ah).length≤1000;decide⟩
def AV {s:ah}(h:s.length≤1000):mA (j7 s):=by
 intro a ha c hc;obtain⟨t,ht,rfl⟩:=List.mem_map.1 ha;obtain⟨x,hx,rfl⟩:=List.mem_map.1 hc;have h1:=(kW s []).2 t ht;have h2:=dd t 44 hx;have h3:=uf x;simp only[List.length_nil]at h1;exact Da (by omega)
def G4 {s:ah}:mA (iF s).1∧((iF s).2=0→jW (iF s).1=true):=by
 unfold iF;split
 ·exact⟨(fun a ha=>by cases ha),fun h=>by cases h⟩
 ·split
  ·exact⟨(fun a ha=>by cases ha),fun h=>by cases h⟩
  ·split
   ·exact⟨(fun a ha=>by cases ha),fun h=>by cases h⟩
   ·rename_i hf;split
    ·exact⟨(fun a ha=>by cases ha),fun h=>by cases h⟩
    ·exact⟨AV (by omega),fun _=>by simpa using hf⟩
def Nd.eq (a b:Nd):eU (Nd.D a).cells (Nd.D b).cells=decide (a=b):=by
 obtain⟨a1,a2,a3,a4,a5⟩:=a;obtain⟨b1,b2,b3,b4,b5⟩:=b;simp only[Nd.D,D.cells,eU,oH,ru,Nd.mk.injEq,Bool.and_true];simp only[Bool.decide_and]
def gu (n:Nd):Bool:=decide (n.key=0)&&decide (n.text=[])
def nA (n:Nd):Bool:=decide (n.op=1)&&decide (0≤n.key)&&decide (n.key<3)&&bI n.text&&decide (n.a=0)&&decide (n.b=0)
def gB (n:Nd)(i:Nat)(o:List Int):Option (List Int):=
 if nA n=true then some (o++[(i:Int)])
 else if(((n.op=2∧gu n=true)∧0<o.length)∧n.a=o[o.length-1]!)∧n.b=0 then some (o.take (o.length-1)++[(i:Int)])
 else if((((n.op=3∨n.op=4)∧gu n=true)∧1<o.length)∧n.a=o[o.length-2]!)∧n.b=o[o.length-1]! then some (o.take (o.length-2)++[(i:Int)])
 else none
def jN:List Nd→Nat→List Int→Option (List Int)
 |[],_,o=>some o
 |n::r,i,o=>match gB n i o with
  |some o'=>jN r (i+1) o'
  |none=>none
def mE (l:List Nd):Bool:=match jN l 0 []with
 |some o=>decide (l.length=0) ||decide (o.length=1)
 |none=>false
def um {α:Type} [Inhabited α](l:List α){i:Nat}(h:i<l.length):l.drop i=l[i]! ::l.drop (i+1):=by
 rw[List.drop_eq_getElem_cons h];simp[h]
def jt {l:List Nd}{i:Nat}{o o':List Int}(h:i<l.length)(hs:gB l[i]! i o=some o'):jN (l.drop i) i o=jN (l.drop (i+1)) (i+1) o':=by
 rw[um l h];simp only[jN,hs]
def dV {l:List Nd}{i:Nat}{o:List Int}(h:i<l.length)(hs:gB l[i]! i o=none):jN (l.drop i) i o=none:=by
 rw[um l h];simp only[jN,hs]
def Cb {l:List Nd}{i:Nat}{o:List Int}(h:l.length≤i):jN (l.drop i) i o=some o:=by
 rw[List.drop_eq_nil_of_le h];rfl
def EY {l:List Nd}(h:jN l 0 []=none):mE l=false:=by simp only[mE,h]
def fD {l:List Nd}(h:jN l 0 []=none):(true&&mE l)=false:=by rw[EY h];rfl
def wJ (S:List Int):Int→List Int→Prop
 |e,[]=>e=0
 |e,t::r=>t=e-1∧0≤t∧0≤S[t.toNat]! ∧S[t.toNat]! ≤t∧wJ S S[t.toNat]! r
def vJ {S:List Int}{i:Nat}{v:Int}:∀{r:List Int}{e:Int},e≤i→wJ S e r→wJ (S.set i v) e r
 |[],e,_,h=>h
 |t::r,e,he,⟨h1,h2,h3,h4,h5⟩=>by
  have hg:(S.set i v)[t.toNat]! =S[t.toNat]! :=by
   have:i≠t.toNat:=by omega
   simp[List.getElem?_set,this]
  exact⟨h1,h2,by rw[hg];exact h3,by rw[hg];exact h4,by rw[hg];exact vJ (by omega) h5⟩
def G6 {S:List Int}{i:Nat}{v:Int}(h:i<S.length):(S.set i v)[i]! =v:=by
 simp[h]
def oB {S:List Int}{i:Nat}{v:Int}{r:List Int}(h:i<S.length)(h0:0≤v)(h1:v≤i)(hc:wJ S v r):wJ (S.set i v) ((i+1:Nat):Int) ((i:Int)::r):=by
 have hg:(S.set i v)[((i:Nat):Int).toNat]! =v:=by rw[Int.toNat_natCast];exact G6 h
 exact⟨by omega,by omega,by rw[hg];exact h0,by rw[hg];exact h1,by rw[hg];exact vJ (by omega) hc⟩
def oC {S:List Int}{i:Nat}{o:List Int}(h:wJ S (i:Nat) o.reverse):(0<o.length↔1≤i)∧(1≤i→o[o.length-1]! =(i:Int) -1∧0≤S[i-1]! ∧S[i-1]! ≤(i:Int) -1∧wJ S S[i-1]! (o.take (o.length-1)).reverse):=by
 rcases List.eq_nil_or_concat o with rfl|⟨p,t,rfl⟩
 ·have h:((i:Nat):Int)=0:=h;exact⟨⟨fun h=>absurd h (by simp),fun h2=>by omega⟩,fun h2=>by omega⟩
 ·rw[List.concat_eq_append,List.reverse_append,List.reverse_singleton,List.singleton_append]at h;obtain⟨h1,h2,h3,h4,h5⟩:=h;have ht:t.toNat=i-1:=by omega
  rw[ht]at h3 h4 h5;rw[List.concat_eq_append];refine⟨⟨fun _=>by omega,fun _=>by simp⟩,fun _=>⟨by simp[h1],h3,by omega, ?_⟩⟩;rw[List.take_append_of_le_length (by simp),List.take_of_length_le (by simp)];exact h5
def vK {S:List Int}{i:Nat}{o:List Int}(h:wJ S (i:Nat) o.reverse):(1<o.length↔1≤i∧1≤S[i-1]!)∧(1<o.length→o[o.length-2]! =S[i-1]! -1∧0≤S[(S[i-1]! -1).toNat]! ∧S[(S[i-1]! -1).toNat]! ≤S[i-1]! -1∧wJ S S[(S[i-1]! -1).toNat]! (o.take (o.length-2)).reverse):=by
 obtain⟨h1,h2⟩:=oC h;by_cases hi:1≤i
 ·obtain⟨g1,g2,g3,g4⟩:=h2 hi;have hl:=h1.2 hi;rcases List.eq_nil_or_concat o with rfl|⟨p,t,rfl⟩
  ·simp at hl
  ·rw[List.concat_eq_append]at g4⊢;rw[List.take_append_of_le_length (by simp),List.take_of_length_le (by simp)]at g4;rcases List.eq_nil_or_concat p with rfl|⟨q,u,rfl⟩
   ·have g4:S[i-1]! =0:=g4;exact⟨⟨fun h=>absurd h (by simp),fun h=>by omega⟩,fun h=>absurd h (by simp)⟩
   ·rw[List.concat_eq_append]at g4⊢;rw[List.reverse_append,List.reverse_singleton,List.singleton_append]at g4;obtain⟨k1,k2,k3,k4,k5⟩:=g4;subst k1;refine⟨⟨fun _=>⟨hi,by omega⟩,fun _=>by simp⟩,fun _=>⟨by simp,k3,k4, ?_⟩⟩;rw[List.append_assoc,List.take_append_of_le_length (by simp),List.take_of_length_le (by simp)];exact k5
 ·have:¬0<o.length:=fun h=>hi (h1.1 h)
  exact⟨⟨fun h=>by omega,fun h=>absurd h.1 hi⟩,fun h=>by omega⟩
def EZ {S:List Int}{n:Nat}{o:List Int}(t1:0<o.length↔1≤n)(t2:1≤n→o[o.length-1]! =(n:Int) -1∧0≤S[n-1]! ∧S[n-1]! ≤(n:Int) -1∧wJ S S[n-1]! (o.take (o.length-1)).reverse)(u1:1<o.length↔1≤n∧1≤S[n-1]!):
  (decide (n=0) ||decide (o.length=1))=(decide ((n:Nat)=(0:Int)) ||decide (S[n-1]! =0)):=by
 rw[Bool.eq_iff_iff];simp only[Bool.or_eq_true,decide_eq_true_eq];constructor
 ·rintro(h|h)
  ·left;omega
  ·by_cases hn:1≤n
   ·have:=t2 hn;right;omega
   ·left;omega
 ·rintro(h|h)
  ·left;omega
  ·by_cases hn:1≤n
   ·right;omega
   ·left;omega
def sE {n:Nd}(h:nA n=true):n.op=1:=by simp only[nA,Bool.and_eq_true,decide_eq_true_eq]at h;exact h.1.1.1.1.1
def zZ {n:Nd}{i:Nat}{o:List Int}(h:nA n=true):gB n i o=some (o++[(i:Int)]):=if_pos h
def wz {n:Nd}{i:Nat}{o:List Int}(h1:n.op=1)(h:nA n=false):gB n i o=none:=by
 unfold gB;rw[if_neg (by simp[h]),if_neg (by rintro⟨⟨⟨⟨h,_⟩,_⟩,_⟩,_⟩;omega),if_neg (by rintro⟨⟨⟨⟨h|h,_⟩,_⟩,_⟩,_⟩<;>omega)]
def yr {n:Nd}{i:Nat}{o:List Int}(h1:n.op≠1)(h2:n.op≠2)(h3:n.op≠3)(h4:n.op≠4):gB n i o=none:=by
 unfold gB;rw[if_neg (fun h=>h1 (sE h)),if_neg (by rintro⟨⟨⟨⟨h,_⟩,_⟩,_⟩,_⟩;exact h2 h),if_neg (by rintro⟨⟨⟨⟨h|h,_⟩,_⟩,_⟩,_⟩;exact h3 h;exact h4 h)]
def qg {S:List Int}{n:Nd}{i:Nat}{o:List Int}(hc:wJ S (i:Nat) o.reverse)(h2:n.op=2):gB n i o=if(1≤i∧n.a=(i:Int) -1∧n.b=0)∧gu n=true then some (o.take (o.length-1)++[(i:Int)])else none:=by
 obtain⟨t1,t2⟩:=oC hc;unfold gB;rw[if_neg (fun h=>by have:=sE h;omega)];by_cases hk:(1≤i∧n.a=(i:Int) -1∧n.b=0)∧gu n=true
 ·rw[if_pos hk,if_pos ⟨⟨⟨⟨h2,hk.2⟩,t1.2 hk.1.1⟩,by rw[(t2 hk.1.1).1];exact hk.1.2.1⟩,hk.1.2.2⟩]
 ·rw[if_neg hk,if_neg,if_neg (by rintro⟨⟨⟨⟨h|h,_⟩,_⟩,_⟩,_⟩<;>omega)];rintro⟨⟨⟨⟨_,g1⟩,g2⟩,g3⟩,g4⟩;have hi:=t1.1 g2;exact hk ⟨⟨hi,by rw[g3];exact(t2 hi).1,g4⟩,g1⟩
def jf {S:List Int}{n:Nd}{i:Nat}{o:List Int}(hc:wJ S (i:Nat) o.reverse)(h2:n.op=3∨n.op=4):gB n i o=if(2≤i∧n.b=(i:Int) -1∧1≤S[i-1]! ∧n.a=S[i-1]! -1)∧gu n=true then some (o.take (o.length-2)++[(i:Int)])else none:=by
 obtain⟨t1,t2⟩:=oC hc;obtain⟨u1,u2⟩:=vK hc;unfold gB;rw[if_neg (fun h=>by have:=sE h;omega),if_neg (by rintro⟨⟨⟨⟨h,_⟩,_⟩,_⟩,_⟩;omega)];by_cases hk:(2≤i∧n.b=(i:Int) -1∧1≤S[i-1]! ∧n.a=S[i-1]! -1)∧gu n=true
 ·have hl:=u1.2 ⟨by omega,hk.1.2.2.1⟩;rw[if_pos hk,if_pos ⟨⟨⟨⟨h2,hk.2⟩,hl⟩,by rw[(u2 hl).1];exact hk.1.2.2.2⟩,by rw[(t2 (by omega)).1];exact hk.1.2.1⟩]
 ·rw[if_neg hk,if_neg];rintro⟨⟨⟨⟨_,g1⟩,g2⟩,g3⟩,g4⟩;obtain⟨hi,hS⟩:=u1.1 g2;obtain⟨w1,w2,w3,_⟩:=t2 hi;exact hk ⟨⟨by omega,by rw[g4];exact w1,hS,by rw[g3];exact(u2 g2).1⟩,g1⟩
def fe (l:List Nd):Prop:=∀j,j<l.length→(l[j]!.op=1→0≤l[j]!.key∧l[j]!.key<3∧l[j]!.text.length≤12)∧(l[j]!.op≠1→0≤l[j]!.a∧l[j]!.a<j)∧(l[j]!.op≠1→l[j]!.op≠2→0≤l[j]!.b∧l[j]!.b<j)
def zH {l:List Nd}:∀(k i:Nat)(o o':List Int),i+k=l.length→(∀x∈o,0≤x∧x<(i:Int))→jN (l.drop i) i o=some o'→
  ∀j,i≤j→j<l.length→(l[j]!.op=1→0≤l[j]!.key∧l[j]!.key<3∧l[j]!.text.length≤12)∧(l[j]!.op≠1→0≤l[j]!.a∧l[j]!.a<j)∧(l[j]!.op≠1→l[j]!.op≠2→0≤l[j]!.b∧l[j]!.b<j):=by
 intro k;induction k with
 |zero=>intro i o o' h1 h2 h3 j h4 h5;omega
 |succ k ih=>
  intro i o o' h1 h2 h3 j h4 h5;have hi:i<l.length:=by omega
  cases hs:gB l[i]! i o with
  |none=>rw[dV hi hs]at h3;cases h3
  |some o2=>
   rw[jt hi hs]at h3;have hm:∀m,0<m→m≤o.length→0≤o[o.length-m]! ∧o[o.length-m]! <(i:Int):=fun m hm1 hm2=>h2 _ (bG (by omega))
   have hsub:∀m,∀x∈o.take m++[(i:Int)],0≤x∧x<((i+1:Nat):Int):=fun m x hx=>by
    rcases List.mem_append.1 hx with hx|hx
    ·have:=h2 x (List.mem_of_mem_take hx);omega
    ·simp only[List.mem_singleton]at hx;omega
   unfold gB at hs;split at hs
   ·rename_i hl;cases hs;rcases Nat.lt_or_ge i j with hj|hj
    ·exact ih (i+1) _ o' (by omega) (by have:=hsub o.length;rwa [List.take_of_length_le (Nat.le_refl _)]at this) h3 j hj h5
    ·obtain rfl:i=j:=by omega
     simp only[nA,Bool.and_eq_true,decide_eq_true_eq]at hl;have hw:=hl.1.1.2;simp only[bI,Bool.and_eq_true,decide_eq_true_eq]at hw;exact⟨fun _=>⟨hl.1.1.1.1.2,hl.1.1.1.2,hw.1.2⟩,fun h=>absurd hl.1.1.1.1.1 h,fun h=>absurd hl.1.1.1.1.1 h⟩
   ·split at hs
    ·rename_i hl;cases hs;rcases Nat.lt_or_ge i j with hj|hj
     ·exact ih (i+1) _ o' (by omega) (hsub _) h3 j hj h5
     ·obtain rfl:i=j:=by omega
      obtain⟨⟨⟨⟨g1,g2⟩,g3⟩,g4⟩,g5⟩:=hl;have:=hm 1 (by omega) (by omega);exact⟨fun h=>by omega,fun _=>by rw[g4];exact this,fun _ h=>absurd g1 h⟩
    ·split at hs
     ·rename_i hl;cases hs;rcases Nat.lt_or_ge i j with hj|hj
      ·exact ih (i+1) _ o' (by omega) (hsub _) h3 j hj h5
      ·obtain rfl:i=j:=by omega
       obtain⟨⟨⟨⟨g1,g2⟩,g3⟩,g4⟩,g5⟩:=hl;have q1:=hm 1 (by omega) (by omega);have q2:=hm 2 (by omega) (by omega);exact⟨fun h=>by omega,fun _=>by rw[g4];exact q2,fun _ _=>by rw[g5];exact q1⟩
     ·cases hs
def tu {l:List Nd}(h:mE l=true):fe l:=by
 unfold mE at h;cases ho:jN l 0 []with
 |none=>rw[ho]at h;cases h
 |some o=>exact fun j hj=>zH l.length 0 [] o (by omega) (by simp) ho j (Nat.zero_le _) hj
def AA {n:Nd}(h:n.op=1):nA n=!((((decide (n.key<0) ||decide (3≤n.key)) ||!bI n.text) ||!decide (n.a=0)) ||!decide (n.b=0)):=by
 simp only[nA,h,decide_true,Bool.true_and];rw[show decide (n.key<0)=!decide (0≤n.key)from by rw[←decide_not];exact decide_eq_decide.2 (by omega),show decide (3≤n.key)=!decide (n.key<3)from by rw[←decide_not];exact decide_eq_decide.2 (by omega)];generalize decide (0≤n.key)=a;generalize decide (n.key<3)=b;generalize bI n.text=c;generalize decide (n.a=0)=d;generalize decide (n.b=0)=e;cases a<;>cases b<;>cases c<;>cases d<;>cases e<;>rfl
def rO {S:List Int}{i:Nat}(h:i<S.length)(v:Int):(S.map (D.int .i64)).set (0+i) (tp ((S.map (D.int .i64)).getD (0+i) .any) 1 1 0 (.int .i64 v))=(S.set i v).map (D.int .i64):=by
 rw[Nat.zero_add,getD_map (q:=D.int .i64) h,List.map_set];rfl
abbrev Ho:=List Nd
def jC (m:Ho):D:=.agg [.sl 5 (m.map Nd.D)]
def lj:List ah:=[[111,115],[97,114,99,104],[97,98,105]]
def vV (k:Int):ah:=if k=0 then [111,115]else if k=1 then [97,114,99,104]else [97,98,105]
def jA (s:ah)(b:Bool):ah:=if b=true then [40,32]++s++[32,41]else s
def mF (l:List Nd):Nat→Int→ah
 |0,_=>[]
 |f+1,i=>
  if l[i.toNat]!.op=1 then vV l[i.toNat]!.key++[32,61,32]++l[i.toNat]!.text
  else if l[i.toNat]!.op=2 then
   if l[l[i.toNat]!.a.toNat]!.op=1 then vV l[l[i.toNat]!.a.toNat]!.key++[32,33,61,32]++l[l[i.toNat]!.a.toNat]!.text
   else [110,111,116,32]++jA (mF l f l[i.toNat]!.a) (!decide (l[l[i.toNat]!.a.toNat]!.op=2))
  else if l[i.toNat]!.op=3 then jA (mF l f l[i.toNat]!.a) (decide (l[l[i.toNat]!.a.toNat]!.op=4))++[32,97,110,100,32]++jA (mF l f l[i.toNat]!.b) (decide (l[l[i.toNat]!.b.toNat]!.op=4) ||decide (l[l[i.toNat]!.b.toNat]!.op=3))
  else mF l f l[i.toNat]!.a++[32,111,114,32]++jA (mF l f l[i.toNat]!.b) (decide (l[l[i.toNat]!.b.toNat]!.op=4))
def j8 (l:List Nd)(i:Int):ah:=mF l (i.toNat+1) i
def rS {l:List Nd}(hk:fe l):∀(f g:Nat)(i:Int),0≤i→i<l.length→i<f→i<g→mF l f i=mF l g i
 |0,_,_,_,_,h,_=>by omega
 |_,0,_,_,_,_,h=>by omega
 |f+1,g+1,i,h0,h1,h2,h3=>by
  obtain⟨k1,k2,k3⟩:=hk i.toNat (by omega);simp only[mF];by_cases e1:l[i.toNat]!.op=1
  ·rw[if_pos e1,if_pos e1]
  ·rw[if_neg e1,if_neg e1];have ka:=k2 e1;rw[rS hk f g l[i.toNat]!.a (by omega) (by omega) (by omega) (by omega)];by_cases e2:l[i.toNat]!.op=2
   ·rw[if_pos e2,if_pos e2]
   ·have kb:=k3 e1 e2;rw[rS hk f g l[i.toNat]!.b (by omega) (by omega) (by omega) (by omega)]
def Hb {l:List Nd}(hk:fe l){i:Int}(h0:0≤i)(h1:i<l.length):j8 l i=
  if l[i.toNat]!.op=1 then vV l[i.toNat]!.key++[32,61,32]++l[i.toNat]!.text
  else if l[i.toNat]!.op=2 then
   if l[l[i.toNat]!.a.toNat]!.op=1 then vV l[l[i.toNat]!.a.toNat]!.key++[32,33,61,32]++l[l[i.toNat]!.a.toNat]!.text
   else [110,111,116,32]++jA (j8 l l[i.toNat]!.a) (!decide (l[l[i.toNat]!.a.toNat]!.op=2))
  else if l[i.toNat]!.op=3 then jA (j8 l l[i.toNat]!.a) (decide (l[l[i.toNat]!.a.toNat]!.op=4))++[32,97,110,100,32]++jA (j8 l l[i.toNat]!.b) (decide (l[l[i.toNat]!.b.toNat]!.op=4) ||decide (l[l[i.toNat]!.b.toNat]!.op=3))
  else j8 l l[i.toNat]!.a++[32,111,114,32]++jA (j8 l l[i.toNat]!.b) (decide (l[l[i.toNat]!.b.toNat]!.op=4)):=by
 obtain⟨k1,k2,k3⟩:=hk i.toNat (by omega)
 conv=>lhs;unfold j8
 simp only[mF];by_cases e1:l[i.toNat]!.op=1
 ·rw[if_pos e1,if_pos e1]
 ·rw[if_neg e1,if_neg e1];have ka:=k2 e1;rw[show mF l i.toNat l[i.toNat]!.a=j8 l l[i.toNat]!.a from rS hk _ _ _ (by omega) (by omega) (by omega) (by omega)];by_cases e2:l[i.toNat]!.op=2
  ·rw[if_pos e2,if_pos e2]
  ·have kb:=k3 e1 e2;rw[show mF l i.toNat l[i.toNat]!.b=j8 l l[i.toNat]!.b from rS hk _ _ _ (by omega) (by omega) (by omega) (by omega)]
def na (s:ah)(b:Bool):(jA s b).length≤s.length+4:=by
 unfold jA;split<;>simp
def uD {k:Int}(h0:0≤k)(h3:k<3):lj[k.toNat]! =vV k:=by
 obtain rfl|rfl|rfl:k=0∨k=1∨k=2:=by omega
 ·rfl
 ·rfl
 ·rfl
def oQ (k:Int):(vV k).length≤4:=by
 unfold vV;split
 ·decide
 ·split<;>decide
def tv {l:List Nd}(hk:fe l):∀(f:Nat)(i:Int),0≤i→i<l.length→(mF l f i).length+20≤20*2^(f+1)
 |0,i,_,_=>by simp[mF]
 |f+1,i,h0,h1=>by
  obtain⟨k1,k2,k3⟩:=hk i.toNat (by omega);have hp:20*2^(f+1+1)=20*2^(f+1)+20*2^(f+1):=by rw[Nat.pow_succ 2 (f+1)];omega
  have h1p:1≤2^(f+1):=Nat.one_le_two_pow;simp only[mF];by_cases e1:l[i.toNat]!.op=1
  ·rw[if_pos e1];have:=oQ l[i.toNat]!.key;have:=k1 e1;simp only[List.length_append,List.length_cons,List.length_nil];omega
  ·rw[if_neg e1];have ka:=k2 e1;have la:=tv hk f l[i.toNat]!.a (by omega) (by omega);have wa:=fun b=>na (mF l f l[i.toNat]!.a) b
   by_cases e2:l[i.toNat]!.op=2
   ·rw[if_pos e2];split
    ·rename_i e3;have:=oQ l[l[i.toNat]!.a.toNat]!.key;have:=((hk l[i.toNat]!.a.toNat (by omega)).1 e3).2.2;simp only[List.length_append,List.length_cons,List.length_nil];omega
    ·have:=wa (!decide (l[l[i.toNat]!.a.toNat]!.op=2));simp only[List.length_append,List.length_cons,List.length_nil];omega
   ·rw[if_neg e2];have kb:=k3 e1 e2;have lb:=tv hk f l[i.toNat]!.b (by omega) (by omega);have wb:=fun b=>na (mF l f l[i.toNat]!.b) b
    split
    ·have:=wa (decide (l[l[i.toNat]!.a.toNat]!.op=4));have:=wb (decide (l[l[i.toNat]!.b.toNat]!.op=4) ||decide (l[l[i.toNat]!.b.toNat]!.op=3));simp only[List.length_append,List.length_cons,List.length_nil];omega
    ·have:=wb (decide (l[l[i.toNat]!.b.toNat]!.op=4));simp only[List.length_append,List.length_cons,List.length_nil];omega
def tw {l:List Nd}(hk:fe l)(hl:l.length≤15){i:Int}(h0:0≤i)(h1:i<l.length):(j8 l i).length≤1310720:=by
 have h:=tv hk (i.toNat+1) i h0 h1;have:2^(i.toNat+1+1)≤2^16:=Nat.pow_le_pow_right (by omega) (by omega);unfold j8;omega
def oe (l:List Nd):ah:=if l.length=0 then []else j8 l ((l.length:Int) -1)
def tR (l:List Nd):Bool:=(decide (l.length≤15)&&mE l)&&decide ((oe l).length≤96)
def JV (l:List Nd):ah:=if tR l=true then oe l else []
abbrev PR:=Option (Int×List ah×List Nd)
def vU (k:ah):Int:=if k=[111,115]then 0 else if k=[97,114,99,104]then 1 else if k=[97,98,105]then 2 else-1
def yW (k s v:ah):Bool:=(decide (0≤vU k)&&bI v)&&(decide (s=[61]) ||decide (s=[33,61]))
def wX (k s v:ah)(r:List ah)(nd:List Nd):Int×List ah×List Nd:=
 if s=[33,61]then(((nd++[(⟨1,0,0,vU k,v⟩:Nd)]).length:Nat),r,(nd++[⟨1,0,0,vU k,v⟩])++[⟨2,(nd.length:Nat),0,0,[]⟩])
 else((nd.length:Nat),r,nd++[⟨1,0,0,vU k,v⟩])
def qp (k:ah)(w:List ah)(nd:List Nd):PR:=match w with
 |s::v::r=>if yW k s v=true then some (wX k s v r nd)else none
 |_=>none
def gz (part:List ah→List Nd→PR)(wd:ah)(op:Int):Nat→Int→List ah→List Nd→PR
 |0,a,w,nd=>some (a,w,nd)
 |f+1,a,w,nd=>match w with
  |[]=>some (a,w,nd)
  |x::r=>if x=wd then(match part r nd with
    |none=>none
    |some (b,w',nd')=>gz part wd op f (nd'.length:Nat) w' (nd'++[⟨op,a,b,0,[]⟩]))
   else some (a,w,nd)
def eK (part:List ah→List Nd→PR)(wd:ah)(op:Int)(w:List ah)(nd:List Nd):PR:=match part w nd with
 |none=>none
 |some (a,w',nd')=>gz part wd op w'.length a w' nd'
def vk:ah:=[110,111,116]
def kX:ah:=[40]
def rT:ah:=[41]
def qN:ah:=[97,110,100]
def yB:ah:=[111,114]
def nI (r:PR):PR:=match r with
 |some (a,x::w',nd')=>if x=rT then some (a,w',nd')else none
 |_=>none
def I8 (r:PR):PR:=match r with
 |some (a,w',nd')=>some ((nd'.length:Nat),w',nd'++[⟨2,a,0,0,[]⟩])
 |none=>none
def nk:Nat→List ah→List Nd→PR
 |0,_,_=>none
 |f+1,w,nd=>match w with
  |[]=>none
  |k::r=>if k=vk then I8 (nk f r nd)
   else if k=kX then nI (eK (eK (nk f) qN 3) yB 4 r nd)
   else qp k r nd
def PB (w:List ah)(nd:List Nd)(w':List ah)(nd':List Nd):Prop:=w'.length≤w.length∧nd'.length+2*w'.length≤nd.length+2*w.length∧w'<:+w
def qQ (part:List ah→List Nd→PR):Prop:=∀w nd a w' nd',part w nd=some (a,w',nd')→PB w nd w' nd'∧w'.length<w.length
def PB.refl (w:List ah)(nd:List Nd):PB w nd w nd:=⟨Nat.le_refl _,Nat.le_refl _,List.suffix_refl _⟩
def PB.trans {w nd w' nd' w2 nd2}(h:PB w nd w' nd')(h2:PB w' nd' w2 nd2):PB w nd w2 nd2:=⟨Nat.le_trans h2.1 h.1,Nat.le_trans h2.2.1 h.2.1,h2.2.2.trans h.2.2⟩
def PB.tail {x:ah}{w:List ah}{nd:List Nd}{w':List ah}{nd':List Nd}(h:PB w nd w' nd')(n:Nd):PB (x::w) nd w' (nd'++[n]):=by
 obtain⟨h1,h2,h3⟩:=h;refine⟨by simp only[List.length_cons];omega,by simp only[List.length_append,List.length_cons,List.length_nil];omega,h3.trans (List.suffix_cons x w)⟩
def PB.yt {x:ah}{w:List ah}{nd:List Nd}{w':List ah}{nd':List Nd}(h:PB w nd w' nd'):PB (x::w) nd w' nd':=by
 obtain⟨h1,h2,h3⟩:=h;exact⟨by simp only[List.length_cons];omega,by simp only[List.length_cons];omega,h3.trans (List.suffix_cons x w)⟩
def sF {part:List ah→List Nd→PR}(hp:qQ part)(wd:ah)(op:Int):∀(f:Nat)(a:Int)(w:List ah)(nd:List Nd)(a':Int)(w':List ah)(nd':List Nd),gz part wd op f a w nd=some (a',w',nd')→PB w nd w' nd'
 |0,a,w,nd,a',w',nd',h=>by simp only[gz,Option.some.injEq,Prod.mk.injEq]at h;obtain⟨rfl,rfl,rfl⟩:=h;exact .refl _ _
 |f+1,a,[],nd,a',w',nd',h=>by simp only[gz,Option.some.injEq,Prod.mk.injEq]at h;obtain⟨rfl,rfl,rfl⟩:=h;exact .refl _ _
 |f+1,a,x::r,nd,a',w',nd',h=>by
  simp only[gz]at h;by_cases hx:x=wd
  ·rw[if_pos hx]at h;cases hq:part r nd with
   |none=>rw[hq]at h;cases h
   |some t=>
    obtain⟨b,w2,nd2⟩:=t;rw[hq]at h;exact((hp _ _ _ _ _ hq).1.tail _).trans (sF hp wd op f _ _ _ _ _ _ h)
  ·rw[if_neg hx]at h;simp only[Option.some.injEq,Prod.mk.injEq]at h;obtain⟨rfl,rfl,rfl⟩:=h;exact .refl _ _
def hY {part:List ah→List Nd→PR}(hp:qQ part)(wd:ah)(op:Int):qQ (eK part wd op):=by
 intro w nd a w' nd' h;unfold eK at h;cases hq:part w nd with
 |none=>rw[hq]at h;cases h
 |some t=>
  obtain⟨b,w2,nd2⟩:=t;rw[hq]at h;obtain⟨h1,h2⟩:=hp _ _ _ _ _ hq;have:=sF hp wd op _ _ _ _ _ _ _ h;exact⟨h1.trans this,Nat.lt_of_le_of_lt this.1 h2⟩
def nE {k:ah}{w:List ah}{nd:List Nd}{a:Int}{w':List ah}{nd':List Nd}(h:qp k w nd=some (a,w',nd')):PB w nd w' nd':=by
 match w,h with
 |s::v::r,h=>
  simp only[qp]at h;split at h
  ·simp only[Option.some.injEq]at h;unfold wX at h;have hs:r<:+s::v::r:=(List.suffix_cons v r).trans (List.suffix_cons s _);split at h<;>(simp only[Prod.mk.injEq]at h;obtain⟨rfl,rfl,rfl⟩:=h;exact⟨by simp only[List.length_cons];omega,by simp only[List.length_append,List.length_cons,List.length_nil];omega,hs⟩)
  ·cases h
 |[_],h=>cases h
 |[],h=>cases h
def gI:∀f,qQ (nk f)
 |0=>fun w nd a w' nd' h=>by cases h
 |f+1=>by
  intro w nd a w' nd' h
  match w,h with
  |[],h=>cases h
  |k::r,h=>
   simp only[nk]at h;split at h
   ·cases hq:nk f r nd with
    |none=>rw[hq]at h;cases h
    |some t=>
     obtain⟨b,w2,nd2⟩:=t;rw[hq]at h;simp only[I8,Option.some.injEq,Prod.mk.injEq]at h;obtain⟨rfl,rfl,rfl⟩:=h;obtain⟨h1,h2⟩:=gI f _ _ _ _ _ hq;exact⟨h1.tail _,by simp only[List.length_cons];omega⟩
   ·split at h
    ·cases hq:eK (eK (nk f) qN 3) yB 4 r nd with
     |none=>rw[hq]at h;cases h
     |some t=>
      obtain⟨b,w2,nd2⟩:=t;rw[hq]at h;obtain⟨h1,h2⟩:=hY (hY (gI f) _ _) _ _ _ _ _ _ _ hq
      match w2,h,h1,h2 with
      |[],h,_,_=>cases h
      |x::w3,h,h1,h2=>
       simp only[nI]at h;split at h
       ·simp only[Option.some.injEq,Prod.mk.injEq]at h;obtain⟨rfl,rfl,rfl⟩:=h;exact⟨(h1.trans (PB.refl _ _).yt).yt,by simp only[List.length_cons]at h2⊢;omega⟩
       ·cases h
    ·exact⟨(nE h).yt,by have:=(nE h).1;simp only[List.length_cons];omega⟩
def xN {p p':List ah→List Nd→PR}(hp:qQ p)(wd:ah)(op:Int){u:Nat}(h:∀w nd,w.length<u→p w nd=p' w nd):∀(f:Nat)(a:Int)(w:List ah)(nd:List Nd),w.length≤u→gz p wd op f a w nd=gz p' wd op f a w nd
 |0,a,w,nd,hu=>rfl
 |f+1,a,[],nd,hu=>rfl
 |f+1,a,x::r,nd,hu=>by
  simp only[List.length_cons]at hu;simp only[gz];split
  ·rw[←h r nd (by omega)];cases hq:p r nd with
   |none=>rfl
   |some t=>
    obtain⟨b,w2,nd2⟩:=t;have:=hp _ _ _ _ _ hq;exact xN hp wd op h f _ _ _ (by omega)
  ·rfl
def mJ {p p':List ah→List Nd→PR}(hp:qQ p)(wd:ah)(op:Int){u:Nat}(h:∀w nd,w.length<u→p w nd=p' w nd):∀w nd,w.length<u→eK p wd op w nd=eK p' wd op w nd:=by
 intro w nd hu;unfold eK;rw[←h w nd hu];cases hq:p w nd with
 |none=>rfl
 |some t=>
  obtain⟨b,w2,nd2⟩:=t;have:=hp _ _ _ _ _ hq;exact xN hp wd op h _ _ _ _ (by omega)
def Aq:∀(u f g:Nat)(w:List ah)(nd:List Nd),w.length<u→w.length≤f→w.length≤g→nk f w nd=nk g w nd
 |0,_,_,_,_,h,_,_=>absurd h (Nat.not_lt_zero _)
 |u+1,f,g,[],nd,hu,hf,hg=>by cases f<;>cases g<;>rfl
 |u+1,0,_,_::_,_,_,h,_=>by simp at h
 |u+1,_,0,_::_,_,_,_,h=>by simp at h
 |u+1,f+1,g+1,k::r,nd,hu,hf,hg=>by
  simp only[List.length_cons]at hu hf hg;have ih:∀w nd,w.length<r.length+1→nk f w nd=nk g w nd:=fun w nd h=>Aq u f g w nd (by omega) (by omega) (by omega)
  simp only[nk];rw[ih r nd (by omega),mJ (hY (gI f) _ _) yB 4 (mJ (gI f) qN 3 ih) r nd (by omega)]
def kO (w:List ah)(nd:List Nd):PR:=nk w.length w nd
def oz:List ah→List Nd→PR:=eK kO qN 3
def jj:List ah→List Nd→PR:=eK oz yB 4
def uo:qQ kO:=fun w nd a w' nd' h=>gI _ w nd a w' nd' h
def y9:qQ oz:=hY uo _ _
def vN (k:ah)(r:List ah)(nd:List Nd):kO (k::r) nd=if k=vk then I8 (kO r nd)else if k=kX then nI (jj r nd)else qp k r nd:=by
 show nk (r.length+1) (k::r) nd=_;simp only[nk];have ih:∀w nd,w.length<r.length+1→nk r.length w nd=kO w nd:=fun w nd h=>Aq (r.length+1) _ _ w nd h (by omega) (Nat.le_refl _)
 rw[show nk r.length r nd=kO r nd from rfl,mJ (hY (gI _) _ _) yB 4 (mJ (gI _) qN 3 ih) r nd (by omega)];rfl
def uF {part:List ah→List Nd→PR}{wd:ah}{op:Int}{f:Nat}{a:Int}{nd:List Nd}:gz part wd op f a [] nd=some (a,[],nd):=by cases f<;>rfl
def DQ {part:List ah→List Nd→PR}{wd:ah}{op:Int}{f:Nat}{a:Int}{w:List ah}{nd:List Nd}(h:w.head? ≠some wd):gz part wd op f a w nd=some (a,w,nd):=by
 cases f with
 |zero=>rfl
 |succ f=>match w,h with
  |[],_=>rfl
  |x::r,h=>simp only[gz];rw[if_neg (by rintro rfl;exact h rfl)]
def sG {part:List ah→List Nd→PR}(hp:qQ part){wd:ah}{op:Int}:∀(f g:Nat)(a:Int)(w:List ah)(nd:List Nd),w.length≤f→w.length≤g→gz part wd op f a w nd=gz part wd op g a w nd
 |_,_,a,[],nd,_,_=>by rw[uF,uF]
 |0,_,_,_::_,_,h,_=>by simp at h
 |_,0,_,_::_,_,_,h=>by simp at h
 |f+1,g+1,a,x::r,nd,hf,hg=>by
  simp only[List.length_cons]at hf hg;simp only[gz];split
  ·cases hq:part r nd with
   |none=>rfl
   |some t=>
    obtain⟨b,w2,nd2⟩:=t;have:=hp _ _ _ _ _ hq;exact sG hp f g _ _ _ (by omega) (by omega)
  ·rfl
def AB (part:List ah→List Nd→PR)(wd:ah)(op:Int)(a:Int)(w:List ah)(nd:List Nd):PR:=gz part wd op w.length a w nd
def BV {part:List ah→List Nd→PR}(hp:qQ part){wd:ah}{op:Int}{a:Int}{r:List ah}{nd:List Nd}:AB part wd op a (wd::r) nd=match part r nd with
  |none=>none
  |some (b,w',nd')=>AB part wd op (nd'.length:Nat) w' (nd'++[⟨op,a,b,0,[]⟩]):=by
 show gz part wd op (r.length+1) a (wd::r) nd=_;simp only[gz,if_true];cases hq:part r nd with
 |none=>rfl
 |some t=>
  obtain⟨b,w2,nd2⟩:=t;have:=hp _ _ _ _ _ hq;exact sG hp _ _ _ _ _ (by omega) (Nat.le_refl _)
structure PO where
 a:Int
 w:List ah
 nd:List Nd
 bad:Bool
def dJ (R:PR)(w:List ah)(nd:List Nd)(o:PO):Prop:=(R=some (o.a,o.w,o.nd)∧o.bad=false∨R=none∧o.bad=true)∧PB w nd o.w o.nd
def zA (s:ah):Option (List Nd):=match jj (ai s 32) []with
 |some (_,[],nd)=>if tR nd=true then some nd else none
 |_=>none
def kT (s:ah):List Nd×Int:=if 96<s.length then([],3)else if s=[]then([],0)else match zA s with
 |some nd=>(nd,0)
 |none=>([],7)
def jL (s:ah):Bool:=decide ((kT s).2=0)&&decide (JV (kT s).1=s)
abbrev yR:=List ah→D→Bool→D
def dZ:yR:=fun w X b=>.agg [.sl 1 (w.map D.str),X,.bool b]
def py (Γ:Ctx)(k:Nat)(ob:yR)(n:Nat)(TN:List D)(w:List ah)(nd:List Nd)(b:Bool)(P:PO→Prop)(V:PO→D):Prop:=
 ∀(nx lp ln:Nat) (m:List (Nat×aU)) (K:D→St→Prop),look m lp=some (.buf k [ob w (.own ln 5 0 nd.length) b])→look m ln=some (.buf 5 (nd.map Nd.D))→lp<nx→ln<nx→
  (∀o,P o→K (V o) ⟨nx+1,(nx,.buf 5 (o.nd.map Nd.D))::bN (bK m ln) lp (.buf k [ob o.w (.own nx 5 0 o.nd.length) o.bad])⟩)→Γ.tr n (.ptr lp k 0 0::TN) ⟨nx,m⟩ K
def Lw (Γ:Ctx)(k:Nat)(ob:yR)(n:Nat)(TN:List D)(w:List ah)(nd:List Nd)(b:Bool)(P:PO→Prop)(V:PO→D):Prop:=
 ∀(nx lp ln:Nat) (m:List (Nat×aU)) (K:D→St→Prop),look m lp=some (.buf k [ob w (.own ln 5 0 nd.length) b])→look m ln=some (.buf 5 (nd.map Nd.D))→lp<nx→ln<nx→
  (∀o,P o→K (V o) ⟨nx,bN m lp (.buf k [ob o.w (.own ln 5 0 nd.length) o.bad])⟩)→Γ.tr n (.ptr lp k 0 0::TN) ⟨nx,m⟩ K
def yS (k:Nat)(ob:yR)(P:PO→Prop)(V:PO→D):D→List (Nat×aU)→Prop:=fun d m=>∃(o:PO)(j:Nat),2≤j∧P o∧d=V o∧look m 0=some (.buf k [ob o.w (.own j 5 0 o.nd.length) o.bad])∧look m j=some (.buf 5 (o.nd.map Nd.D))
def Hp (k:Nat)(ob:yR)(nd:List Nd)(P:PO→Prop)(V:PO→D):D→List (Nat×aU)→Prop:=fun d m=>∃(o:PO),P o∧d=V o∧look m 0=some (.buf k [ob o.w (.own 1 5 0 nd.length) o.bad])∧look m 1=some (.buf 5 (nd.map Nd.D))
def Va:PO→D:=fun o=>.int .i64 o.a
def I2 {m:List (Nat×aU)}(x:Nd):Fk m [.a,.a,.a,.a,.a] (Nd.D x):=⟨rfl,rfl,rfl,rfl,rfl,rfl⟩
def D1 {m:List (Nat×aU)}{lp ln:Nat}{w:List ah}{nd:List Nd}{b:Bool}(h1:look m lp=some (.buf 3 [dZ w (.own ln 5 0 nd.length) b]))(h2:look m ln=some (.buf 5 (nd.map Nd.D))):
  hE m [[.pt [.sl 1 [.a],.sl 5 [.a,.a,.a,.a,.a],.a]]] [.ptr lp 3 0 0]:=by
 refine⟨⟨by simp[dr,h1], ?_⟩,trivial⟩;intro e he;simp only[aD,h1,List.mem_singleton]at he;subst he;refine⟨rfl,⟨by simp[dr,h2], ?_⟩,rfl,rfl⟩;simp only[aD,h2,List.drop_zero,aH];intro e he;obtain⟨x,_,rfl⟩:=List.mem_map.1 he;exact I2 x
def bH (w:List ah):ah:=w.headD []
def aP (w:List ah):List ah:=if bH w=[]then w else w.drop 1
def bP (w:List ah)(b:Bool):Bool:=if bH w=[]then true else b
def m8 {w:List ah}{x:ah}(hx:x≠[])(h:bH w=x):∃r,w=x::r:=by
 match w,h with
 |[],h=>exact absurd h.symm hx
 |y::r,h=>exact⟨r,by rw[show y=x from h]⟩
def EU {w:List ah}(h:¬bH w=[]):1≤w.length:=by
 match w,h with
 |[],h=>exact absurd rfl h
 |_::_,_=>simp
def fw {x:ah}{r:List ah}(hx:x≠[]):aP (x::r)=r:=if_neg hx
def fu {x:ah}{r:List ah}{b:Bool}(hx:x≠[]):bP (x::r) b=b:=if_neg hx
def Cs (w:List ah):aP w<:+w:=by
 unfold aP;split
 ·exact List.suffix_refl _
 ·exact List.drop_suffix 1 w
def kF (w:List ah)(nd:List Nd):PB w nd (aP w) nd:=by
 have h:=Cs w;have:=h.length_le;exact⟨this,by omega,h⟩
def yu {w:List ah}{b:Bool}(h:bP w b=false):b=false∧bH w≠[]∧w=bH w::aP w:=by
 unfold bP at h;split at h
 ·cases h
 ·rename_i hs;refine⟨h,hs, ?_⟩
  match w,hs with
  |x::r,hs=>rw[fw (x:=x) (r:=r) hs];rfl
def ji (b:Bool)(k:ah)(w:List ah)(nd:List Nd):PR:=if b=true then none else qp k w nd
def DK {j:Nat}{k:ah}(hj:j<3)(h:lj[j]! =k):vU k=(j:Nat):=by
 obtain rfl|rfl|rfl:j=0∨j=1∨j=2:=by omega
 all_goals (subst h;rfl)
def BK {k:ah}(h:0≤vU k):∃j,j<3∧lj[j]! =k∧vU k=(j:Nat):=by
 unfold vU at h⊢;by_cases h1:k=[111,115]
 ·exact⟨0,by omega,h1.symm,by rw[if_pos h1];rfl⟩
 ·by_cases h2:k=[97,114,99,104]
  ·exact⟨1,by omega,h2.symm,by rw[if_neg h1,if_pos h2];rfl⟩
  ·by_cases h3:k=[97,98,105]
   ·exact⟨2,by omega,h3.symm,by rw[if_neg h1,if_neg h2,if_pos h3];rfl⟩
   ·rw[if_neg h1,if_neg h2,if_neg h3]at h;omega
def zl (j:Nat)(k s v:ah)(bad:Bool):Bool:=!(((!decide (lj[j]! =k) ||bad) ||(!decide (s=[61])&& !decide (s=[33,61]))) ||!bI v)
def DA {j:Nat}{k:ah}{w:List ah}{nd:List Nd}{b:Bool}(hj:j<3)(h:zl j k (bH w) (bH (aP w)) (bP (aP w) (bP w b))=true):
  ji b k w nd=some (wX k (bH w) (bH (aP w)) (aP (aP w)) nd)∧vU k=(j:Nat)∧bP (aP w) (bP w b)=false:=by
 have h0:=h;simp only[zl,Bool.not_or,Bool.and_eq_true,Bool.not_not,decide_eq_true_eq,Bool.not_eq_true',Bool.not_and,Bool.or_eq_true]at h;obtain⟨⟨⟨h1,h2⟩,h3⟩,h4⟩:=h;have hk:=DK hj h1;obtain⟨g1,g2,g3⟩:=yu h2;obtain⟨g4,g5,g6⟩:=yu g1;refine⟨?_,hk,h2⟩;unfold ji;rw[g4,if_neg (by simp)]
 conv=>lhs;rw[g6,g3]
 simp only[qp];rw[if_pos];simp only[yW,Bool.and_eq_true,Bool.or_eq_true,decide_eq_true_eq];exact⟨⟨by omega,h4⟩,h3⟩
def Ga {k:ah}{w:List ah}{nd:List Nd}{b:Bool}(h:∀j,j<3→zl j k (bH w) (bH (aP w)) (bP (aP w) (bP w b))=false):ji b k w nd=none:=by
 unfold ji;split
 ·rfl
 ·rename_i hb
  match w with
  |[]=>rfl
  |[_]=>rfl
  |s::v::r=>
   simp only[qp];rw[if_neg];intro ha;simp only[yW,Bool.and_eq_true,Bool.or_eq_true,decide_eq_true_eq]at ha;obtain⟨⟨h1,h2⟩,h3⟩:=ha;obtain⟨j,hj,hj2,_⟩:=BK h1;have hs:s≠[]:=by rintro rfl;rcases h3 with h|h<;>cases h
   have hv:v≠[]:=by rintro rfl;cases h2
   have:=h j hj;rw[fw hs,fu hs,fu hv]at this;simp only[Bool.not_eq_true]at hb;subst hb;revert this;simp only[zl,bH,List.headD_cons,hj2,h2,decide_true];rcases h3 with rfl|rfl<;>simp
def Aj (w:List ah)(nd:List Nd):PB w nd (aP (aP w)) nd:=(kF w nd).trans (kF _ nd)
def rX {b:Bool}{k:ah}{w:List ah}{nd:List Nd}{a:Int}{w':List ah}{nd':List Nd}(h:ji b k w nd=some (a,w',nd')):PB w nd w' nd':=by
 unfold ji at h;split at h
 ·cases h
 ·exact nE h
def Dk {w:List ah}{nd:List Nd}(h1:bH w≠vk)(h2:bH w≠kX):kO w nd=ji (bP w false) (bH w) (aP w) nd:=by
 match w with
 |[]=>rfl
 |k::r=>
  have h1:k≠vk:=h1;have h2:k≠kX:=h2;rw[vN,if_neg h1,if_neg h2];by_cases hk:k=[]
  ·subst hk;show qp [] r nd=none
   match r with
   |[]=>rfl
   |[_]=>rfl
   |s::v::r=>rfl
  ·rw[fw hk,fu hk];rfl
def C8 {R:PR}{o:PO}{w:List ah}{nd:List Nd}(h:dJ R w nd o)(hs:bH o.w≠rT):nI R=none:=by
 rcases h.1 with⟨h1,_⟩|⟨h1,_⟩
 ·rw[h1]
  match ho:o.w,hs with
  |[],_=>rfl
  |x::r,hs=>simp only[nI];exact if_neg hs
 ·rw[h1];rfl
def dJ.pb {R:PR}{o:PO}{w:List ah}{nd:List Nd}(h:dJ R w nd o):PB w nd o.w o.nd:=h.2
def GK {r:List ah}{nd:List Nd}{o:PO}(h:dJ (kO r nd) r nd o):dJ (kO (vk::r) nd) (vk::r) nd ⟨(o.nd.length:Nat),o.w,o.nd++[⟨2,o.a,0,0,[]⟩],o.bad⟩:=by
 refine⟨?_,h.2.tail _⟩;rw[vN,if_pos rfl];rcases h.1 with⟨h1,h2⟩|⟨h1,h2⟩
 ·left;rw[h1];exact⟨rfl,h2⟩
 ·right;rw[h1];exact⟨rfl,h2⟩
def xk (r:List ah)(nd:List Nd):kO (kX::r) nd=nI (jj r nd):=by rw[vN,if_neg (by decide),if_pos rfl]
def xZ {r:List ah}{nd:List Nd}{o:PO}(h:dJ (jj r nd) r nd o)(hs:¬bH o.w=rT):dJ (kO (kX::r) nd) (kX::r) nd ⟨o.a,aP o.w,o.nd,true⟩:=
 ⟨.inr ⟨by rw[xk,C8 h hs],rfl⟩,h.2.yt.trans (kF _ _)⟩
def Eh {r:List ah}{nd:List Nd}{o:PO}(h:dJ (jj r nd) r nd o)(hs:bH o.w=rT):dJ (kO (kX::r) nd) (kX::r) nd ⟨o.a,aP o.w,o.nd,bP o.w o.bad⟩:=by
 refine⟨?_,h.2.yt.trans (kF _ _)⟩;obtain⟨q,hq⟩:=m8 (by decide) hs;rw[xk,hq,fw (by decide),fu (by decide)];rcases h.1 with⟨h1,h2⟩|⟨h1,h2⟩
 ·left;rw[h1,hq];exact⟨by simp only[nI,if_true],h2⟩
 ·right;rw[h1];exact⟨rfl,h2⟩
def Eg {w:List ah}{nd:List Nd}{o:PO}(hf:kO w nd=ji (bP w false) (bH w) (aP w) nd)(h:dJ (ji (bP w false) (bH w) (aP w) nd) (aP w) nd o):dJ (kO w nd) w nd o:=
 ⟨by rw[hf];exact h.1,(kF w nd).trans h.2⟩
def I1 {s:ah}{o:PO}(h:dJ (jj (ai s 32) []) (ai s 32) [] o)(hc:((o.bad ||decide ((0:Int)<(o.w.length:Nat))) ||!tR o.nd)=true):zA s=none:=by
 unfold zA;rcases h.1 with⟨h1,h2⟩|⟨h1,h2⟩
 ·rw[h1]
  match hw:o.w with
  |[]=>
   simp only[h2,hw,List.length_nil,Bool.false_or]at hc;have:tR o.nd=false:=by simpa using hc
   simp only[this,Bool.false_eq_true,if_false]
  |x::r=>rfl
 ·rw[h1]
def Gu {s:ah}{o:PO}(h:dJ (jj (ai s 32) []) (ai s 32) [] o)(hc:((o.bad ||decide ((0:Int)<(o.w.length:Nat))) ||!tR o.nd)=false):zA s=some o.nd:=by
 simp only[Bool.or_eq_false_iff,decide_eq_false_iff_not,Bool.not_eq_false']at hc;unfold zA;rcases h.1 with⟨h1,h2⟩|⟨h1,h2⟩
 ·rw[h1]
  match hw:o.w with
  |[]=>simp only[hc.2,if_true]
  |x::r=>exact absurd hc.1.2 (by rw[hw];simp)
 ·rw[h2]at hc;exact absurd hc.1.1 (by simp)
def Gt {s:ah}{nd:List Nd}(h1:¬96<s.length)(h2:¬s=[])(h:zA s=some nd):kT s=(nd,0):=by simp only[kT,h,if_neg h1,if_neg h2]
def Gr {s:ah}(h1:¬96<s.length)(h2:¬s=[])(h:zA s=none):kT s=([],7):=by simp only[kT,h,if_neg h1,if_neg h2]
def Fe (part:List ah→List Nd→PR)(wd:ah)(op:Int)(R:PR)(w:List ah)(nd:List Nd)(o:PO):Prop:=(o.bad=false∧R=AB part wd op o.a o.w o.nd∨o.bad=true∧R=none)∧PB w nd o.w o.nd
def Fe.first {part:List ah→List Nd→PR}{wd:ah}{op:Int}{w:List ah}{nd:List Nd}{o:PO}(h:dJ (part w nd) w nd o):Fe part wd op (eK part wd op w nd) w nd o:=by
 refine⟨?_,h.2⟩;rcases h.1 with⟨h1,h2⟩|⟨h1,h2⟩
 ·left;refine⟨h2, ?_⟩;unfold eK;rw[h1];rfl
 ·right;refine⟨h2, ?_⟩;unfold eK;rw[h1]
def Fe.next {part:List ah→List Nd→PR}(hp:qQ part){wd:ah}{op:Int}{R:PR}{w:List ah}{nd:List Nd}{a:Int}{r:List ah}{nd1:List Nd}{o:PO}(h:Fe part wd op R w nd ⟨a,wd::r,nd1,false⟩)(h2:dJ (part r nd1) r nd1 o):
  Fe part wd op R w nd ⟨(o.nd.length:Nat),o.w,o.nd++[⟨op,a,o.a,0,[]⟩],o.bad⟩:=by
 refine⟨?_,h.2.trans (h2.2.tail _)⟩;rcases h.1 with⟨_,h1⟩|⟨h1,_⟩
 ·rw[BV hp]at h1;rcases h2.1 with⟨g1,g2⟩|⟨g1,g2⟩
  ·left;exact⟨g2,by rw[h1,g1]⟩
  ·right;exact⟨g2,by rw[h1,g1]⟩
 ·cases h1
def Fe.last {part:List ah→List Nd→PR}{wd:ah}{op:Int}{R:PR}{w:List ah}{nd:List Nd}{o:PO}(h:Fe part wd op R w nd o)(hx:o.bad=true∨o.w.head? ≠some wd):dJ R w nd o:=by
 refine⟨?_,h.2⟩;rcases h.1 with⟨h1,h2⟩|⟨h1,h2⟩
 ·left;refine⟨?_,h1⟩;rw[h2];unfold AB;rw[DQ];rcases hx with hx|hx
  ·rw[h1]at hx;cases hx
  ·exact hx
 ·right;exact⟨h2,h1⟩
def PB.G8 {w w':List ah}{nd nd':List Nd}{W:List ah}(h:PB w nd w' nd')(hW:w<:+W):w'<:+W:=h.2.2.trans hW
def pM (f:Nat→Int):Nat→Nat→Int
 |_,0=>0
 |i,k+1=>if f i=0 then pM f (i+1) k else f i
def fO (f:Nat→Int)(i n:Nat):Int:=pM f i (n-i)
def pL {f:Nat→Int}{i n:Nat}(h:i<n)(hf:f i=0):fO f i n=fO f (i+1) n:=by
 unfold fO;obtain⟨k,hk⟩:∃k,n-i=k+1:=⟨n-i-1,by omega⟩
 rw[hk,show n-(i+1)=k by omega];simp only[pM,hf,if_true]
def sc {f:Nat→Int}{i n:Nat}(h:i<n)(hf:f i≠0):fO f i n=f i:=by
 unfold fO;obtain⟨k,hk⟩:∃k,n-i=k+1:=⟨n-i-1,by omega⟩
 rw[hk];simp only[pM,hf,if_false]
def pK {f:Nat→Int}{i n:Nat}(h:n≤i):fO f i n=0:=by
 unfold fO;rw[show n-i=0 by omega];rfl
def kQ (f:Nat→Int):Nat→Nat→Int×Int
 |_,0=>(0,0)
 |i,k+1=>if f i=0 then kQ f (i+1) k else(f i,((i:Nat):Int))
def eM (f:Nat→Int)(i n:Nat):Int×Int:=kQ f i (n-i)
def mT {f:Nat→Int}{i n:Nat}(h:i<n)(hf:f i=0):eM f i n=eM f (i+1) n:=by
 unfold eM;obtain⟨k,hk⟩:∃k,n-i=k+1:=⟨n-i-1,by omega⟩
 rw[hk,show n-(i+1)=k by omega];simp only[kQ,hf,if_true]
def kP {f:Nat→Int}{i n:Nat}(h:i<n)(hf:f i≠0):eM f i n=(f i,((i:Nat):Int)):=by
 unfold eM;obtain⟨k,hk⟩:∃k,n-i=k+1:=⟨n-i-1,by omega⟩
 rw[hk];simp only[kQ,hf,if_false]
def mS {f:Nat→Int}{i n:Nat}(h:n≤i):eM f i n=(0,0):=by
 unfold eM;rw[show n-i=0 by omega];rfl
def gF (r:Rec)(name rng:ah):Int:=if ei name=false then 4 else if name=r.name then 8 else if m3 rng=false then 6 else 0
def JL (l:List ah)(i:Nat):Bool:=bI l[i]! && !(decide (0<i)&& !Op.bytesLess l[i-1]! l[i]!)
def jS (l:List ah)(alone:Bool):Bool:=(decide (l.length≤6)&&(alone ||decide (l.length=0)))&&cj (JL l) 0 l.length
def jz (r:Rec)(w:bw)(alone:Bool):Int:=if gF r w.name w.range≠0 then gF r w.name w.range else if jS w.feats alone=false then 11 else 0
def kY (r:Rec)(l:List bw):Int:=fO (fun i=>jz r l[i]! (decide ((l.length:Int)=1))) 0 l.length
def iM (r:Rec)(n:bc):Int:=if n.any.length=0 then 9 else if 3<n.any.length then 3 else if kY r n.any≠0 then kY r n.any else
 if jL n.when'=false then 7 else if n.option≠[]∧bI n.option=false then 14 else 0
def qS (r:Rec)(b:fZ):Int:=if gF r b.name b.range≠0 then gF r b.name b.range else if jL b.when'=false then 7 else 0
def GH (l:List bc)(x:ah):Bool:=l.any fun n=>decide (n.option=x)
def AI (l:List bc)(x:ah):Bool:=l.any fun n=>decide (n.any.length=1)&&decide (n.any[0]!.name=x)
def iL (r:Rec)(s:ah):Int:=if(bZ s).1=2∧GH r.needs (bZ s).2.1=false then 14 else if(bZ s).1=3∧AI r.needs (bZ s).2.1=false then 16 else 0
def nU (r:Rec)(of:List ah):Int:=fO (fun i=>iL r of[i]!) 0 of.length
def jr (r:Rec):Int×Int:=eM (fun i=>iM r r.needs[i]!) 0 r.needs.length
def qq (r:Rec):Int×Int:=eM (fun i=>qS r r.bars[i]!) 0 r.bars.length
def pJ (r:Rec):Int×Int:=eM (fun i=>nU r r.feats[i]!.of) 0 r.feats.length
def eg (r:Rec):Int×Int:=if(jr r).1≠0 then jr r else if(qq r).1≠0 then qq r else if e7 r.feats=false then(11,0)else pJ r
def E3 (n:Nat)(al:Bool):(decide ((6:Int)<(n:Nat)) ||(decide ((0:Int)<(n:Nat))&& !al))=!(decide (n≤6)&&(al ||decide (n=0))):=by
 rw[show decide ((6:Int)<(n:Nat))=!decide (n≤6)from by rw[←decide_not];exact decide_eq_decide.2 (by omega),show decide ((0:Int)<(n:Nat))=!decide (n=0)from by rw[←decide_not];exact decide_eq_decide.2 (by omega)];generalize decide (n≤6)=a;generalize decide (n=0)=b;cases a<;>cases b<;>cases al<;>rfl
def Mf (l:List ah)(i:Nat):(!bI l[i]! ||(decide ((0:Int)<(i:Nat))&& !Op.bytesLess l[i-1]! l[i]!))=!JL l i:=by
 unfold JL;rw[show decide ((0:Int)<(i:Nat))=decide (0<i)from decide_eq_decide.2 (by omega)];generalize bI l[i]! =a;generalize decide (0<i)=b;generalize Op.bytesLess l[i-1]! l[i]! =c;cases a<;>cases b<;>cases c<;>rfl
def Fg (k:Int)(x:ah)(n:bc):Bool:=(decide (k=2)&&decide (n.option=x)) ||((decide (k=3)&&decide ((n.any.length:Int)=1))&&decide (n.any[0]!.name=x))
def IU (k:Int):Int:=if k=2 then 14 else if k=3 then 16 else 0
def DJ (r:Rec)(s:ah):iL r s=if r.needs.any (Fg (bZ s).1 (bZ s).2.1)=true then 0 else IU (bZ s).1:=by
 unfold iL IU GH AI;generalize (bZ s).1=k;generalize (bZ s).2.1=x;by_cases h2:k=2
 ·subst h2;have:Fg 2 x=fun n=>decide (n.option=x):=by funext n;simp[Fg]
  rw[this];cases r.needs.any fun n=>decide (n.option=x)<;>simp
 ·by_cases h3:k=3
  ·subst h3;have:Fg 3 x=fun n=>decide (n.any.length=1)&&decide (n.any[0]!.name=x):=by
    funext n;simp only[Fg];rw[show decide ((n.any.length:Int)=1)=decide (n.any.length=1)from decide_eq_decide.2 (by omega)];simp
   rw[this];cases r.needs.any fun n=>decide (n.any.length=1)&&decide (n.any[0]!.name=x)<;>simp
  ·have:Fg k x=fun _=>false:=by funext n;simp[Fg,h2,h3]
   rw[this];simp[h2,h3]
def FE {α:Type} [Inhabited α]{c:α→Bool}{l:List α}{i:Nat}(h:i<l.length)(hc:c l[i]! =true):(l.drop i).any c=true:=by
 rw[List.drop_eq_getElem_cons h,List.any_cons];have:l[i]! =l[i]:=by simp[h]
 rw[←this,hc,Bool.true_or]
def Iv {α:Type} [Inhabited α]{c:α→Bool}{l:List α}{i:Nat}(h:i<l.length)(hc:c l[i]! =false):(l.drop i).any c=(l.drop (i+1)).any c:=by
 rw[List.drop_eq_getElem_cons h,List.any_cons];have:l[i]! =l[i]:=by simp[h]
 rw[←this,hc,Bool.false_or]
def FD {α:Type}{c:α→Bool}{l:List α}{i:Nat}(h:l.length≤i):(l.drop i).any c=false:=by
 rw[List.drop_eq_nil_of_le h];rfl
def gD:ah:=[110,101,101,100]
def jE:ah:=[97,110,121]
def jR:ah:=[119,104,101,110]
def dI:ah:=[111,112,116,105,111,110]
def iX:ah:=[98,97,114]
def cB:ah:=[102,101,97,116,117,114,101]
def du:ah:=[112,97,99,107,97,103,101]
def mH:ah:=[102,117,108,108]
def iv:ah:=[98,97,114,101]
def bt (l:List ah):ah:=aO [32] l++[10]
def lu (w:bw):List ah:=[jE,w.name,if w.feats.length=0 then [45]else aO [44] w.feats,if w.bare=true then iv else mH,w.range]
def gE (s:ah):ah:=if s=[]then []else bt [jR,s]
def tV (s:ah):ah:=if s=[]then []else bt [dI,s]
def kr (n:bc):ah:=bt [gD]++(n.any.map fun w=>bt (lu w)).flatten++gE n.when'++tV n.option
def ow (b:fZ):ah:=bt [iX,b.name,b.range]++gE b.when'
def oK (f:bo):ah:=bt ([cB,f.name]++f.of)
def lh (r:Rec):ah:=bt [du,r.name,mG r.v]
def iP (r:Rec):ah:=lh r++(r.needs.map kr).flatten++(r.bars.map ow).flatten++(r.feats.map oK).flatten
def cb (r:Rec):Int×Int:=if ei r.name=false then(4,0)else if eO r.v=false then(5,0)else if 8<r.needs.length∨8<r.bars.length then(3,0)else
 if(eg r).1≠0 then eg r else if 4096<(iP r).length then(3,0)else(0,0)
def ju (r:Rec):ah×Int:=if(cb r).1≠0 then([],(cb r).1)else(iP r,0)
def bw.sm (w:bw):Prop:=(w.name.length≤1048576∧w.range.length≤1048576)∧∀t∈w.feats,t.length≤1048576
def bc.sm (n:bc):Prop:=(∀w∈n.any,w.sm)∧n.when'.length≤1048576∧n.option.length≤1048576
def fZ.sm (b:fZ):Prop:=b.name.length≤1048576∧b.range.length≤1048576∧b.when'.length≤1048576
def jO (r:Rec):Prop:=(r.name.length≤1048576∧r.v.sm)∧(∀n∈r.needs,n.sm)∧(∀b∈r.bars,b.sm)∧ry r.feats
def Ej {r:Rec}{e:Int×Int}(h:jr r=e)(hn:e.1≠0):eg r=e:=by rw[eg,if_pos (by rw[h];exact hn),h]
def x5 {r:Rec}{e:Int×Int}(h0:jr r=(0,0))(h:qq r=e)(hn:e.1≠0):eg r=e:=by rw[eg,if_neg (by rw[h0];simp),if_pos (by rw[h];exact hn),h]
def Ek {r:Rec}(h0:jr r=(0,0))(h1:qq r=(0,0))(h:e7 r.feats=false):eg r=(11,0):=by rw[eg,if_neg (by rw[h0];simp),if_neg (by rw[h1];simp),if_pos h]
def sS {r:Rec}{e:Int×Int}(h0:jr r=(0,0))(h1:qq r=(0,0))(h:e7 r.feats=true)(h2:pJ r=e):eg r=e:=by rw[eg,if_neg (by rw[h0];simp),if_neg (by rw[h1];simp),if_neg (by rw[h];simp),h2]
def xn (f:Nat→Int):∀(k i:Nat),(kQ f i k).1=0→kQ f i k=(0,0)
 |0,_,_=>rfl
 |k+1,i,h=>by
  simp only[kQ]at h⊢;by_cases hf:f i=0
  ·rw[if_pos hf]at h⊢;exact xn f k (i+1) h
  ·rw[if_neg hf]at h;exact absurd h hf
def El {r:Rec}(h:(eg r).1=0):eg r=(0,0):=by
 unfold eg at h⊢;split
 ·rename_i h1;rw[if_pos h1]at h;exact absurd h h1
 ·rename_i h1;rw[if_neg h1]at h;split
  ·rename_i h2;rw[if_pos h2]at h;exact absurd h h2
  ·rename_i h2;rw[if_neg h2]at h;split
   ·rename_i h3;rw[if_pos h3]at h;cases h
   ·rename_i h3;rw[if_neg h3]at h;exact xn _ _ _ h
def lP {r:Rec}{e:Int×Int}(h0:ei r.name=true)(h1:eO r.v=true)(h2:¬8<r.needs.length)(h3:¬8<r.bars.length)(hp:eg r=e)(hn:e.1≠0):cb r=e:=by
 rw[cb,if_neg (by simp[h0]),if_neg (by simp[h1]),if_neg (by rintro(h|h);exact h2 h;exact h3 h),if_pos (by rw[hp];exact hn),hp]
def r7 {r:Rec}(h0:ei r.name=true)(h1:eO r.v=true)(h2:¬8<r.needs.length)(h3:¬8<r.bars.length)(hp:eg r=(0,0)):cb r=if 4096<(iP r).length then(3,0)else(0,0):=by
 rw[cb,if_neg (by simp[h0]),if_neg (by simp[h1]),if_neg (by rintro(h|h);exact h2 h;exact h3 h),if_neg (by rw[hp];simp)]
def su (r:Rec):Prop:=(ei r.name=true∧eO r.v=true)∧(r.needs.length≤8∧r.bars.length≤8)∧eg r=(0,0)
def nM (n:Nat)(l:List ah):List ah:=if l.length≤n then l else l.take (n-1)++[aO [32] (l.drop (n-1))]
def cM (n:Nat)(op:Bool)(t:ah):List ah:=if op=true then nM n (ai t 32)else ai t 32
def js (w:ah)(n:Nat)(op:Bool)(t:ah):Option (List ah):=
 if(cM n op t)[0]! =w∧(n=0∨(cM n op t).length=n)∧[]∉cM n op t then some (cM n op t)else none
def bq (w:ah)(n:Nat)(op:Bool):List ah→Option (List ah×List ah)
 |[]=>none
 |t::r=>match js w n op t with
  |some l=>some (l,r)
  |none=>none
def bj (ls:List ah):ah×List ah:=match bq jR 2 true ls with
 |some (l,r)=>(l[1]!,r)
 |none=>([],ls)
def qA (l:List ah):Bool:=decide (l[3]! =iv) ||decide (l[3]! =mH)
def eP (l:List ah):bw:=⟨l[1]!,l[4]!,if l[2]! =[45]then []else ai l[2]! 44,decide (l[3]! =iv)⟩
def bT:List ah→List bw×List ah
 |[]=>([],[])
 |t::r=>match js jE 5 true t with
  |some l=>if qA l=true then(eP l::(bT r).1,(bT r).2)else([],t::r)
  |none=>([],t::r)
def pX (ls:List ah):ah×List ah:=match bq dI 2 false ls with
 |some (l,r)=>(l[1]!,r)
 |none=>([],ls)
def cX (ls:List ah):bc×List ah:=(⟨(bT ls).1,(bj (bT ls).2).1,(pX (bj (bT ls).2).2).1⟩,(pX (bj (bT ls).2).2).2)
def iE:Nat→List ah→List bc×List ah
 |0,ls=>([],ls)
 |f+1,ls=>match bq gD 1 false ls with
  |some (_,r)=>((cX r).1::(iE f (cX r).2).1,(iE f (cX r).2).2)
  |none=>([],ls)
def k8:Nat→List ah→List fZ×List ah
 |0,ls=>([],ls)
 |f+1,ls=>match bq iX 3 true ls with
  |some (l,r)=>(⟨l[1]!,l[2]!,(bj r).1⟩::(k8 f (bj r).2).1,(k8 f (bj r).2).2)
  |none=>([],ls)
def dy:List ah→List bo×List ah
 |[]=>([],[])
 |t::r=>match js cB 0 false t with
  |some l=>if 2≤l.length then(⟨l[1]!,l.drop 2⟩::(dy r).1,(dy r).2)else([],t::r)
  |none=>([],t::r)
def nq:Rec:=⟨[],iH,[],[],[]⟩
def ew (ls:List ah):List bc×List ah:=iE ls.length ls
def jF (ls:List ah):List fZ×List ah:=k8 ls.length ls
def rZ (nm:ah)(v:dw)(r:List ah):Rec×List ah:=(⟨nm,v,(ew r).1,(jF (ew r).2).1,(dy (jF (ew r).2).2).1⟩,(dy (jF (ew r).2).2).2)
def p9 (ls:List ah):Option (Rec×List ah):=match bq du 3 false ls with
 |some (l,r)=>match lG l[2]! with
  |some v=>some (rZ l[1]! v r)
  |none=>none
 |none=>none
def gN {w:ah}{n:Nat}{op:Bool}{ls l r:List ah}(h:bq w n op ls=some (l,r)):r.length+1=ls.length:=by
 match ls,h with
 |t::q,h=>
  simp only[bq]at h;split at h
  ·cases h;rfl
  ·cases h
 |[],h=>cases h
def qi (ls:List ah):(bj ls).2.length≤ls.length:=by
 unfold bj;split
 ·rename_i l r h;have:=gN h;simp only;omega
 ·exact Nat.le_refl _
def Eb (ls:List ah):(pX ls).2.length≤ls.length:=by
 unfold pX;split
 ·rename_i l r h;have:=gN h;simp only;omega
 ·exact Nat.le_refl _
def qO:∀ls:List ah,(bT ls).2.length≤ls.length
 |[]=>Nat.le_refl _
 |t::r=>by
  have:=qO r;simp only[bT];split
  ·split
   ·simp only[List.length_cons];omega
   ·exact Nat.le_refl _
  ·exact Nat.le_refl _
def uH (ls:List ah):(cX ls).2.length≤ls.length:=by
 have h1:=qO ls;have h2:=qi (bT ls).2;have h3:=Eb (bj (bT ls).2).2;show(pX (bj (bT ls).2).2).2.length≤_;omega
def uI:∀(f g:Nat)(ls:List ah),ls.length≤f→ls.length≤g→iE f ls=iE g ls
 |0,0,_,_,_=>rfl
 |0,g+1,ls,h,_=>by
  have:ls=[]:=List.length_eq_zero_iff.1 (by omega);subst this;rfl
 |f+1,0,ls,_,h=>by
  have:ls=[]:=List.length_eq_zero_iff.1 (by omega);subst this;rfl
 |f+1,g+1,ls,hf,hg=>by
  simp only[iE];cases h:bq gD 1 false ls with
  |none=>rfl
  |some p=>
   obtain⟨l,r⟩:=p;have h1:=gN h;have h2:=uH r;simp only;rw[uI f g _ (by omega) (by omega)]
def w9:∀(f g:Nat)(ls:List ah),ls.length≤f→ls.length≤g→k8 f ls=k8 g ls
 |0,0,_,_,_=>rfl
 |0,g+1,ls,h,_=>by
  have:ls=[]:=List.length_eq_zero_iff.1 (by omega);subst this;rfl
 |f+1,0,ls,_,h=>by
  have:ls=[]:=List.length_eq_zero_iff.1 (by omega);subst this;rfl
 |f+1,g+1,ls,hf,hg=>by
  simp only[k8];cases h:bq iX 3 true ls with
  |none=>rfl
  |some p=>
   obtain⟨l,r⟩:=p;have h1:=gN h;have h2:=qi r;simp only;rw[w9 f g _ (by omega) (by omega)]
def xR {ls l r:List ah}(h:bq gD 1 false ls=some (l,r)):ew ls=((cX r).1::(ew (cX r).2).1,(ew (cX r).2).2):=by
 have h1:=gN h;have h2:=uH r;unfold ew;rw[←h1];simp only[iE,h];rw[uI r.length (cX r).2.length _ h2 (Nat.le_refl _)]
def xQ {ls:List ah}(h:bq gD 1 false ls=none):ew ls=([],ls):=by
 unfold ew
 match ls,h with
 |[],_=>rfl
 |t::r,h=>simp only[List.length_cons,iE,h]
def yY {ls l r:List ah}(h:bq iX 3 true ls=some (l,r)):jF ls=(⟨l[1]!,l[2]!,(bj r).1⟩::(jF (bj r).2).1,(jF (bj r).2).2):=by
 have h1:=gN h;have h2:=qi r;unfold jF;rw[←h1];simp only[k8,h];rw[w9 r.length (bj r).2.length _ h2 (Nat.le_refl _)]
def yX {ls:List ah}(h:bq iX 3 true ls=none):jF ls=([],ls):=by
 unfold jF
 match ls,h with
 |[],_=>rfl
 |t::r,h=>simp only[List.length_cons,k8,h]
structure RdS where
 r:Rec
 st:Nat
 deriving Inhabited
def se {f:Nat→Int}:∀{k i:Nat},pM f i k=0→∀j,i≤j→j<i+k→f j=0
 |0,i,_,j,h1,h2=>absurd h2 (by omega)
 |k+1,i,h,j,h1,h2=>by
  simp only[pM]at h;by_cases hf:f i=0
  ·rw[if_pos hf]at h;by_cases hj:j=i
   ·rw[hj];exact hf
   ·exact se h j (by omega) (by omega)
  ·rw[if_neg hf]at h;exact absurd h hf
def zg {f:Nat→Int}{n:Nat}(h:fO f 0 n=0)(j:Nat)(hj:j<n):f j=0:=se h j (by omega) (by omega)
def sf {f:Nat→Int}:∀{k i:Nat},(kQ f i k).1=0→∀j,i≤j→j<i+k→f j=0
 |0,i,_,j,h1,h2=>absurd h2 (by omega)
 |k+1,i,h,j,h1,h2=>by
  simp only[kQ]at h;by_cases hf:f i=0
  ·rw[if_pos hf]at h;by_cases hj:j=i
   ·rw[hj];exact hf
   ·exact sf h j (by omega) (by omega)
  ·rw[if_neg hf]at h;exact absurd h hf
def zf {f:Nat→Int}{n:Nat}(h:(eM f 0 n).1=0)(j:Nat)(hj:j<n):f j=0:=sf h j (by omega) (by omega)
def bw.fit (w:bw):Prop:=w.sm∧(w.feats.length≤6∧∀t∈w.feats,t.length≤12)
def bc.fit (n:bc):Prop:=(n.any.length≤3∧∀w∈n.any,w.fit)∧n.when'.length≤1048576∧n.option.length≤1048576
def bo.fit (x:bo):Prop:=x.sm∧x.of.length≤6
structure Rec.fit (r:Rec):Prop where
 nm:r.name.length≤1048576
 v:r.v.sm
 ns:r.needs.length≤8
 n:∀x∈r.needs,x.fit
 bs:r.bars.length≤8
 b:∀x∈r.bars,x.sm
 fs:r.feats.length≤8
 f:∀x∈r.feats,x.fit
def rI {α:Type} [Inhabited α]{l:List α}{x:α}(h:x∈l):∃i,i<l.length∧l[i]! =x:=by
 obtain⟨i,hi,e⟩:=List.mem_iff_getElem.1 h;exact⟨i,hi,by rw[←e];simp[hi]⟩
def E5 {r:Rec}{w:bw}{al:Bool}(h:jz r w al=0)(hs:w.sm):w.fit:=by
 refine⟨hs, ?_⟩;unfold jz at h;split at h
 ·rename_i h1;exact absurd h h1
 ·split at h
  ·cases h
  ·rename_i h2;simp only[jS,Bool.not_eq_false,Bool.and_eq_true,decide_eq_true_eq,dq]at h2;refine⟨h2.1.1,fun t ht=>?_⟩;obtain⟨i,hi,rfl⟩:=rI ht;have:=h2.2 i (by omega) hi;simp only[JL,bI,Bool.and_eq_true,decide_eq_true_eq]at this;exact this.1.1.2
def DX {r:Rec}{n:bc}(h:iM r n=0)(hs:n.sm):n.fit:=by
 unfold iM at h;split at h
 ·cases h
 split at h
 ·cases h
 rename_i h1 h2;split at h
 ·rename_i h3;exact absurd h h3
 rename_i h3;refine⟨⟨by omega,fun w hw=>?_⟩,hs.2⟩;obtain⟨i,hi,rfl⟩:=rI hw;exact E5 (zg (Classical.not_not.1 h3) i hi) (hs.1 _ hw)
def BE {r:Rec}(h:su r∧jO r):r.fit:=by
 obtain⟨⟨_,⟨h1,h2⟩,hp⟩,⟨s1,s2⟩,s3,s4,s5⟩:=h;have h0:(jr r).1=0∧e7 r.feats=true:=by
  unfold eg at hp;split at hp
  ·rename_i h;rw[hp]at h;exact absurd rfl h
  split at hp
  ·rename_i h;rw[hp]at h;exact absurd rfl h
  split at hp
  ·cases hp
  rename_i a b c;exact⟨Classical.not_not.1 a,by simpa using c⟩
 obtain⟨h3,h4⟩:=h0;simp only[e7,Bool.and_eq_true,decide_eq_true_eq,dq]at h4;refine⟨s1,s2,h1,fun x hx=>?_,h2,s4,h4.1,fun x hx=>⟨s5 x hx, ?_⟩⟩
 ·obtain⟨i,hi,rfl⟩:=rI hx;exact DX (zf h3 i hi) (s3 _ hx)
 ·obtain⟨i,hi,rfl⟩:=rI hx;have:=h4.2 i (by omega) hi;simp only[jV,sC,Bool.and_eq_true,decide_eq_true_eq]at this;exact this.2.1.1
def iZ (x:UInt8)(B:Nat):∀l:List ah,(∀t∈l,t.length≤B)→(aO [x] l).length≤l.length*(B+1)
 |[],_=>by simp[aO]
 |[t],h=>by have:=h t (.head _);simp only[aO,List.length_cons,List.length_nil];omega
 |t::u::r,h=>by
  have h1:=h t (.head _);have h2:=iZ x B (u::r) fun y hy=>h y (.tail _ hy)
  simp only[aO,List.length_append,List.length_cons,List.length_nil,Nat.succ_mul]at h2⊢;omega
def z8 {w:bw}(h:w.fit):(aO [44] w.feats).length≤6291462:=by
 have h1:=iZ 44 1048576 w.feats h.1.2;have h2:=Nat.mul_le_mul_right (1048576+1) h.2.1;omega
def wE {w:bw}(h:w.fit):(aO [44] w.feats).length≤78:=by
 have h1:=iZ 44 12 w.feats h.2.2;have h2:=Nat.mul_le_mul_right (12+1) h.2.1;omega
def iQ (w:bw):ah:=bt (lu w)
def vn {w:bw}(h:w.fit):(iQ w).length≤8400000:=by
 have h1:=z8 h;have h2:=h.1.1;simp only[iQ,bt,lu,aO,List.length_append,List.length_cons,List.length_nil];split<;>split<;>simp only[jE,iv,mH,List.length_append,List.length_cons,List.length_nil]<;>omega
def m9 {s:ah}(h:s.length≤1048576):(gE s).length≤1048590:=by
 unfold gE;split
 ·simp
 ·simp only[bt,aO,jR,List.length_append,List.length_cons,List.length_nil];omega
def Ee {s:ah}(h:s.length≤1048576):(tV s).length≤1048590:=by
 unfold tV;split
 ·simp
 ·simp only[bt,aO,dI,List.length_append,List.length_cons,List.length_nil];omega
def oM {α:Type}(q:α→ah)(B:Nat){l:List α}(h:∀x∈l,(q x).length≤B)(i:Nat):(((l.take i).map q).flatten).length≤i*B:=by
 have h1:=lX q B (l.take i) fun x hx=>h x (List.mem_of_mem_take hx)
 have h2:=Nat.mul_le_mul_right B (List.length_take_le i l);omega
def mU {α:Type} [Inhabited α](q:α→ah){l:List α}{i:Nat}(h:i<l.length):((l.take (i+1)).map q).flatten=((l.take i).map q).flatten++q l[i]! :=by
 rw[List.take_add_one,List.getElem?_eq_getElem h,List.map_append,List.flatten_append];simp[h]
def B5 {n:bc}(h:n.fit):(kr n).length≤27400000:=by
 have h1:=lX iQ 8400000 n.any fun w hw=>vn (h.1.2 w hw)
 have h2:=Nat.mul_le_mul_right 8400000 h.1.1;have h3:=m9 h.2.1;have h4:=Ee h.2.2;have h5:(bt [gD]).length=5:=rfl;unfold iQ at h1;simp only[kr,List.length_append];omega
def C6 {b:fZ}(h:b.sm):(ow b).length≤3145800:=by
 have h1:=m9 h.2.2;have h2:=h.1;have h3:=h.2.1;simp only[ow,bt,aO,iX,List.length_append,List.length_cons,List.length_nil];omega
def Bp {x:bo}(h:x.fit):(oK x).length≤8400000:=by
 have h1:=iZ 32 1048576 ([cB,x.name]++x.of) (by
  intro t ht;simp only[List.cons_append,List.nil_append,List.mem_cons]at ht;rcases ht with rfl|rfl|ht
  ·simp[cB]
  ·exact h.1.1
  ·exact h.1.2.2 _ ht)
 have h2:=h.2;have h3:([cB,x.name]++x.of).length≤8:=by simp only[List.length_append,List.length_cons,List.length_nil];omega
 have h4:=Nat.mul_le_mul_right (1048576+1) h3;simp only[oK,bt,List.length_append,List.length_cons,List.length_nil]at h1 h4⊢;omega
def BG {r:Rec}(h1:r.name.length≤1048576)(h2:r.v.sm):(lh r).length≤3145800:=by
 have h3:=yx r.v h2;simp only[lh,bt,aO,du,List.length_append,List.length_cons,List.length_nil];omega
def cn (n:bc)(j:Nat):ah:=bt [gD]++((n.any.take j).map iQ).flatten
def kU {n:bc}{j:Nat}(h:j<n.any.length):cn n (j+1)=cn n j++iQ n.any[j]! :=by simp only[cn,mU iQ h,List.append_assoc]
def B3 {n:bc}{j:Nat}(h:n.any.length≤j):kr n=cn n j++gE n.when'++tV n.option:=by
 rw[cn,List.take_of_length_le h];rfl
def B4 {n:bc}(h:n.fit)(j:Nat)(hj:j≤3):(cn n j).length≤25200005:=by
 have h1:=oM iQ 8400000 (fun w hw=>vn (h.1.2 w hw)) j;have h2:=Nat.mul_le_mul_right 8400000 hj;have h5:(bt [gD]).length=5:=rfl;simp only[cn,List.length_append];omega
def hR (r:Rec)(i:Nat):ah:=lh r++((r.needs.take i).map kr).flatten
def tH (r:Rec)(i:Nat):ah:=hR r r.needs.length++((r.bars.take i).map ow).flatten
def wB (r:Rec)(i:Nat):ah:=tH r r.bars.length++((r.feats.take i).map oK).flatten
def HJ (r:Rec):hR r 0=lh r:=by simp[hR]
def HK (r:Rec):tH r 0=hR r r.needs.length:=by simp[tH]
def HL (r:Rec):wB r 0=tH r r.bars.length:=by simp[wB]
def A2 (r:Rec):wB r r.feats.length=iP r:=by simp only[wB,tH,hR,List.take_length,iP]
def kG {r:Rec}{i:Nat}(h:i<r.needs.length):hR r (i+1)=hR r i++kr r.needs[i]! :=by simp only[hR,mU kr h,List.append_assoc]
def E0 {r:Rec}{i:Nat}(h:i<r.bars.length):tH r (i+1)=tH r i++ow r.bars[i]! :=by simp only[tH,mU ow h,List.append_assoc]
def E1 {r:Rec}{i:Nat}(h:i<r.feats.length):wB r (i+1)=wB r i++oK r.feats[i]! :=by simp only[wB,mU oK h,List.append_assoc]
def A0 {r:Rec}(h:r.fit)(i:Nat)(hi:i≤r.needs.length):(hR r i).length≤222400000:=by
 have a0:=BG h.nm h.v;have a1:=oM kr 27400000 (fun x hx=>B5 (h.n x hx)) i;have b1:=Nat.mul_le_mul_right 27400000 (Nat.le_trans hi h.ns);simp only[hR,List.length_append];omega
def A1 {r:Rec}(h:r.fit)(i:Nat)(hi:i≤r.bars.length):(tH r i).length≤247600000:=by
 have a0:=A0 h r.needs.length (Nat.le_refl _);have a1:=oM ow 3145800 (fun x hx=>C6 (h.b x hx)) i;have b1:=Nat.mul_le_mul_right 3145800 (Nat.le_trans hi h.bs);simp only[tH,List.length_append];omega
def Ha {r:Rec}(h:r.fit)(i:Nat)(hi:i≤r.feats.length):(wB r i).length≤314800000:=by
 have a0:=A1 h r.bars.length (Nat.le_refl _);have a1:=oM oK 8400000 (fun x hx=>Bp (h.f x hx)) i;have b1:=Nat.mul_le_mul_right 8400000 (Nat.le_trans hi h.fs);simp only[wB,List.length_append];omega
def xc {r:Rec}(h:(cb r).1=0):su r:=by
 unfold cb at h;split at h
 ·cases h
 split at h
 ·cases h
 split at h
 ·cases h
 rename_i a b c;split at h
 ·rename_i d;exact absurd h d
 rename_i d;exact⟨⟨by simpa using a,by simpa using b⟩,⟨by omega,by omega⟩,El (Classical.not_not.1 d)⟩
def oO (l:List ah)(x:ah)(i:Nat):Int:=match(l.drop i).findIdx? (fun t=>decide (x=t))with
 |some k=>((i+k:Nat):Int)
 |none=>-1
def Gd {l:List ah}{x:ah}{i:Nat}(h:i<l.length)(he:x=l[i]!):oO l x i=(i:Nat):=by
 unfold oO;rw[List.drop_eq_getElem_cons h,List.findIdx?_cons];have:x=l[i]:=by simpa[h]using he
 simp[←this]
def Ge {l:List ah}{x:ah}{i:Nat}(h:i<l.length)(he:¬x=l[i]!):oO l x i=oO l x (i+1):=by
 unfold oO;have:¬x=l[i]:=by simpa[h]using he
 rw[List.drop_eq_getElem_cons h,List.findIdx?_cons];simp only[this,decide_false,Bool.false_eq_true,if_false];cases(l.drop (i+1)).findIdx? (fun t=>decide (x=t))with
 |none=>rfl
 |some k=>simp only[Option.map_some];congr 1;omega
def DF {l:List ah}{x:ah}{i:Nat}(h:l.length≤i):oO l x i=-1:=by
 unfold oO;rw[List.drop_eq_nil_of_le h];rfl
def DG (l:List ah)(x:ah):decide (0≤oO l x 0)=decide (x∈l):=by
 unfold oO;rw[List.drop_zero];cases h:l.findIdx? (fun t=>decide (x=t))with
 |none=>
  have:=List.findIdx?_eq_none_iff.1 h;have hn:x∉l:=fun hm=>by have:=this x hm;simp at this
  simp[hn]
 |some k=>
  obtain⟨hk,hx,_⟩:=List.findIdx?_eq_some_iff_getElem.1 h;have hm:x∈l:=by
   have:x=l[k]:=by simpa using hx
   rw[this];exact List.getElem_mem hk
  simp[hm]
structure Ld where
 ls:List ah
 at':Nat
 deriving Inhabited,DecidableEq
def Ld.D (r:Ld):D:=.agg [.sl 1 (r.ls.map D.str),.int .i64 (r.at':Nat)]
def Ld.rest (r:Ld):List ah:=r.ls.drop r.at'
def Ld.sm (r:Ld):Prop:=(r.at'≤r.ls.length∧r.ls.length≤1048577)∧∀t∈r.ls,t.length≤1048576
def Ld.to (r:Ld)(q:List ah):Ld:=⟨r.ls,r.ls.length-q.length⟩
def fY (n:Int)(t:ah):List ah:=if n<0 then ai t 32 else nM n.toNat (ai t 32)
def vo (n:Nat)(op:Bool)(t:ah):fY (if op=true then(n:Int)else-1) t=cM n op t:=by
 unfold fY cM;cases op
 ·rfl
 ·have:¬(n:Int)<0:=by omega
  simp[this]
def tT:Option (List ah×List ah)→D
 |none=>.ar
 |some (l,_)=>.sl 1 (l.map D.str)
def Ld.after (r:Ld)(o:Option (List ah×List ah)):Ld:=match o with
 |none=>r
 |some _=>⟨r.ls,r.at'+1⟩
def Ld.EO {r:Ld}(h:r.ls.length≤r.at'):r.rest=[]:=List.drop_eq_nil_of_le h
def Ld.m5 {r:Ld}(h:r.at'<r.ls.length):r.rest=r.ls[r.at']! ::r.ls.drop (r.at'+1):=by
 unfold Ld.rest;rw[List.drop_eq_getElem_cons h];simp[h]
def Cz (n:Nat)(op:Bool)(t:ah)(h:op=true→1≤n):1≤(cM n op t).length:=by
 have hs:1≤(ai t 32).length:=by
  exact fq 32 t []
 unfold cM;split
 ·rename_i ho;have:=h ho;unfold nM;split
  ·exact hs
  ·simp
 ·exact hs
def xS {w:ah}{n:Nat}{op:Bool}{t:ah}(h:((¬(cM n op t)[0]! =w∨((cM n op t).length:Int)<1)∨((0:Int)<n∧¬((cM n op t).length:Int)=n))∨[]∈cM n op t)(h1:1≤(cM n op t).length):js w n op t=none:=by
 rw[js,if_neg];rintro⟨a,b,c⟩;rcases h with((h|h)|h)|h
 ·exact h a
 ·omega
 ·rcases b with b|b<;>omega
 ·exact c h
def uK {w:ah}{n:Nat}{op:Bool}{t:ah}(h:(((cM n op t)[0]! =w∧¬((cM n op t).length:Int)<1)∧(¬(0:Int)<n∨((cM n op t).length:Int)=n))∧¬[]∈cM n op t):js w n op t=some (cM n op t):=by
 rw[js,if_pos ⟨h.1.1.1,by rcases h.1.2 with h|h<;>omega,h.2⟩]
def anyL (t:ah):Option (List ah):=match js jE 5 true t with
 |some l=>if qA l=true then some l else none
 |none=>none
def No (p:ah→Option (List ah))(ls:List ah):Prop:=∀t r,ls=t::r→p t=none
def c9 {w:ah}{n:Nat}{op:Bool}{ls l r:List ah}(h:bq w n op ls=some (l,r)):∃t,ls=t::r∧js w n op t=some l:=by
 match ls,h with
 |[],h=>cases h
 |t::q,h=>
  simp only[bq]at h;split at h
  ·rename_i l' hl;simp only[Option.some.injEq,Prod.mk.injEq]at h;obtain⟨rfl,rfl⟩:=h;exact⟨t,rfl,hl⟩
  ·cases h
def Stop (s:Nat)(ls:List ah):Prop:=(s=2→No anyL ls∧No (js jR 2 true) ls)∧(s=2∨s=3→No (js dI 2 false) ls)∧(s=5→No (js jR 2 true) ls)
def nt (m:List (Nat×aU))(l:Nat)(t:List UInt8):Prop:=(∃u,look m l=some (.bld none 0 u)∧t=[])∨(∃l2 u,look m l=some (.bld (some l2) t.length u)∧look m l2=some (.row t))
@[go_sem] def dn (m:List (Nat×aU))(l:Nat):List (Nat×aU):=match look m l with
 |some (.bld (some l2) _ _)=>bK m l2
 |_=>m
@[go_sem] def lN (m:List (Nat×aU))(l L:Nat)(t:List UInt8):List (Nat×aU):=(L,.row t)::bN (dn m l) l (.bld (some L) t.length true)
def TrW (TN:D)(s:List UInt8)(ds:List D)(st:St)(K:D→St→Prop):Prop:=∃l t,ds=[.ptr l 2 0 0,TN]∧nt st.m l t∧l<st.nx∧s≠[]∧t.length+s.length≤1099511627776∧K .any ⟨st.nx+1,lN st.m l st.nx (t++s)⟩
def L9 (ds:List D)(st:St)(K:D→St→Prop):Prop:=∃s,TrW (.str s) s ds st K
def L8 (ds:List D)(st:St)(K:D→St→Prop):Prop:=∃c,TrW (.int .u8 c.toNat) [c] ds st K
def L7 (ds:List D)(st:St)(K:D→St→Prop):Prop:=∃l t,ds=[.ptr l 2 0 0]∧nt st.m l t∧t≠[]∧K (.str t) ⟨st.nx,bK (dn st.m l) l⟩
def H5 (Γ:Ctx):Prop:=∀(ds:List D)(st:St)(K:D→St→Prop),L9 ds st K→Γ.tr 489 ds st K
def H9 (Γ:Ctx):Prop:=∀(ds:List D)(st:St)(K:D→St→Prop),L8 ds st K→Γ.tr 664 ds st K
def H2 (Γ:Ctx):Prop:=∀(ds:List D)(st:St)(K:D→St→Prop),L7 ds st K→Γ.tr 452 ds st K
def BJ (b a:ah)(l:List ah)(h:a≠[]):aO b (a::l)≠[]:=by
 match l with
 |[]=>exact h
 |c::r=>
  rw[eu b a (c::r) (by simp)];intro e;have:=List.append_eq_nil_iff.1 e;exact h (List.append_eq_nil_iff.1 this.1).1
def vB (ws:List ah)(t:ah):Prop:=(aO [32] ws≠[]∧ws.length≤1048600)∧(∀w∈ws,w.length≤2097200)∧t.length+(aO [32] ws).length+1≤1099511627776
def vB.mk {a:ah}{l:List ah}{t:ah}(h1:a≠[])(h2:l.length≤99)(h3:∀w∈a::l,w.length≤2097200)(h4:t.length≤1000000000):vB (a::l) t:=by
 have h5:=iZ 32 2097200 (a::l) h3;have h6:(a::l).length≤100:=by simp only[List.length_cons];omega
 have h7:=Nat.mul_le_mul_right (2097200+1) h6;exact⟨⟨BJ _ _ _ h1,by omega⟩,h3,by omega⟩
def HZ (Γ:Ctx):Prop:=∀(ws:List ah)(t:ah)(l lw nx:Nat)(m:List (Nat×aU))(K:D→St→Prop),nt m l t→look m lw=some (.buf 1 (ws.map D.str))→l<nx→lw<nx→vB ws t→
 K (.tup []) ⟨nx+1,lN (bK m lw) l nx (t++bt ws)⟩→Γ.tr 450 [.ptr l 2 0 0,.own lw 1 0 ws.length] ⟨nx,m⟩ K
def pU {m:List (Nat×aU)}{l L:Nat}{t:List UInt8}(h:l≠L):look (lN m l L t) l=some (.bld (some L) t.length true)∧look (lN m l L t) L=some (.row t):=by
 constructor
 ·simp only[lN,look,if_neg (fun e=>h (Eq.symm e))]
  haveI:bQ:={gd:=fun _=>True,le:=fun _ _ _ _ _=>trivial}
  rw[bh,if_pos rfl]
 ·simp only[lN,look,if_pos]
def FI {m:List (Nat×aU)}{l L:Nat}{t:List UInt8}(h:l≠L):nt (lN m l L t) l t:=.inr ⟨L,true,pU h⟩
end Go.Abs
