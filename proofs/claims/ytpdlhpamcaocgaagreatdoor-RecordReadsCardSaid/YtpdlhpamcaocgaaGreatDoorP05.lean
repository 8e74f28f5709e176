/- A part of the proofs of the statements: AbsZ, LAsmG, LAsmR, RData, LPlain1, LPlain2, LPlain3, RSpec1, RSpec2, RSpec3, RSpec4, RSpec5, RSpec6, RPrs, RSpec7, RSpec8, RSpec9. -/
import Derived.Test.YtpdlhpamcaocgaaGreatDoorP04
set_option linter.all false
set_option maxRecDepth 4000
section
namespace Go.Abs
variable [cz]
section
variable {P:Program} {ν:List (Nat×Nat)} {b9:List Nat} {Γ:Ctx}
def RD.re {x x':X}{σ:List (Nat×Nat)}(hw:x'.w=x.w)(hI:x'.I=x.I)(hβ:∀l l',kN 0 σ l=some l'→x'.β l'=x.β l){v:Value}{d d':D}(hv:RD ν x v d)(hd:Iq 0 σ d d'):RD ν x' v d':=by
 rcases hd with⟨rfl,hn⟩|hd|hd
 ·exact hv.a7 hn (fun _ h=>by rw[hI];exact h) (fun _ _=>by rw[hw])
 ·exact RD.rn (x:=x) (x':=x') hw hI hβ hv _ hd
 ·exact RD.nl (x:=x) (x':=x') hw hI hv _ hd
def mA.re {x x':X}{σ:List (Nat×Nat)}(hw:x'.w=x.w)(hI:x'.I=x.I)(hβ:∀l l',kN 0 σ l=some l'→x'.β l'=x.β l){b base tot:Nat}{b0 blk:bo}(o2:mA ν x b base tot b0)(q3:pJ 0 σ b0 blk):mA ν x' b base tot blk:=by
 cases b0 with
 |iter s p=>
  cases blk with
  |iter s' p'=>simp only[pJ]at q3;obtain⟨rfl,rfl⟩:=q3;simp only[mA,hw]at o2⊢;exact o2
  |_=>simp[pJ]at q3
 |row s=>
  cases blk with
  |row s'=>simp only[pJ]at q3;subst q3;simp only[mA,hw]at o2⊢;exact o2
  |_=>simp[pJ]at q3
 |bld o n u=>
  cases blk with
  |bld o' n' u'=>
   simp only[pJ]at q3;obtain⟨q3,rfl,rfl⟩:=q3;obtain⟨p1,v,p2,p3⟩:=o2;refine⟨p1,v,by rw[hw];exact p2, ?_⟩;cases o with
   |none=>simp only at q3;subst q3;exact p3
   |some l0=>
    obtain⟨l1,q4,rfl⟩:=q3;obtain⟨g,t,p4,p5,p6⟩:=p3;exact⟨g,t,p4,p5,by rw[hβ l0 l1 q4];exact p6⟩
  |_=>simp[pJ]at q3
 |buf k es=>
  cases blk with
  |iter s' p'=>simp[pJ]at q3
  |row s'=>simp[pJ]at q3
  |bld o' n' u'=>simp[pJ]at q3
  |buf k' es'=>
   simp only[pJ]at q3;obtain⟨rfl,q3⟩:=q3;obtain⟨p1,p2,cc,T,fr,p3,p4,p5,p6⟩:=o2;rw[←hw]at p3;rcases q3 with⟨rfl,hn⟩|q3|q3
   ·exact⟨p1,p2,cc,T,fr,p3,p4,p5,fun i hi=>⟨(p6 i hi).1,fun j hj=>⟨((p6 i hi).2 j hj).1,RD.re hw hI hβ ((p6 i hi).2 j hj).2 (.inl ⟨rfl,jO (cu hn i) j⟩)⟩⟩⟩
   ·obtain⟨r1,r2⟩:=kp q3;refine⟨p1,by omega,cc,T,fr,p3,p4,p5,fun i hi=>?_⟩;have hi':i<es.length:=by omega
    obtain⟨s1,s2⟩:=xW (r2 i hi');exact⟨s1.trans (p6 i hi').1,fun j hj=>⟨((p6 i hi').2 j hj).1,RD.re hw hI hβ ((p6 i hi').2 j hj).2 (.inr (.inl (s2 j (by rw[(p6 i hi').1];exact hj))))⟩⟩
   ·obtain⟨r1,r2⟩:=n7 q3;refine⟨p1,by omega,cc,T,fr,p3,p4,p5,fun i hi=>?_⟩;have hi':i<es.length:=by omega
    obtain⟨s1,s2⟩:=xc (r2 i hi');exact⟨s1.trans (p6 i hi').1,fun j hj=>⟨((p6 i hi').2 j hj).1,RD.re hw hI hβ ((p6 i hi').2 j hj).2 (.inr (.inr (s2 j (by rw[(p6 i hi').1];exact hj))))⟩⟩
def D8 {lo c:Nat}{σ:List (Nat×Nat)}{l l':Nat}(h0:fG 0 c σ=true)(h:kN 0 σ l=some l'):l'<c∧(l,l')∈σ:=by
 obtain⟨h1,h2⟩:=rE h0 h;rcases h2 with⟨h2,_⟩|⟨_,h2⟩
 ·omega
 ·exact⟨h1,h2⟩
def rm {c:Nat}:∀{σ:List (Nat×Nat)}{a b:Nat},fG 0 c σ=true→(a,b)∈σ→kN 0 σ a=some b
 |[],a,b,_,h=>by cases h
 |(a0,b0)::r,a,b,h0,h=>by
  unfold kN;simp only[fG,Bool.and_eq_true,List.all_eq_true,Bool.not_eq_true']at h0;obtain⟨_,_,p4,p5⟩:=h0;rcases List.mem_cons.1 h with h|h
  ·simp only[Prod.mk.injEq]at h;obtain⟨rfl,rfl⟩:=h;simp
  ·have:=(p4 _ h).1;simp only at this;have hne:Nat.beq a0 a=false:=by
    cases hb:Nat.beq a0 a with
    |false=>rfl
    |true=>obtain rfl:=Nat.eq_of_beq_eq_true hb;simp at this
   rw[hne];exact rm p5 h
structure Fr (σi σo:List (Nat×Nat))(q q1:Nat)(m0 m1:List (Nat×bo))(st st':St):Prop where
 oki:fG 0 q σi=true
 oko:fG 0 st'.nx σo=true
 nx:st.nx≤st'.nx
 lt:∀l i,(l,i)∈σi→look st.m l≠none
 io:∀i l,(i,l)∈σo→(l,i)∈σi∨st.nx≤l
 m0:∀i b,look m0 i=some b→∃l b',(l,i)∈σi∧look st.m l=some b'∧pJ 0 σi b' b
 m1:∀l b,look st'.m l=some b→(∃i b1,(i,l)∈σo∧look m1 i=some b1∧pJ 0 σo b1 b)∨(lh σo l=none∧(∀i,(l,i)∉σi)∧look st.m l=some b)
def I9 {fid:Nat}{fn:Func}{af:aB}{K:D→St→Prop}(hΓ:Ok P ν b9 Γ)(hmix:P.follows .mixedOrders=true)(hf:P.funcs[fid]? =some fn)(hc:compile P ν b9 fn=some af)
  {x:X} {args:Array Value} {ds cs:List D} {st:St} {σi:List (Nat×Nat)} {q:Nat} {m0:List (Nat×bo)} (hl:args.size=ds.length) (hargs:∀i,i<ds.length→RD ν x (args.getD i undef) (ds.getD i .any))
  (hs:ey ν x (look st.m)) (hfr:er st x) (hlen:cs.length=ds.length) (hds:∀i,i<ds.length→Iq 0 σi (ds.getD i .any) (cs.getD i .any)) (hnp:cs.length=af.np)
  (oki:fG 0 q σi=true) (hlt:∀l i,(l,i)∈σi→look st.m l≠none) (hm0:∀i b,look m0 i=some b→∃l b',(l,i)∈σi∧look st.m l=some b'∧pJ 0 σi b' b)
  (hw:bz (Γ.at q) af.body (fun e env st1=>e.home∧nX st1.m env af.res∧∃(σo:List (Nat×Nat)) (q1:Nat) (m1:List (Nat×bo)) (st':St) (vd':D),Fr σi σo q q1 m0 m1 st st'∧Iq 0 σo (jV af env st1) vd'∧K vd' st'∧∀i,look st1.m i=look m1 i) (ed af cs) ⟨q,m0⟩):
  Calls P fid args x.w fun
   | .returned v,w'=>∃x' d st',K d st'∧x'.w=w'∧Step x x'∧RD ν x' v d∧ey ν x' (look st'.m)∧er st' x'
   |_,_=>False:=by
 obtain⟨body,c1,c2,c3,c4,c5,c6⟩:=gL hc
 let x0:X:=⟨x.w,x.I,fun i=>(lh σi i).bind x.β⟩
 have hx0:∀l i,(l,i)∈σi→x0.β i=x.β l:=fun l i h=>by simp only[x0,tZ oki h,Option.bind_some]
 have hβ0:∀l i,kN 0 σi l=some i→x0.β i=x.β l:=fun l i h=>hx0 l i (D8 (lo:=0) oki h).2
 have hx0':∀i p,x0.β i=some p→∃l,(l,i)∈σi∧x.β l=some p∧i<q:=by
  intro i p h;obtain⟨l,h1,h2⟩:=Option.bind_eq_some_iff.1 (show(lh σi i).bind x.β=some p from h);exact⟨l,kf h1,h2,oZ oki (kf h1)⟩
 have hs0:ey ν x0 (look m0):=by
  refine⟨fun i blk b base tot e1 e2=>?_,fun i j b base tot base' tot' e1 e2 e3 e4=>?_,hs.imm,fun i b base tot e=>?_,cz.le x _ (fun _ h=>h) (fun _ _=>rfl) hs.gd⟩
  ·obtain⟨l,b',h1,h2,h3⟩:=hm0 i blk e1;rw[hx0 l i h1]at e2;obtain⟨o1,o2⟩:=hs.own l b' b base tot h2 e2;exact⟨o1,mA.re (x:=x) (x':=x0) rfl rfl hβ0 o2 h3⟩
  ·obtain⟨l,h1,h2,_⟩:=hx0' i _ e3;obtain⟨l',h1',h2',_⟩:=hx0' j _ e4;have:=hs.inj l l' b base tot base' tot' (hlt _ _ h1) (hlt _ _ h1') h2 h2';subst this;have:=rm oki h1;rw[rm oki h1']at this;exact(Option.some.inj this).symm
  ·obtain⟨l,_,h2,_⟩:=hx0' i _ e;exact hs.dE l b base tot h2
 have hf0:er ⟨q,m0⟩ x0:=by
  refine⟨fun i hi=>?_,fun i hi=>?_⟩
  ·cases h:x0.β i with
   |none=>rfl
   |some p=>obtain⟨_,_,_,h4⟩:=hx0' i p h;simp only at hi;omega
  ·cases h:look m0 i with
   |none=>exact absurd h hi
   |some b=>obtain⟨l,b',h1,_⟩:=hm0 i b h;exact oZ oki h1
 have hi:=sL (P:=P) (ν:=ν) (b9:=b9) (x:=x0) (ds:=cs) (st:=⟨q,m0⟩) c4 c5 c6 (args:=args) (by omega) hnp (fun i hi=>RD.re (x:=x) (x':=x0) rfl rfl hβ0 (hargs i (by omega)) (hds i (by omega))) hs0 hf0;have hcs:=qe (C:={P,ν,b9,slots:=slotsOf fn,ntmps:=fn.ntmps,vm:=FA P fn}) (hΓ.at q) (mr fn).1 hmix x0 (fun l h=>hf0.β l h) body af.body c2 _ _ _ _ x0 hw hi (.refl _);refine calls_of_wp hf c1 (wp_mono hcs fun e a w' hp=>?_);obtain⟨e',x',env',st1,he,hxw,hst,hi',hh,hro,σo,q1,m1,st',vd',hfm,hvd,hK,hlk⟩:=hp;subst hxw;obtain⟨v,r1,r2,r3⟩:=oN hi' c3 hro
 let x2:X:=⟨x'.w,x'.I,fun l=>match lh σo l with|some i=>x'.β i|none=>x.β l⟩
 have hx2:∀i l,(i,l)∈σo→x2.β l=x'.β i:=fun i l h=>by simp only[x2,tZ hfm.oko h]
 have hx2n:∀l,lh σo l=none→x2.β l=x.β l:=fun l h=>by simp only[x2,h]
 have hβ2:∀i l,kN 0 σo i=some l→x2.β l=x'.β i:=fun i l h=>hx2 i l (D8 (lo:=0) hfm.oko h).2
 have hx0s:∀l i p,(l,i)∈σi→x.β l=some p→x'.β i=some p:=fun l i p h e=>hst.β _ _ (by rw[hx0 l i h];exact e)

 have hnew:∀i p,x'.β i=some p→(∃l,(l,i)∈σi∧x.β l=some p)∨x.w.heap.size≤p.1∨∃l p',(∃j,(l,j)∈σi)∧x.β l=some p'∧p'.1=p.1:=by
  intro i p e;rcases hst.newβ i p e with h|h|⟨j,p',h1,h2⟩
  ·obtain⟨l,h3,h4,_⟩:=hx0' i p h;exact .inl ⟨l,h3,h4⟩
  ·exact .inr (.inl h)
  ·obtain⟨l,h3,h4,_⟩:=hx0' j p' h1;exact .inr (.inr ⟨l,p',⟨j,h3⟩,h4,h2⟩)
 have hstep:Step x x2:=by
  refine⟨hst.os,hst.tape,hst.output,hst.size,hst.I,hst.ny,fun l p hp=>?_,fun b hb hn=>hst.old b hb fun i p h e=>?_,fun b h=>?_,fun l p h=>?_⟩
  ·cases h:lh σo l with
   |none=>rw[hx2n l h];exact hp
   |some i=>
    have hm:=kf h;rw[hx2 i l hm];rcases hfm.io i l hm with h2|h2
    ·exact hx0s l i p h2 hp
    ·rw[hfr.β l h2]at hp;cases hp
  ·obtain⟨l,_,h2,_⟩:=hx0' i p h;exact hn l p h2 e
  ·rcases hst.newI b h with h|h|⟨i,p,h1,h2⟩
   ·exact .inl h
   ·exact .inr (.inl h)
   ·obtain⟨l,_,h3,_⟩:=hx0' i p h1;exact .inr (.inr ⟨l,p,h3,h2⟩)
  ·cases h1:lh σo l with
   |none=>rw[hx2n l h1]at h;exact .inl h
   |some i=>
    have hm:=kf h1;rw[hx2 i l hm]at h;rcases hnew i p h with⟨l',h2,h3⟩|h2|⟨l',p',_,h3,h4⟩
    ·exact .inr (.inr ⟨l',p,h3,rfl⟩)
    ·exact .inr (.inl h2)
    ·exact .inr (.inr ⟨l',p',h3,h4⟩)
 have hsim:ey ν x2 (look st'.m):=by
  refine⟨fun l blk b base tot e1 e2=>?_,fun l1 l2 b base tot base' tot' e1 e2 e3 e4=>?_,hi'.mf.imm,fun l b base tot e=>?_,cz.le x' _ (fun _ h=>h) (fun _ _=>rfl) hi'.mf.gd⟩
  ·rcases hfm.m1 l blk e1 with⟨i,b1,h1,h2,h3⟩|⟨h1,h2,h3⟩
   ·rw[hx2 i l h1]at e2;obtain⟨o1,o2⟩:=hi'.mf.own i b1 b base tot (by rw[hlk];exact h2) e2;exact⟨o1,mA.re (x:=x') (x':=x2) rfl rfl hβ2 o2 h3⟩
   ·rw[hx2n l h1]at e2;obtain⟨o1,o2⟩:=hs.own l blk b base tot h3 e2;have hlt:=hs.dE l b base tot e2;have hno:∀i p,x0.β i=some p→p.1≠b:=by
     rintro i ⟨b',base',tot'⟩ h e;simp only at e;subst e;obtain⟨l',h4,h5,_⟩:=hx0' i _ h;have:=hs.inj l' l b' base' tot' base tot (hfm.lt _ _ h4) (by rw[h3];simp) h5 e2;subst this;exact h2 _ h4
    refine⟨fun h=>?_,o2.mono hstep.le (hst.old b hlt hno)⟩;rcases hst.newI b h with h|h|⟨i,p,h4,h5⟩
    ·exact o1 h
    ·exact absurd hlt (Nat.not_lt.2 h)
    ·exact hno i p h4 h5
  ·have mix:∀l1 l2 base tot base' tot',(∃i b1,(i,l1)∈σo∧look m1 i=some b1)→lh σo l2=none→(∀i,(l2,i)∉σi)→look st.m l2≠none→x2.β l1=some (b,base,tot)→x2.β l2=some (b,base',tot')→False:=by
    rintro l1 l2 base tot base' tot' ⟨i,b1,h1,h2⟩ h3 h4 h5 e3 e4;rw[hx2 i l1 h1]at e3;rw[hx2n l2 h3]at e4;rcases hnew i _ e3 with⟨l',h6,h7⟩|h6|⟨l',⟨pb,pt,pq⟩,⟨j,h6⟩,h7,h8⟩
    ·have:=hs.inj l' l2 b base tot base' tot' (hfm.lt _ _ h6) h5 h7 e4;subst this;exact h4 _ h6
    ·have:=hs.dE l2 b base' tot' e4;simp only at h6;omega
    ·simp only at h8;subst h8;have:=hs.inj l' l2 pb pt pq base' tot' (hfm.lt _ _ h6) h5 h7 e4;subst this;exact h4 _ h6
   cases f1:look st'.m l1 with
   |none=>exact absurd f1 e1
   |some b1=>
    cases f2:look st'.m l2 with
    |none=>exact absurd f2 e2
    |some b2=>
     rcases hfm.m1 l1 b1 f1 with⟨i,c1,h1,h2,_⟩|⟨h1,h2,h3⟩<;>rcases hfm.m1 l2 b2 f2 with⟨j,c2,k1,k2,_⟩|⟨k1,k2,k3⟩
     ·rw[hx2 i l1 h1]at e3;rw[hx2 j l2 k1]at e4;have:=hi'.mf.inj i j b base tot base' tot' (by rw[hlk,h2];simp) (by rw[hlk,k2];simp) e3 e4;subst this;have:=rm hfm.oko h1;rw[rm hfm.oko k1]at this;exact(Option.some.inj this).symm
     ·exact(mix l1 l2 base tot base' tot' ⟨i,c1,h1,h2⟩ k1 k2 (by rw[k3];simp) e3 e4).elim
     ·exact(mix l2 l1 base' tot' base tot ⟨j,c2,k1,k2⟩ h1 h2 (by rw[h3];simp) e4 e3).elim
     ·rw[hx2n l1 h1]at e3;rw[hx2n l2 k1]at e4;exact hs.inj l1 l2 b base tot base' tot' (by rw[h3];simp) (by rw[k3];simp) e3 e4
  ·cases h1:lh σo l with
   |none=>rw[hx2n l h1]at e;exact Nat.lt_of_lt_of_le (hs.dE l b base tot e) hst.size
   |some i=>
    rw[hx2 i l (kf h1)]at e;exact hi'.mf.dE i b base tot e
 have hfr2:er st' x2:=by
  refine⟨fun l hl=>?_,fun l hl=>?_⟩
  ·cases h1:lh σo l with
   |none=>rw[hx2n l h1];exact hfr.β l (by have:=hfm.nx;omega)
   |some i=>have:=oZ hfm.oko (kf h1);omega
  ·cases f1:look st'.m l with
   |none=>exact absurd f1 hl
   |some b1=>
    rcases hfm.m1 l b1 f1 with⟨i,c1,h1,_⟩|⟨_,_,h3⟩
    ·exact oZ hfm.oko h1
    ·have:=hfr.m l (by rw[h3];simp);have:=hfm.nx;omega
 have hrd:=RD.re (ν:=ν) (x:=x') (x':=x2) rfl rfl hβ2 r2 hvd;rcases Ex.yZ hh with h|h<;>rw[h]at he<;>subst he<;>exact⟨hi'.defers,v,r1,x2,vd',st',hK,rfl,hstep,hrd,hsim,hfr2⟩
end
end Go.Abs
end
section
namespace Go.Abs
structure PM where
 tr:List D→St→(D→St→Prop)→Prop
 mu:List D→St→Nat
 mono:∀(ds:List D) (st:St) (K K':D→St→Prop),(∀d st',K d st'→K' d st')→tr ds st K→tr ds st K'
def PM.no:PM:=⟨fun _ _ _=>False,fun _ _=>0,fun _ _ _ _ _ h=>h⟩
def jn (af:aB)(Q:D→List (Nat×bo)→Prop):Ex→List bx→St→Prop:=fun e env st=>e.home∧nX st.m env af.res∧∃m1,(∀i,look st.m i=look m1 i)∧Q (jV af env st) m1
def bq {af:aB}{Q:D→List (Nat×bo)→Prop}{vd:D}{m1:List (Nat×bo)}{e:Ex}{env:List bx}{st:St}(h1:e.home)(h2:nX st.m env af.res)(h3:jV af env st=vd)(h4:st.m=m1)(h5:Q vd m1):jn af Q e env st:=⟨h1,h2,m1,fun i=>by rw[h4],by rw[h3];exact h5⟩
def One (vd:D)(m1:List (Nat×bo)):D→List (Nat×bo)→Prop:=fun d m=>d=vd∧m=m1
def oneq (vd:D)(m1:List (Nat×bo)):One vd m1 vd m1:=⟨rfl,rfl⟩
section
variable [cz] {P:Program} {ν:List (Nat×Nat)} {b9:List Nat} {Γ:Ctx}
def F6 (P:Program)(ν:List (Nat×Nat))(Γ':Ctx)(b9:List Nat)(tr:List D→St→(D→St→Prop)→Prop)(fid:Nat):Prop:=
 ∀(ds:List D) (st:St) (K:D→St→Prop),tr ds st K→Ok P ν b9 Γ'→∀(x:X) (args:Array Value),args.size=ds.length→(∀i,i<ds.length→RD ν x (args.getD i undef) (ds.getD i .any))→ey ν x (look st.m)→er st x→
  iq P x (fun v x'=>∃d st',K d st'∧Step x x'∧RD ν x' v d∧ey ν x' (look st'.m)∧er st' x') ((callFunc fid args).run P x.w)
end
end Go.Abs
end
section
namespace Go.Abs
abbrev RT:=List D→D→Prop
abbrev FT:=D→List D→D→D→Prop
abbrev TT:=List D→St→(D→St→Prop)→Prop
def zM (T:TT):Prop:=∀ds st K K',(∀d st',K d st'→K' d st')→T ds st K→T ds st K'
def yV (A:RT→Prop):RT:=fun ds d=>∀T,A T→T ds d
def mF (A:FT→Prop):FT:=fun d ds v s=>∀T,A T→T d ds v s
def Ia (T:TT):Ctx:=⟨fun _ _=>False,fun _ _=>.any,fun _=>T,fun _ _ _=>False,fun _ _ _=>.any,fun _ _ _=>.any,0⟩
def Cb (C:Ctx→Prop):TT:=fun ds st K=>∀T,zM T→C (Ia T)→T ds st K
def ta (C:Ctx→Prop):zM (Cb C):=fun _ _ _ _ h h1 T hT hC=>hT _ _ _ _ h (h1 T hT hC)
def noR:RT:=fun _ _=>False
def P1:FT:=fun _ _ _ _=>False
def noT:TT:=fun _ _ _=>False
def vn:zM noT:=fun _ _ _ _ _ h=>h.elim
structure pK where
 key:Nat
 rel:RT
 mu:List D→Nat
 relF:FT
 tr:TT
 muE:List D→St→Nat
 mono:zM tr
def P0:List D→Nat:=fun _=>0
def G2:List D→St→Nat:=fun _ _=>0
def kU:pK:=⟨0,noR,P0,P1,noT,G2,vn⟩
def rP (k:Nat)(A:RT→Prop)(mu:List D→Nat:=P0):pK:=⟨k,yV A,mu,P1,noT,G2,vn⟩
def rF (k:Nat)(A:FT→Prop):pK:=⟨k,noR,P0,mF A,noT,G2,vn⟩
def rG (k:Nat)(C:Ctx→Prop)(mu:List D→St→Nat:=G2):pK:=⟨k,noR,P0,P1,Cb C,mu,ta C⟩
def rFG (k:Nat)(A:FT→Prop)(C:Ctx→Prop):pK:=⟨k,noR,P0,mF A,Cb C,G2,ta C⟩
noncomputable def pick (r:D→Prop):D:=Classical.epsilon r
def jP {r:D→Prop}(h:∃d,r d):r (pick r):=Classical.epsilon_spec h
def OE (R:RT):Prop:=∀ds d d',R ds d→R ds d'→d=d'
def um (R:FT):Prop:=∀d ds v s v' s',R d ds v s→R d ds v' s'→v=v'∧s=s'
def LV {A:RT→Prop}(h:A fun ds d=>A fun ds' d'=>ds'=ds→d=d'):OE (yV A):=fun ds d d' h1 h2=>h2 _ (h1 _ h) rfl
def I6 {A:FT→Prop}(h:A fun d ds v s=>A fun d' ds' v' s'=>d'=d→ds'=ds→v=v'∧s=s'):um (mF A):=fun d ds v s v' s' h1 h2=>h2 _ (h1 _ h) rfl rfl
noncomputable def wL (t:List (Nat×pK)):Ctx where
 pre n ds:=∃d,(lk t n kU).rel ds d
 val n ds:=pick ((lk t n kU).rel ds)
 tr n:=(lk t n kU).tr
 fp n d ds:=∃v s,(lk t n kU).relF d ds v s
 fv n d ds:=pick fun v=>∃s,(lk t n kU).relF d ds v s
 fs n d ds:=pick fun s=>∃v,(lk t n kU).relF d ds v s
 lo:=0
def HK (t:List (Nat×pK)):LF:=⟨fun n=>(lk t n kU).key,fun n=>(lk t n kU).mu,fun n=>(lk t n kU).muE⟩
noncomputable abbrev under (t:List (Nat×pK))(k u:Nat):Ctx:=(wL t).under (HK t) k u
def aK (t:List (Nat×pK))(k u n:Nat):(((wL t).under (HK t) k u).at n).a8:=
 fun f ds st K K' h hh=>⟨hh.1,(lk t f kU).mono ds st K K' h hh.2⟩
section
variable {t:List (Nat×pK)} {n k u:Nat} {ds:List D} {d v s:D} {st:St} {K:D→St→Prop}
def cX (hD:OE (lk t n kU).rel)(hk:(lk t n kU).key<k∨(lk t n kU).key=k∧(lk t n kU).mu ds<u)(h:(lk t n kU).rel ds d):(under t k u).pre n ds∧(under t k u).val n ds=d:=
 ⟨⟨hk,d,h⟩,hD _ _ _ (jP ⟨d,h⟩) h⟩
def okf (hD:um (lk t n kU).relF)(hk:(lk t n kU).key<k)(h:(lk t n kU).relF d ds v s):(under t k u).fp n d ds∧(under t k u).fv n d ds=v∧(under t k u).fs n d ds=s:=by
 refine⟨⟨.inl hk,v,s,h⟩, ?_, ?_⟩
 ·obtain⟨s',h'⟩:=jP (r:=fun v=>∃s,(lk t n kU).relF d ds v s) ⟨v,s,h⟩;exact(hD _ _ _ _ _ _ h' h).1
 ·obtain⟨v',h'⟩:=jP (r:=fun s=>∃v,(lk t n kU).relF d ds v s) ⟨s,v,h⟩;exact(hD _ _ _ _ _ _ h' h).2
def rN (hk:(lk t n kU).key<k∨(lk t n kU).key=k∧(lk t n kU).muE ds st<u)(h:(lk t n kU).tr ds st K):(under t k u).tr n ds st K:=⟨hk,h⟩
end
section
variable [cz] {P:Program} {ν:List (Nat×Nat)} {b9:List Nat} {Γ:Ctx} {t:List (Nat×pK)} {fid n key:Nat}
def Df (P:Program)(ν:List (Nat×Nat))(b9:List Nat)(Γ:Ctx)(fid:Nat)(ds:List D)(d:D):Prop:=Ok P ν b9 Γ→∀(x:X)(args:Array Value),args.size=ds.length→(∀i,i<ds.length→RD ν x (args.getD i undef) (ds.getD i .any))→aT ds=true→
  (∀b,x.I b→b<x.w.heap.size)→cz.gd x→iq P x (fun v x'=>lJ x x'∧RD ν x' v d) ((callFunc fid args).run P x.w)
def xb (P:Program)(ν:List (Nat×Nat))(b9:List Nat)(Γ:Ctx)(fid:Nat)(d:D)(ds:List D)(vd new:D):Prop:=Ok P ν b9 Γ→∀(x:X)(f:Nat→Option bo)(args:Array Value)(l k:Nat),args.size=ds.length+1→
   RD ν x (args.getD 0 undef) (.ptr l k 0 0)→(∀i,i<ds.length→RD ν x (args.getD (i+1) undef) (ds.getD i .any))→ey ν x f→f l=some (.buf k [d])→d.a7=true→aT ds=true→
   iq P x (fun v x'=>Step x x'∧RD ν x' v vd∧ey ν x' (fun l'=>if l'=l then some (.buf k [new])else f l')∧x'.β=x.β) ((callFunc fid args).run P x.w)
def nJ (P:Program)(ν:List (Nat×Nat))(b9:List Nat)(Γ:Ctx)(fid:Nat)(ds:List D)(st:St)(K:D→St→Prop):Prop:=Ok P ν b9 Γ→∀(x:X)(args:Array Value),args.size=ds.length→(∀i,i<ds.length→RD ν x (args.getD i undef) (ds.getD i .any))→ey ν x (look st.m)→er st x→
  iq P x (fun v x'=>∃d st',K d st'∧Step x x'∧RD ν x' v d∧ey ν x' (look st'.m)∧er st' x') ((callFunc fid args).run P x.w)
structure MR (P:Program)(ν:List (Nat×Nat))(b9:List Nat)(t:List (Nat×pK))(fid n:Nat):Prop where
 p:∀ds d,(lk t n kU).rel ds d→Df P ν b9 (under t (lk t n kU).key ((lk t n kU).mu ds)) fid ds d
 f:um (lk t n kU).relF∧∀d ds v s,(lk t n kU).relF d ds v s→xb P ν b9 (under t (lk t n kU).key ((lk t n kU).mu (d::ds))) fid d ds v s
 g:∀ds st K,(lk t n kU).tr ds st K→nJ P ν b9 (under t (lk t n kU).key ((lk t n kU).muE ds st)) fid ds st K
def okA (hsm:∀fid n,dW ν fid=some n→n<1000000)(hB:∀t,b9.contains (1000000000+t)=true→t=cz.tB)(h:∀fid n,dW ν fid=some n→MR P ν b9 t fid n):Ok P ν b9 (wL t):=by
 refine P2 (HK t) hsm hB (fun fid n hn ds hp hok=>(h fid n hn).p ds _ (jP hp) hok) (fun fid n hn _ d ds hp hok=>?_) (fun fid n hn ds st K htr hok=>(h fid n hn).g ds st K htr hok);obtain⟨v,s,hr⟩:=hp;obtain⟨hD,hf⟩:=(h fid n hn).f;have h2:(wL t).fv n d ds=v∧(wL t).fs n d ds=s:=by
  constructor
  ·obtain⟨s',h'⟩:=jP (r:=fun v=>∃s,(lk t n kU).relF d ds v s) ⟨v,s,hr⟩;exact(hD _ _ _ _ _ _ h' hr).1
  ·obtain⟨v',h'⟩:=jP (r:=fun s=>∃v,(lk t n kU).relF d ds v s) ⟨s,v,hr⟩;exact(hD _ _ _ _ _ _ h' hr).2
 rw[h2.1,h2.2];exact hf d ds v s hr hok
def DV {Γ:D→List D→Ctx}:um P1∧∀d ds v s,P1 d ds v s→xb P ν b9 (Γ d ds) fid d ds v s:=⟨fun _ _ _ _ _ _ h=>h.elim,fun _ _ _ _ h=>h.elim⟩
def bw {A:RT→Prop}{mu:List D→Nat}(hr:lk t n kU=rP key A mu)(h:A fun ds d=>Df P ν b9 (under t key (mu ds)) fid ds d):MR P ν b9 t fid n:=by
 refine⟨?_, ?_, ?_⟩<;>rw[hr]
 ·exact fun ds d hd=>hd (fun ds d=>Df P ν b9 (under t key (mu ds)) fid ds d) h
 ·exact DV
 ·exact fun _ _ _ h=>h.elim
def Mk {A:FT→Prop}(hr:lk t n kU=rF key A)(hD:um (mF A))(h:A fun d ds v s=>xb P ν b9 (under t key 0) fid d ds v s):MR P ν b9 t fid n:=by
 refine⟨?_, ?_, ?_⟩<;>rw[hr]
 ·exact fun _ _ h=>h.elim
 ·exact⟨hD,fun d ds v s hd=>hd _ h⟩
 ·exact fun _ _ _ h=>h.elim
def xx {Γ:List D→St→Ctx}:zM fun ds st K=>nJ P ν b9 (Γ ds st) fid ds st K:=fun ds st K K' h hg hok x args hl ha hs hf=>(hg hok x args hl ha hs hf).mono fun v x' ⟨d,st',h1,h2⟩=>⟨d,st',h _ _ h1,h2⟩
def lr {C:Ctx→Prop}{mu:List D→St→Nat}(hr:lk t n kU=rG key C mu)(h:C (Ia fun ds st K=>nJ P ν b9 (under t key (mu ds st)) fid ds st K)):MR P ν b9 t fid n:=by
 refine⟨?_, ?_, ?_⟩<;>rw[hr]
 ·exact fun _ _ h=>h.elim
 ·exact DV
 ·exact fun ds st K hd=>hd (fun ds st K=>nJ P ν b9 (under t key (mu ds st)) fid ds st K) xx h
def P3 {A:FT→Prop}{C:Ctx→Prop}(hr:lk t n kU=rFG key A C)(hD:um (mF A))(h:A fun d ds v s=>xb P ν b9 (under t key 0) fid d ds v s)(h2:C (Ia fun ds st K=>nJ P ν b9 (under t key 0) fid ds st K)):MR P ν b9 t fid n:=by
 refine⟨?_, ?_, ?_⟩<;>rw[hr]
 ·exact fun _ _ h=>h.elim
 ·exact⟨hD,fun d ds v s hd=>hd _ h⟩
 ·exact fun ds st K hd=>hd _ xx h2
def FG (P:Program)(ν:List (Nat×Nat))(b9:List Nat)(fid:Nat)(af:aB):Prop:=(P.funcs[fid]?).map (fun f=>(compile P ν b9 f,f.name== "runtime.NumGoroutine"))=some (some af,false)
def FG.split {af:aB}(h:FG P ν b9 fid af):∃fn,P.funcs[fid]? =some fn∧compile P ν b9 fn=some af∧(fn.name== "runtime.NumGoroutine")=false:=by
 unfold FG at h;cases hf:P.funcs[fid]? with
 |none=>rw[hf]at h;cases h
 |some fn=>
  rw[hf]at h;have h2:=Option.some.inj h;exact⟨fn,rfl,congrArg Prod.fst h2,congrArg Prod.snd h2⟩
def aR {af:aB}{ds:List D}{d:D}(hmix:P.follows .mixedOrders=true)(hC:FG P ν b9 fid af)(h1:ds.length=af.np)(h2:bz (Γ.at 0) af.body (LI af d) (ed af ds) ⟨0,[]⟩):Df P ν b9 Γ fid ds d:=by
 intro hok x args hl hargs hnl himm hgd;obtain⟨fn,hf,hc,hn⟩:=hC.split;obtain⟨body,c1,_⟩:=gL hc;exact .inr ⟨fid,args,fZ hf hn (by rw[c1];rfl) args x.w,Ja hok hmix hf hc hl hargs hnl himm hgd h1 h2⟩
def An {af:aB}{d:D}{ds:List D}{vd new:D}(k0:Nat)(hmix:P.follows .mixedOrders=true)(hC:FG P ν b9 fid af)(h1:ds.length+1=af.np)(hk:d.cells.length=k0)
  (h2:bz (Γ.at 1) af.body (Ek af k0 vd new) (ed af (.ptr 0 k0 0 0::ds)) ⟨1,[(0,.buf k0 [d])]⟩):xb P ν b9 Γ fid d ds vd new:=by
 intro hok x f args l k hl h0 hargs hs hfl hd hnl;obtain⟨fn,hf,hc,hn⟩:=hC.split;obtain⟨body,c1,_⟩:=gL hc;have hkk:k=k0:=by
  generalize args.getD 0 undef=v0 at h0;cases h0 with
  |ptr _ _ _ _ b base tot at_ hβ hat=>
   obtain⟨p1,p2,c,T,fr,p3,p4,p5,p6⟩:=(hs.own l _ b base tot hfl hβ).2;have:=(p6 0 (by simp)).1;simp only[List.getD_cons_zero]at this;omega
 subst hkk;exact .inr ⟨fid,args,fZ hf hn (by rw[c1];rfl) args x.w,I8 hok hmix hf hc hl h0 hargs hs hfl hd hnl h1 h2⟩
def Jc {k l:Nat}{d:D}{ds:List D}{vd new:D}{st:St}{K:D→St→Prop}(h:xb P ν b9 Γ fid d ds vd new)(hl:look st.m l=some (.buf k [d]))(hd:d.a7=true)(hnl:aT ds=true)(hK:K vd ⟨st.nx,cE st.m l (.buf k [new])⟩):
  nJ P ν b9 Γ fid (.ptr l k 0 0::ds) st K:=by
 intro hok x args hl2 hargs hs hf;refine(h hok x (look st.m) args l k (by simpa using hl2) (hargs 0 (by simp)) (fun i hi=>hargs (i+1) (by simpa using hi)) hs hl hd hnl).mono ?_;rintro v x' ⟨h1,h2,h3,h4⟩;have e:(fun l'=>if l'=l then some (.buf k [new])else look st.m l')=look (cE st.m l (.buf k [new])):=by
  funext l';rw[bP]
 refine⟨vd,_,hK,h1,h2,e▸h3,fun l' hl'=>by rw[h4];exact hf.β l' hl',fun l' hl'=>?_⟩;rw[bP]at hl';split at hl'
 ·rename_i e;subst e;exact hf.m _ (by rw[hl];simp)
 ·exact hf.m _ hl'
def xu {af:aB}{ds:List D}{st:St}{K:D→St→Prop}{σi:List (Nat×Nat)}{q:Nat}{m0:List (Nat×bo)}{cs:List D}{Q:D→List (Nat×bo)→Prop}(hmono:∀q,(Γ.at q).a8)(hmix:P.follows .mixedOrders=true)(hC:FG P ν b9 fid af)
  (h1:cs.length=ds.length) (h2:∀i,i<ds.length→Iq 0 σi (ds.getD i .any) (cs.getD i .any)) (h3:cs.length=af.np)
  (h4:fG 0 q σi=true) (h5:∀l i,(l,i)∈σi→look st.m l≠none) (h6:∀i b,look m0 i=some b→∃l b',(l,i)∈σi∧look st.m l=some b'∧pJ 0 σi b' b)
  (h7:bz (Γ.at q) af.body (jn af Q) (ed af cs) ⟨q,m0⟩) (h8:∀d m1,Q d m1→∃(σo:List (Nat×Nat)) (q1:Nat) (st':St) (vd':D),Fr σi σo q q1 m0 m1 st st'∧Iq 0 σo d vd'∧K vd' st'):nJ P ν b9 Γ fid ds st K:=by
 intro hok x args hl hargs hs hfr;obtain⟨fn,hf,hc,hn⟩:=hC.split;obtain⟨body,c1,_⟩:=gL hc;refine .inr ⟨fid,args,fZ hf hn (by rw[c1];rfl) args x.w, ?_⟩;refine Calls.mono (I9 (K:=K) hok hmix hf hc hl hargs hs hfr h1 h2 h3 h4 h5 h6 (fe (hmono q) _ _ _ _ _ (fun e env st1 h=>?_) h7)) fun e w' he=>?_
 ·obtain⟨g1,g2,m1,g3,g4⟩:=h;obtain⟨σo,q1,st',vd',k1,k2,k3⟩:=h8 _ _ g4;exact⟨g1,g2,σo,q1,m1,st',vd',k1,k2,k3,g3⟩
 ·match e,he with
  | .returned v,he=>
   obtain⟨x',d,st',g0,g1,g2,g3,g4,g5⟩:=he;exact⟨x',g1,d,st',g0,g2,g3,g4,g5⟩
end
end Go.Abs
end
section
namespace Go.Abs
structure bm where
 name:ai
 range:ai
 feats:List ai
 bare:Bool
 deriving Inhabited,DecidableEq
def bm.D (x:bm):D:=.agg [.str x.name,.str x.range,.sl 1 (x.feats.map D.str),.bool x.bare]
structure aP where
 any:List bm
 when':ai
 option:ai
 deriving Inhabited,DecidableEq
def aP.D (x:aP):D:=.agg [.sl 4 (x.any.map bm.D),.str x.when',.str x.option]
structure ec where
 name:ai
 range:ai
 when':ai
 deriving Inhabited,DecidableEq
def ec.D (x:ec):D:=.agg [.str x.name,.str x.range,.str x.when']
structure bd where
 name:ai
 of:List ai
 deriving Inhabited,DecidableEq
def bd.D (x:bd):D:=.agg [.str x.name,.sl 1 (x.of.map D.str)]
structure Rec where
 name:ai
 v:b7
 needs:List aP
 bars:List ec
 feats:List bd
 deriving Inhabited,DecidableEq
def Rec.D (x:Rec):D:=.agg [.str x.name,.int .i64 x.v.major,.int .i64 x.v.minor,.int .i64 x.v.patch,.str x.v.pre,.str x.v.build,.sl 3 (x.needs.map aP.D),.sl 3 (x.bars.map ec.D),.sl 2 (x.feats.map bd.D)]
structure cj where
 op:Int
 parts:Int
 v:b7
 deriving Inhabited,DecidableEq
def cj.D (x:cj):D:=.agg [.int .i64 x.op,.int .i64 x.parts,.int .i64 x.v.major,.int .i64 x.v.minor,.int .i64 x.v.patch,.str x.v.pre,.str x.v.build]
structure Nd where
 op:Int
 a:Int
 b:Int
 key:Int
 text:ai
 deriving Inhabited,DecidableEq
def Nd.D (x:Nd):D:=.agg [.int .i64 x.op,.int .i64 x.a,.int .i64 x.b,.int .i64 x.key,.str x.text]
def ec.eq (a b:ec):gp (ec.D a).cells (ec.D b).cells=decide (a=b):=by
 obtain⟨a1,a2,a3⟩:=a;obtain⟨b1,b2,b3⟩:=b;simp only[ec.D,D.cells,gp,qU,ec.mk.injEq,Bool.and_true];simp only[Bool.decide_and]
def bm.same {a b:bm}(e1:a.name=b.name)(e2:a.range=b.range)(e3:a.bare=b.bare):decide (a=b)=decide (a.feats=b.feats):=by
 obtain⟨a1,a2,a3,a4⟩:=a;obtain⟨b1,b2,b3,b4⟩:=b;simp only at e1 e2 e3;subst e1;subst e2;subst e3;simp
def rising (l:List ai):Bool:=b8 (fun i=>Op.bytesLess l[i-1]! l[i]!) 1 l.length
def cg (s:ai):Int×ai×ai:=
 if bV s=true then(1,s,[])
 else if s.length>0∧at8 s 0=63∧bV (s.drop 1)=true then(2,s.drop 1,[])
 else if(ah s 47).length=2∧eY (ah s 47)[0]! =true∧bV (ah s 47)[1]! =true then(3,(ah s 47)[0]!,(ah s 47)[1]!)
 else(0,[],[])
def findF (l:List bd)(nm:ai)(i:Nat):Int:=match(l.drop i).findIdx? (fun x=>decide (x.name=nm))with
 |some k=>((i+k:Nat):Int)
 |none=>-1
def Ai {l:List bd}{nm:ai}{i:Nat}(h:i<l.length)(he:l[i]!.name=nm):findF l nm i=(i:Nat):=by
 unfold findF;rw[List.drop_eq_getElem_cons h,List.findIdx?_cons];have:l[i].name=nm:=by simpa[h]using he
 simp[this]
def Aj {l:List bd}{nm:ai}{i:Nat}(h:i<l.length)(he:¬l[i]!.name=nm):findF l nm i=findF l nm (i+1):=by
 unfold findF;have:¬l[i].name=nm:=by simpa[h]using he
 rw[List.drop_eq_getElem_cons h,List.findIdx?_cons];simp only[this,decide_false,Bool.false_eq_true,if_false];cases(l.drop (i+1)).findIdx? (fun x=>decide (x.name=nm))with
 |none=>rfl
 |some k=>simp only[Option.map_some];congr 1;omega
def xr {l:List bd}{nm:ai}{i:Nat}(h:l.length≤i):findF l nm i=-1:=by
 unfold findF;rw[List.drop_eq_nil_of_le h];rfl
def PS:ai:=[100,101,102,97,117,108,116]
def L2 (l:List bd)(nm:ai):Bool:=decide (nm=PS) ||decide (0≤findF l nm 0)
def jI (l:List bd)(s:ai):Bool:=!(decide ((cg s).1=0) ||(decide ((cg s).1=1)&& !L2 l (cg s).2.1))
def jJ (l:List bd)(of:List ai):Bool:=decide (of.length≤6)&&rising of&&b8 (fun i=>jI l of[i]!) 0 of.length
def iv (l:List bd)(i:Nat):Bool:=bV l[i]!.name&& !(decide (0<i)&& !Op.bytesLess l[i-1]!.name l[i]!.name)&&jJ l l[i]!.of
def fo (l:List bd):Bool:=decide (l.length≤8)&&b8 (iv l) 0 l.length
def bd.sm (x:bd):Prop:=x.name.length≤1048576∧x.of.length≤1048576∧∀t∈x.of,t.length≤1048576
def nr (l:List bd):Prop:=∀x∈l,x.sm
def pr (b:ai):∀(l:List ai)(i:Nat),(aM b (l.take i)).length≤(aM b l).length
 |[],i=>by simp
 |[t],0=>by simp[aM]
 |[t],i+1=>by simp
 |t::u::r,0=>by simp[aM]
 |t::u::r,1=>by simp[aM]
 |t::u::r,i+2=>by
  have:=pr b (u::r) (i+1);simp only[List.take_succ_cons,aM,List.length_append]at this⊢;omega
def qo (b t:ai):∀(l:List ai),l≠[]→aM b (l++[t])=aM b l++b++t
 |[],h=>absurd rfl h
 |[u],_=>by simp[aM]
 |u::v::r,_=>by
  have:=qo b t (v::r) (by simp);simp only[List.cons_append,aM]at this⊢;rw[this];simp
def nw (b:ai)(l:List ai)(i:Nat)(h:i<l.length):aM b (l.take (i+1))=(if 0<i then aM b (l.take i)++b else [])++l[i]! :=by
 have e:l.take (i+1)=l.take i++[l[i]!]:=by
  rw[List.take_add_one,List.getElem?_eq_getElem h];simp[h]
 rw[e];by_cases h0:0<i
 ·rw[if_pos h0,qo _ _ _ (by intro hn;have:=congrArg List.length hn;simp only[List.length_take,List.length_nil]at this;omega)]
 ·obtain rfl:i=0:=by omega
  simp[aM]
end Go.Abs
namespace Go.Abs
def Dz {s:ai}(h0:bV s=true):cg s=(1,s,[]):=by simp only[cg,if_pos h0]
def DA {s:ai}(h0:bV s=false)(h:(0<(s.length:Int)∧at8 s 0=63)∧bV (s.drop 1)=true):cg s=(2,s.drop 1,[]):=by
 simp only[cg,h0,Bool.false_eq_true,if_false];rw[if_pos ⟨by omega,h.1.2,h.2⟩]
def Ap {s:ai}(h:(¬0<(s.length:Int)∨¬at8 s 0=63)∨bV (s.drop 1)=false):¬(s.length>0∧at8 s 0=63∧bV (s.drop 1)=true):=by
 rintro⟨h1,h2,h3⟩;rcases h with(h|h)|h
 ·omega
 ·exact h h2
 ·rw[h3]at h;cases h
def DB {s:ai}(h0:bV s=false)(h:(¬0<(s.length:Int)∨¬at8 s 0=63)∨bV (s.drop 1)=false)(h2:(((ah s 47).length:Int)=2∧eY (ah s 47)[0]! =true)∧bV (ah s 47)[1]! =true):cg s=((3:Int),(ah s 47)[0]!,(ah s 47)[1]!):=by
 simp only[cg,h0,Bool.false_eq_true,if_false];rw[if_neg (Ap h),if_pos ⟨by omega,h2.1.2,h2.2⟩]
def Dy {s:ai}(h0:bV s=false)(h:(¬0<(s.length:Int)∨¬at8 s 0=63)∨bV (s.drop 1)=false)(h2:(¬((ah s 47).length:Int)=2∨eY (ah s 47)[0]! =false)∨bV (ah s 47)[1]! =false):cg s=(0,[],[]):=by
 simp only[cg,h0,Bool.false_eq_true,if_false];rw[if_neg (Ap h),if_neg];rintro⟨g1,g2,g3⟩;rcases h2 with(h2|h2)|h2
 ·omega
 ·rw[g2]at h2;cases h2
 ·rw[g3]at h2;cases h2
end Go.Abs
end
namespace Go.Abs
def yA (s:ai)(i:Nat)(h:i<s.length):at8 s i=((s[i]'h).toNat:Int):=by simp[at8,h]
def zU (p:Int→Bool)(s:ai):b8 (fun i=>p (at8 s i)) 0 s.length=true↔∀c∈s,p c.toNat=true:=by
 rw[dS];constructor
 ·intro h c hc;obtain⟨i,hi,rfl⟩:=List.getElem_of_mem hc;have:=h i (by omega) hi
  rwa [yA s i hi]at this
 ·intro h j _ hj;rw[yA s j hj];exact h _ (List.getElem_mem hj)
def oS {b:Int}:∀{s cur:ai},(∀c∈s,(c.toNat:Int)≠b)→bK b s cur=[cur++s]
 |[],cur,_=>by simp[bK]
 |c::r,cur,h=>by
  simp only[bK];rw[if_neg (h c (.head _)),oS (fun d hd=>h d (.tail _ hd))];simp
def wc {b:Int}{x:UInt8}(hx:(x.toNat:Int)=b)(r:ai):∀{w cur:ai},(∀c∈w,(c.toNat:Int)≠b)→bK b (w++x::r) cur=(cur++w)::bK b r []
 |[],cur,_=>by simp[bK,hx]
 |c::w,cur,h=>by
  simp only[List.cons_append,bK];rw[if_neg (h c (.head _)),wc hx r (fun d hd=>h d (.tail _ hd))];simp
def tq {b:Int}{x:UInt8}(hx:(x.toNat:Int)=b):∀{ws:List ai},ws≠[]→(∀w∈ws,∀c∈w,(c.toNat:Int)≠b)→ah (aM [x] ws) b=ws
 |[],h,_=>absurd rfl h
 |[w],_,h=>by
  show bK b w []=[w];rw[oS (h w (.head _))];rfl
 |w::u::r,_,h=>by
  have ih:=tq (ws:=u::r) hx (by simp) (fun v hv=>h v (.tail _ hv));show bK b (w++[x]++aM [x] (u::r)) []=_;rw[List.append_assoc,List.singleton_append,wc hx _ (h w (.head _))];rw[show bK b (aM [x] (u::r)) []=u::r from ih];rfl
def oA {b:Int}{x:UInt8}(hx:(x.toNat:Int)=b):∀(s cur:ai),aM [x] (bK b s cur)=cur++s
 |[],cur=>by simp[bK,aM]
 |c::r,cur=>by
  simp only[bK];split
  ·rename_i h;rw[fu _ _ _ (by intro h;have:=dR b r [];rw[h]at this;simp at this),oA hx r []];have:c=x:=UInt8.toNat_inj.1 (by omega);simp[this]
  ·rw[oA hx r];simp
def iI {b:Int}{x:UInt8}(hx:(x.toNat:Int)=b)(s:ai):aM [x] (ah s b)=s:=by
 unfold ah;rw[oA hx];rfl
def Ad {n:Nat}(h:n<10):aZ (dg n).toNat=true:=by
 have:=Gr h;simp only[aZ,Bool.and_eq_true,decide_eq_true_eq];omega
def Ac {Q:Nat→Prop}(h1:∀n,n<10→Q n)(h2:∀n,9<n→Q (n/10)→Q n)(n:Nat):Q n:=by
 induction n using Nat.strongRecOn with
 |ind n ih=>
  by_cases h:n<10
  ·exact h1 n h
  ·exact h2 n (by omega) (ih _ (by omega))
def og (n:Nat):∀c∈cW n,aZ c.toNat=true:=by
 refine Ac (Q:=fun n=>∀c∈cW n,aZ c.toNat=true) (fun n h c hc=>?_) (fun n h ih c hc=>?_) n
 ·rw[nn h]at hc;obtain rfl:=List.mem_singleton.1 hc;exact Ad h
 ·rw[nk h]at hc;rcases List.mem_append.1 hc with hc|hc
  ·exact ih c hc
  ·obtain rfl:=List.mem_singleton.1 hc;exact Ad (by omega)
def Cl (s:ai)(c:UInt8):cJ (s++[c])=cJ s*10+(c.toNat-48):=by
 simp[cJ,List.foldl_append]
def I4 (n:Nat):cW n≠[]:=by
 refine Ac (Q:=fun n=>cW n≠[]) (fun n h=>?_) (fun n h ih=>?_) n
 ·rw[nn h];simp
 ·rw[nk h];simp
def pw (x:UInt8):∀(ws:List ai)(c:UInt8),c∈aM [x] ws→c=x∨∃w∈ws,c∈w
 |[],c,h=>by simp[aM]at h
 |[w],c,h=>.inr ⟨w,.head _,h⟩
 |w::u::r,c,h=>by
  rw[fu _ _ _ (by simp)]at h;simp only[List.mem_append,List.mem_singleton]at h;rcases h with(h|h)|h
  ·exact .inr ⟨w,.head _,h⟩
  ·exact .inl h
  ·rcases pw x (u::r) c h with h|⟨v,hv,hc⟩
   ·exact .inl h
   ·exact .inr ⟨v,.tail _ hv,hc⟩
def H6 {s:ai}{p:Bool}(h:oT s p=true){c:UInt8}(hc:c∈s):lG c.toNat=true∨c=46:=by
 simp only[oT,Bool.or_eq_true,decide_eq_true_eq,kW,Bool.and_eq_true,dS]at h;rcases h with rfl|⟨_,h⟩
 ·cases hc
 ·rw[←iI (b:=46) (x:=46) rfl s]at hc;rcases pw 46 _ c hc with rfl|⟨w,hw,hcw⟩
  ·exact .inr rfl
  ·left;obtain⟨i,hi,rfl⟩:=List.getElem_of_mem hw;have:=h i (by omega) hi;rw[show(ah s 46)[i]! =(ah s 46)[i]by simp[hi]]at this;simp only[fL,nZ,Bool.and_eq_true]at this;exact(zU lG _).1 this.1.2 c hcw
def Gu {c:UInt8}(h:aZ c.toNat=true):c.toNat≠46∧c.toNat≠45∧c.toNat≠43∧c.toNat≠32∧c.toNat≠10:=by
 simp only[aZ,Bool.and_eq_true,decide_eq_true_eq]at h;omega
def hv (c:UInt8):Nat:=if aZ c.toNat=true then c.toNat-48 else c.toNat-87
def tz (s:ai):Nat:=s.foldl (fun n c=>n*16+hv c) 0
def J2 {s:ai}(h:bV s=true){c:UInt8}(hc:c∈s):wv c.toNat=true:=by
 simp only[bV,Bool.and_eq_true]at h;exact(zU wv s).1 h.2 c hc
def rR.wf (x:rR):Prop:=0≤x.sum∧x.sum<18446744073709551616
def zH.wf (l:zH):Prop:=∀x∈l.lines,x.wf
end Go.Abs
section
namespace Go.Abs
def tt {b:Int}{x:UInt8}(hx:(x.toNat:Int)=b):∀(s cur:ai),bK b s cur=match s.findIdx? (fun c=>c==x)with
  |some k=>(cur++s.take k)::bK b (s.drop (k+1)) []
  |none=>[cur++s]
 |[],cur=>by simp[bK]
 |c::r,cur=>by
  simp only[bK,List.findIdx?_cons];by_cases h:c=x
  ·subst h;rw[if_pos hx];simp
  ·have h1:¬(c.toNat:Int)=b:=fun e=>h (UInt8.toNat_inj.1 (by omega))
   have h2:(c==x)=false:=by simpa using h
   rw[if_neg h1,h2,tt hx r (cur++[c])];cases r.findIdx? (fun c=>c==x)with
   |none=>simp
   |some k=>simp
def yg (s:ai)(x:UInt8):ah s x.toNat=if(fg s x).2.2=true then(fg s x).1::ah (fg s x).2.1 x.toNat else [s]:=by
 unfold ah fg;rw[tt (x:=x) rfl];cases s.findIdx? (fun c=>c==x)with
 |none=>simp
 |some k=>simp
def xZ {s:ai}:(((fg s 47).2.2=true∧eY (fg s 47).1=true)∧bV (fg s 47).2.1=true)↔(((ah s 47).length:Int)=2∧eY (ah s 47)[0]! =true)∧bV (ah s 47)[1]! =true:=by
 have h:=yg s 47;rw[show(((47:UInt8).toNat:Nat):Int)=47 from rfl]at h;by_cases hc:(fg s 47).2.2=true
 ·rw[if_pos hc]at h;rw[h];have hj:=iI (b:=47) (x:=47) rfl (fg s 47).2.1;constructor
  ·rintro⟨⟨_,h1⟩,h2⟩;have h3:ah (fg s 47).2.1 47=[(fg s 47).2.1]:=by
    show bK 47 _ []=_;rw[oS (fun c hc=>?_)]
    ·rfl
    ·have:=J2 h2 hc;simp only[wv,gu,aZ,Bool.or_eq_true,Bool.and_eq_true,decide_eq_true_eq]at this;omega
   rw[h3];exact⟨⟨rfl,h1⟩,h2⟩
  ·rintro⟨⟨h1,h2⟩,h3⟩;refine⟨⟨hc,h2⟩, ?_⟩;generalize ah (fg s 47).2.1 47=q at hj h1 h3
   match q,h1 with
   |[y],_=>
    have:y=(fg s 47).2.1:=hj;rw[←this];exact h3
   |[],h1=>simp at h1
   |_::_::_,h1=>simp at h1;omega
 ·rw[if_neg hc]at h;rw[h];constructor
  ·rintro⟨⟨h1,_⟩,_⟩;exact absurd h1 hc
  ·rintro⟨⟨h1,_⟩,_⟩;simp at h1
def Aw {s:ai}:(dN s [63]).2=true↔0<(s.length:Int)∧at8 s 0=63:=by
 match s with
 |[]=>simp[dN,List.isPrefixOf]
 |c::r=>
  have e:((c.toNat:Int)=63)↔c=63:=⟨fun h=>UInt8.toNat_inj.1 (by have:(63:UInt8).toNat=63:=rfl;omega),fun h=>by subst h;rfl⟩;simp only[dN,List.isPrefixOf,Bool.and_true,at8,List.getD_cons_zero,List.length_cons];by_cases h:c=63
  ·subst h;simp
  ·have:¬(c.toNat:Int)=63:=fun h2=>h (e.1 h2)
   have h3:((63:UInt8)==c)=false:=by simpa using fun h2=>h h2.symm
   simp[h3,this]
def xE {s:ai}(h:(dN s [63]).2=true):(dN s [63]).1=s.drop 1:=by
 unfold dN at h⊢;split at h
 ·rename_i hp;rw[if_pos hp];rfl
 ·cases h
def Jo {s:ai}(h0:bV s=false)(h:(dN s [63]).2=true∧bV (dN s [63]).1=true):cg s=(2,(dN s [63]).1,[]):=by
 rw[xE h.1]at h⊢;exact DA h0 ⟨Aw.1 h.1,h.2⟩
def DC {s:ai}(h:(dN s [63]).2=false∨bV (dN s [63]).1=false):(¬0<(s.length:Int)∨¬at8 s 0=63)∨bV (s.drop 1)=false:=by
 by_cases hp:(dN s [63]).2=true
 ·rw[xE hp]at h;rcases h with h|h
  ·rw[hp]at h;cases h
  ·exact .inr h
 ·have:=fun h2=>hp (Aw.2 h2)
  by_cases h1:0<(s.length:Int)
  ·exact .inl (.inr fun h2=>this ⟨h1,h2⟩)
  ·exact .inl (.inl h1)
def Jp {s:ai}(h0:bV s=false)(h:(dN s [63]).2=false∨bV (dN s [63]).1=false)(h2:((fg s 47).2.2=true∧eY (fg s 47).1=true)∧bV (fg s 47).2.1=true):cg s=((3:Int),(fg s 47).1,(fg s 47).2.1):=by
 have h3:=xZ.1 h2;rw[DB h0 (DC h) h3];have hs:=yg s 47;rw[show(((47:UInt8).toNat:Nat):Int)=47 from rfl,if_pos h2.1.1]at hs;have hj:=iI (b:=47) (x:=47) rfl (fg s 47).2.1;have hl:=h3.1.1;rw[hs]at hl⊢;generalize ah (fg s 47).2.1 47=q at hj hl
 match q,hl with
 |[y],_=>
  have:y=(fg s 47).2.1:=hj;rw[←this];rfl
 |[],h1=>simp at h1
 |_::_::_,h1=>simp at h1;omega
def Jn {s:ai}(h0:bV s=false)(h:(dN s [63]).2=false∨bV (dN s [63]).1=false)(h2:((fg s 47).2.2=false∨eY (fg s 47).1=false)∨bV (fg s 47).2.1=false):cg s=(0,[],[]):=by
 refine Dy h0 (DC h) ?_;have hn:¬((((ah s 47).length:Int)=2∧eY (ah s 47)[0]! =true)∧bV (ah s 47)[1]! =true):=fun h3=>by
  obtain⟨⟨g1,g2⟩,g3⟩:=xZ.2 h3;rcases h2 with(h2|h2)|h2
  ·rw[g1]at h2;cases h2
  ·rw[g2]at h2;cases h2
  ·rw[g3]at h2;cases h2
 by_cases k1:((ah s 47).length:Int)=2
 ·by_cases k2:eY (ah s 47)[0]! =true
  ·right;cases k3:bV (ah s 47)[1]! with
   |false=>rfl
   |true=>exact absurd ⟨⟨k1,k2⟩,k3⟩ hn
  ·exact .inl (.inr (by simpa using k2))
 ·exact .inl (.inl k1)
end Go.Abs
namespace Go.Abs
def EE {l:List bd}{i:Nat}(h:(!bV l[i]!.name ||(decide ((0:Int)<(i:Int))&& !Op.bytesLess l[i-1]!.name l[i]!.name) ||decide ((6:Int)<(l[i]!.of.length:Int)) ||!rising l[i]!.of)=false):
  iv l i=b8 (fun j=>jI l l[i]!.of[j]!) 0 l[i]!.of.length:=by
 simp only[Bool.or_eq_false_iff,Bool.not_eq_false',decide_eq_false_iff_not]at h;obtain⟨⟨⟨h1,h2⟩,h3⟩,h4⟩:=h;have e:(decide (0<i)&& !Op.bytesLess l[i-1]!.name l[i]!.name)=false:=by
  rw[show decide (0<i)=decide ((0:Int)<(i:Int))from decide_eq_decide.2 (by omega)];exact h2
 simp only[iv,jJ,h1,e,h4];rw[decide_eq_true (by omega)];rfl
def ED {l:List bd}{i:Nat}(h:(!bV l[i]!.name ||(decide ((0:Int)<(i:Int))&& !Op.bytesLess l[i-1]!.name l[i]!.name) ||decide ((6:Int)<(l[i]!.of.length:Int)) ||!rising l[i]!.of)=true):
  iv l i=false:=by
 have e:decide ((0:Int)<(i:Int))=decide (0<i):=decide_eq_decide.2 (by omega);have e6:decide ((6:Int)<(l[i]!.of.length:Int))=!decide (l[i]!.of.length≤6):=by
  by_cases h6:l[i]!.of.length≤6
  ·rw[decide_eq_true h6,decide_eq_false (by omega)];rfl
  ·rw[decide_eq_false h6,decide_eq_true (by omega)];rfl
 rw[e,e6]at h;simp only[iv,jJ];revert h;generalize bV l[i]!.name=a;generalize (decide (0<i)&& !Op.bytesLess l[i-1]!.name l[i]!.name)=b;generalize decide (l[i]!.of.length≤6)=c;generalize rising l[i]!.of=d;cases a<;>cases b<;>cases c<;>cases d<;>simp
end Go.Abs
end
section
namespace Go.Abs
def cv (op:Int):ai:=if op=1 then [61]else if op=2 then [33,61]else if op=3 then [60]else if op=4 then [60,61]else if op=5 then [62]else if op=6 then [62,61]else if op=7 then [94]else if op=8 then [126]else []
def sI (op:Int):(cv op).length≤2:=by
 unfold cv;repeat' split
 all_goals decide
def nQ (s w:ai):Bool:=decide (w.length≤s.length)&&decide (s.take w.length=w)
def nR (c:cj):Bool:=(decide (0<c.parts) ||decide (c.v.major=0))&&(decide (1<c.parts) ||decide (c.v.minor=0))&&(decide (2<c.parts) ||decide (c.v.patch=0))
def jC (c:cj):Bool:=decide (1≤c.op)&&decide (c.op≤9)&&iF c.v&&decide (c.v.build=[])&&decide ((if c.op=9 then 0 else 1)≤c.parts)&&decide (c.parts≤if c.op=9 then 2 else 3)&&(decide (3≤c.parts) ||decide (c.v.pre=[]))&&nR c
def cj.sm (c:cj):Prop:=c.v.sm
def z7 {c:cj}(h:(decide (c.op<1) ||decide (9<c.op) ||!iF c.v ||!decide (c.v.build=[]))=true):jC c=false:=by
 unfold jC;rw[show decide (c.op<1)=!decide (1≤c.op)by rw[←decide_not];exact decide_eq_decide.2 (by omega),show decide (9<c.op)=!decide (c.op≤9)by rw[←decide_not];exact decide_eq_decide.2 (by omega)]at h;revert h;generalize decide (1≤c.op)=a1;generalize decide (c.op≤9)=a2;generalize iF c.v=a3;generalize decide (c.v.build=[])=a4;cases a1<;>cases a2<;>cases a3<;>cases a4<;>simp
def xl {c:cj}(h:(decide (c.op<1) ||decide (9<c.op) ||!iF c.v ||!decide (c.v.build=[]))=false):1≤c.op∧c.op≤9∧iF c.v=true∧c.v.build=[]:=by
 simp only[Bool.or_eq_false_iff,decide_eq_false_iff_not,Bool.not_eq_false',decide_eq_true_eq]at h;exact⟨by omega,by omega,h.1.2,h.2⟩
end Go.Abs
namespace Go.Abs
def pc {c:cj}(hy:1≤c.op∧c.op≤9∧iF c.v=true∧c.v.build=[]){lo hi:Int}(hlo:(if c.op=9 then 0 else 1)=lo)(hhi:(if c.op=9 then 2 else 3)=hi):
  jC c=(!(decide (c.parts<lo) ||decide (hi<c.parts) ||(decide (c.parts<3)&& !decide (c.v.pre=[])))&&nR c):=by
 obtain⟨h1,h2,h3,h4⟩:=hy;unfold jC;rw[decide_eq_true h1,decide_eq_true h2,h3,decide_eq_true h4,hlo,hhi];rw[show decide (c.parts<lo)=!decide (lo≤c.parts)by rw[←decide_not];exact decide_eq_decide.2 (by omega),show decide (hi<c.parts)=!decide (c.parts≤hi)by rw[←decide_not];exact decide_eq_decide.2 (by omega),show decide (c.parts<3)=!decide (3≤c.parts)by rw[←decide_not];exact decide_eq_decide.2 (by omega)];generalize decide (lo≤c.parts)=a1;generalize decide (c.parts≤hi)=a2;generalize decide (3≤c.parts)=a3;generalize decide (c.v.pre=[])=a4;cases a1<;>cases a2<;>cases a3<;>cases a4<;>simp
end Go.Abs
namespace Go.Abs
def cj.kl (c:cj):List Int:=[c.v.major,c.v.minor,c.v.patch]
def eI (c:cj):Nat→ai
 |0=>[]
 |i+1=>eI c i++(if 0<i then [46]else [])++cW (c.kl[i]!).toNat
def jy (c:cj):ai:=if c.op=9 then(if 0<c.parts then [46]else [])++[42]else if c.v.pre=[]then []else 45::c.v.pre
def j9 (c:cj):ai:=cv c.op++eI c c.parts.toNat++jy c
def cP (c:cj):ai:=if jC c=true then j9 c else []
def oF {c:cj}(h:iF c.v=true)(i:Nat):0≤c.kl[i]! ∧c.kl[i]! ≤9999:=by
 simp only[iF,lM,Bool.and_eq_true,decide_eq_true_eq]at h
 match i with
 |0=>exact h.1.1.1.1
 |1=>exact h.1.1.1.2
 |2=>exact h.1.1.2
 |k+3=>exact(by simp[cj.kl]:0≤c.kl[k+3]! ∧c.kl[k+3]! ≤9999)
def pB {c:cj}(h:iF c.v=true):∀i,(eI c i).length≤5*i
 |0=>by simp[eI]
 |i+1=>by
  have:=pB h i;have hn:=oF h i;have:=dT 4 (c.kl[i]!).toNat (by omega) (by omega);simp only[eI,List.length_append];split
  ·simp only[List.length_singleton];omega
  ·simp only[List.length_nil];omega
def mN {c:cj}(h:jC c=true):iF c.v=true∧0≤c.parts∧c.parts≤3∧1≤c.op∧c.op≤9:=by
 simp only[jC,Bool.and_eq_true,decide_eq_true_eq]at h;obtain⟨⟨⟨⟨⟨⟨⟨h1,h2⟩,h3⟩,h4⟩,h5⟩,h6⟩,h7⟩,h8⟩:=h;refine⟨h3, ?_, ?_,h1,h2⟩
 ·split at h5<;>omega
 ·split at h6<;>omega
end Go.Abs
namespace Go.Abs
def kq (c:cj):List ai:=(c.kl.map fun n=>cW n.toNat).take c.parts.toNat
def xP (c:cj):∀i,i≤3→aM [46] ((c.kl.map fun n=>cW n.toNat).take i)=eI c i
 |0,_=>by simp[aM,eI]
 |i+1,h=>by
  have hl:i<(c.kl.map fun n=>cW n.toNat).length:=by simp[cj.kl];omega
  have hl2:i<c.kl.length:=by show i<3;omega
  rw[nw _ _ _ hl,xP c i (by omega)];simp only[eI];have e:(c.kl.map fun n=>cW n.toNat)[i]! =cW (c.kl[i]!).toNat:=by simp[hl2]
  rw[e];split
  ·simp
  ·obtain rfl:i=0:=by omega
   simp[eI]
def Bm {c:cj}(h:c.parts≤3):(kq c).length=c.parts.toNat:=by
 simp[kq,cj.kl];omega
def yk {c:cj}(h:c.parts≤3):aM [46] (kq c)=eI c c.parts.toNat:=xP c _ (by omega)
def sN {c:cj}(h0:0≤c.parts)(h:c.parts≤3):aM [46] (kq c++[[42]])=eI c c.parts.toNat++((if 0<c.parts then [46]else [])++[42]):=by
 by_cases hp:0<c.parts
 ·rw[qo _ _ _ (by intro hn;have:=congrArg List.length hn;rw[Bm h]at this;simp only[List.length_nil]at this;omega),yk h,if_pos hp];simp
 ·have:c.parts.toNat=0:=by omega
  rw[if_neg hp,this];have e:kq c=[]:=by simp[kq,this]
  rw[e];rfl
end Go.Abs
namespace Go.Abs
def opsL:List Int:=[2,4,6,1,3,5,7,8]
def nC (s:ai)(i:Nat):Option Int:=(opsL.drop i).find? fun o=>nQ s (cv o)
def eC (s:ai):Int×ai:=match nC s 0 with
 |some o=>(o,s.drop (cv o).length)
 |none=>if 0<s.length∧at8 s (s.length-1)=42 then(9,s)else(7,s)
def DX {s:ai}{i:Nat}(h:i<8)(hb:nQ s (cv opsL[i]!)=true):nC s i=some opsL[i]! :=by
 have hl:i<opsL.length:=h;unfold nC;rw[List.drop_eq_getElem_cons hl,List.find?_cons];rw[show opsL[i]! =opsL[i]by simp[hl]]at hb⊢;rw[hb]
def DY {s:ai}{i:Nat}(h:i<8)(hb:nQ s (cv opsL[i]!)=false):nC s i=nC s (i+1):=by
 have hl:i<opsL.length:=h;unfold nC;rw[List.drop_eq_getElem_cons hl,List.find?_cons];rw[show opsL[i]! =opsL[i]by simp[hl]]at hb;rw[hb]
def vu {s:ai}{i:Nat}(h:8≤i):nC s i=none:=by
 unfold nC;rw[List.drop_eq_nil_of_le h];rfl
def fh (s:ai)(i:Nat):ai×ai:=match(s.drop i).findIdx? (fun c=>c==45)with
 |some k=>(s.take (i+k),s.drop (i+k+1))
 |none=>(s,[])
def D0 {s:ai}{i:Nat}(h:i<s.length)(he:at8 s i=45):fh s i=(s.take i,s.drop (i+1)):=by
 unfold fh;rw[jY s i h,List.findIdx?_cons];have:s.getD i 0=45:=UInt8.toNat_inj.1 (by simp only[at8]at he;show(s.getD i 0).toNat=45;omega);rw[this];rfl
def D1 {s:ai}{i:Nat}(h:i<s.length)(he:¬at8 s i=45):fh s i=fh s (i+1):=by
 unfold fh;rw[jY s i h,List.findIdx?_cons];have:(s.getD i 0==45)=false:=by
  rw[beq_eq_false_iff_ne];intro e;exact he (by simp only[at8,e];rfl)
 rw[this];simp only[Bool.false_eq_true,if_false];cases(s.drop (i+1)).findIdx? (fun c=>c==45)with
 |none=>rfl
 |some k=>simp only[Option.map_some];rw[show i+(k+1)=i+1+k by omega]
def AJ {s:ai}{i:Nat}(h:s.length≤i):fh s i=(s,[]):=by
 unfold fh;rw[List.drop_eq_nil_of_le h];rfl
end Go.Abs
namespace Go.Abs
def dL (l:List ai):Bool:=decide (l.length≤3)&&b8 (fun i=>dQ l[i]!) 0 l.length
def G8 (l:List ai):b7:=⟨if 0<l.length then cT l[0]! else 0,if 1<l.length then cT l[1]! else 0,if 2<l.length then cT l[2]! else 0,[],[]⟩
def tH (l:List ai):b7:=if dL l=true then G8 l else dY
end Go.Abs
namespace Go.Abs
def cZ:cj:=⟨0,0,dY⟩
def xU (op:Int)(l:List ai):List ai:=if op=9 then l.take (l.length-1)else l
def eF (op:Int)(l:List ai)(pre:ai):cj:=⟨op,(l.length:Nat),{G8 l with pre:=pre}⟩
def tg (s:ai)(op:Int)(l:List ai)(pre:ai):Bool:=dL l&& !(decide (cP (eF op l pre)=[]) ||(!decide (cP (eF op l pre)=s)&& !decide (cP (eF op l pre)=94::s)))
def dc (s:ai):Option cj:=
 let o:=eC s
 let p:=fh o.2 0
 let l:=xU o.1 (ah p.1 46)
 if tg s o.1 l p.2=true then some (eF o.1 l p.2)else none
def vY (s:ai):(eC s).2.length≤s.length:=by
 unfold eC;split
 ·simp
 ·split<;>exact Nat.le_refl _
def vB (s:ai):(fh s 0).1.length≤s.length∧(fh s 0).2.length≤s.length:=by
 unfold fh;split<;>simp<;>omega
end Go.Abs
namespace Go.Abs
def cC (s:ai):Int×ai:=match nC s 0 with
 |some o=>(o,s.drop (cv o).length)
 |none=>(9,s)
def dI (s:ai):ai×ai:=fh (cC s).2 0
def dp (s:ai):List ai:=xU (cC s).1 (ah (dI s).1 46)
def ma (s:ai):Prop:=(cC s).1=9→(ah (dI s).1 46)[(ah (dI s).1 46).length-1]! =[42]
instance (s:ai):Decidable (ma s):=by unfold ma;exact inferInstance
def dD (s:ai):cj:=eF (cC s).1 (dp s) (dI s).2
def eQ (s:ai):Option cj:=if ma s∧dL (dp s)=true∧jC (dD s)=true∧cP (dD s)=s then some (dD s)else none
def DW (l:List ai)(i:Nat):b7:=⟨if 0<i then cT l[0]! else 0,if 1<i then cT l[1]! else 0,if 2<i then cT l[2]! else 0,[],[]⟩
def E8 (s:ai):(cC s).2.length≤s.length:=by
 unfold cC;split<;>simp
def ja {s:ai}(h:¬(ma s∧dL (dp s)=true∧jC (dD s)=true∧cP (dD s)=s)):eQ s=none:=by
 unfold eQ;rw[if_neg h]
end Go.Abs
namespace Go.Abs
def jq (s:ai):Option cj:=if(eQ s).isSome=true then eQ s else eQ (94::s)
def Bl (c:cj):bo:=.buf 1 [.str (cW c.v.major.toNat),.str (cW c.v.minor.toNat),.str (cW c.v.patch.toNat)]
def wg (c:cj):[D.str (cW c.v.major.toNat),D.str (cW c.v.minor.toNat),D.str (cW c.v.patch.toNat)].take c.parts.toNat=(kq c).map D.str:=by
 unfold kq cj.kl;rw[List.map_take];rfl
def JZ {c:cj}{m:List (Nat×bo)}{l:Nat}(hl:look m l=some (Bl c)):xV m [.sl 1 [.a]] (.own l 1 0 c.parts.toNat)=.sl 1 ((kq c).map D.str):=by
 show D.sl 1 _=_;simp only[aS,hl,Bl,List.drop_zero,wg,List.map_map];congr 1
def H9 {c:cj}{m:List (Nat×bo)}{l:Nat}(h:c.parts≤3)(hl:look m l=some (Bl c)):Iu m [.sl 1 [.a]] (.own l 1 0 c.parts.toNat):=by
 simp only[Iu,KF,KE];refine⟨by simp[et,hl,Bl];omega, ?_⟩;simp only[aS,hl,Bl,List.drop_zero,wg];intro e he;obtain⟨x,_,rfl⟩:=List.mem_map.1 he;trivial
end Go.Abs
end
namespace Go.Abs
def pd {c:cj}(h:cP c≠[]):jC c=true∧cP c=j9 c:=by
 unfold cP at h⊢;split at h
 ·rename_i hb;exact⟨hb,if_pos hb⟩
 ·exact absurd rfl h
def y0 {s:ai}{op:Int}{l:List ai}{pre:ai}:tg s op l pre=true↔dL l=true∧cP (eF op l pre)≠[]∧(cP (eF op l pre)=s∨cP (eF op l pre)=94::s):=by
 simp only[tg,Bool.and_eq_true,Bool.not_eq_true',Bool.or_eq_false_iff,decide_eq_false_iff_not,Bool.and_eq_false_iff,Bool.not_eq_false',decide_eq_true_eq]
def sy (c:UInt8):Prop:=c≠33∧c≠60∧c≠61∧c≠62∧c≠94∧c≠126
def oo {c:UInt8}(h:aZ c.toNat=true):sy c∧c≠42:=by
 simp only[aZ,Bool.and_eq_true,decide_eq_true_eq]at h;refine⟨⟨?_, ?_, ?_, ?_, ?_, ?_⟩, ?_⟩<;>rintro rfl<;>revert h<;>decide
def AA {k:cj}:∀(i:Nat)(c:UInt8),c∈eI k i→aZ c.toNat=true∨c=46
 |0,c,h=>by simp[eI]at h
 |i+1,c,h=>by
  simp only[eI,List.mem_append]at h;rcases h with(h|h)|h
  ·exact AA i c h
  ·split at h
   ·exact .inr (List.mem_singleton.1 h)
   ·cases h
  ·exact .inl (og _ c h)
def vr (k:cj):∀i,0<i→∃c r,eI k i=c::r∧aZ c.toNat=true
 |0,h=>by omega
 |1,_=>by
  have hd:=og (k.kl[0]!).toNat;have hn:=I4 (k.kl[0]!).toNat;simp only[eI,Nat.lt_irrefl,if_false,List.nil_append];generalize cW (k.kl[0]!).toNat=w at hd hn
  match w,hn with
  |c::r,_=>exact⟨c,r,rfl,hd c (.head _)⟩
 |i+2,_=>by
  obtain⟨c,r,h1,h2⟩:=vr k (i+1) (by omega);refine⟨c,r++(if 0<i+1 then [46]else [])++cW (k.kl[i+1]!).toNat, ?_,h2⟩;show eI k (i+1)++_++_=_;rw[h1];simp
def Ew {c:cj}(h:jC c=true)(h9:c.op≠9):0<c.parts.toNat:=by
 simp only[jC,Bool.and_eq_true,decide_eq_true_eq]at h;have:=h.1.1.1.2;rw[if_neg h9]at this;omega
def E1 {s:ai}{o:Int}(h:nC s 0=some o):1≤o∧o≤8∧∃x t,s=x::t∧¬sy x∧(x=94→o=7):=by
 have hm:=List.mem_of_find?_eq_some h;have hb:=List.find?_some h;simp only[nQ,Bool.and_eq_true,decide_eq_true_eq]at hb;obtain⟨h1,h2⟩:=hb;have hne:s≠[]∨cv o=[]:=by
  by_cases e:s=[]
  ·right;subst e;simpa using h1
  ·exact .inl e
 simp only[opsL,List.drop_zero,List.mem_cons,List.not_mem_nil,or_false]at hm;have key:∀w:ai,w≠[]→s.take w.length=w→∃x t t',s=x::t∧w=x::t':=by
  intro w hw hs
  match w,hw with
  |x::t',_=>
   match s with
   |[]=>simp at hs
   |y::t=>
    simp only[List.length_cons,List.take_succ_cons,List.cons.injEq]at hs;exact⟨x,t,t',by rw[hs.1],rfl⟩
 rcases hm with rfl|rfl|rfl|rfl|rfl|rfl|rfl|rfl
 all_goals
  refine⟨by omega,by omega, ?_⟩;obtain⟨x,t,t',e1,e2⟩:=key _ (by decide) h2;have hxx:=congrArg (fun w:ai=>w.headD 0) e2;simp only[List.headD_cons]at hxx;refine⟨x,t,e1, ?_, ?_⟩
  ·rw[←hxx];unfold sy;decide
  ·rw[←hxx];decide
def vt (t:ai):nC (94::t) 0=some 7:=by
 unfold nC opsL;have hn:∀w:ai,w≠[]→w.headD 0≠94→nQ (94::t) w=false:=by
  intro w hw hx
  match w,hw with
  |x::r,_=>
   unfold nQ;rw[Bool.and_eq_false_iff];right;rw[decide_eq_false_iff_not];intro h;simp only[List.length_cons,List.take_succ_cons,List.cons.injEq]at h;exact hx h.1.symm
 have hy:nQ (94::t) (cv 7)=true:=by
  unfold nQ;rw[show cv 7=[94]by decide];simp
 simp only[List.drop_zero,List.find?_cons,hn _ (show cv 2≠[]by decide) (by decide),hn _ (show cv 4≠[]by decide) (by decide),hn _ (show cv 6≠[]by decide) (by decide),hn _ (show cv 1≠[]by decide) (by decide),
  hn _ (show cv 3≠[]by decide) (by decide),hn _ (show cv 5≠[]by decide) (by decide),hy]
def AL (t:ai):cC (94::t)=(7,t):=by
 simp only[cC,vt];rw[show cv 7=[94]by decide];rfl
def v7 (b:Int):∀(s cur:ai),∃r l,bK b s cur=(cur++r)::l
 |[],cur=>⟨[],[],by simp[bK]⟩
 |c::s,cur=>by
  simp only[bK];split
  ·exact⟨[],_,by rw[List.append_nil]⟩
  ·obtain⟨r,l,h⟩:=v7 b s (cur++[c]);exact⟨c::r,l,by rw[h];simp⟩
def Ft {x:UInt8}{t:ai}(h:¬sy x):dL (ah (fh (x::t) 0).1 46)=false:=by
 have hx:x≠45∧x≠46∧aZ x.toNat=false:=by
  refine⟨?_, ?_, ?_⟩
  ·rintro rfl;exact h (by unfold sy;decide)
  ·rintro rfl;exact h (by unfold sy;decide)
  ·cases hd:aZ x.toNat with
   |false=>rfl
   |true=>exact absurd (oo hd).1 h
 have hp:∃r,(fh (x::t) 0).1=x::r:=by
  unfold fh;rw[List.drop_zero,List.findIdx?_cons];rw[if_neg (by simpa using hx.1)];cases t.findIdx? (fun c=>c==45)with
  |none=>exact⟨t,rfl⟩
  |some k=>exact⟨t.take k,by simp⟩
 obtain⟨r,hr⟩:=hp;rw[hr];have h46:¬((x.toNat:Int)=46):=fun e=>hx.2.1 (UInt8.toNat_inj.1 (by show x.toNat=46;omega))
 obtain⟨q,l,hs⟩:=v7 46 r [x];have e:ah (x::r) 46=(x::q)::l:=by
  unfold ah;simp only[bK];rw[if_neg h46];simpa using hs
 rw[e];unfold dL;rw[Bool.and_eq_false_iff];right;rw[aH (by simp)];have hn:dQ ((x::q)::l)[0]! =false:=by
  show dQ (x::q)=false;rw[Ck];rw[aH (by simp)];have:aZ (at8 (x::q) 0)=false:=by simpa[at8]using hx.2.2
  rw[this];simp
 rw[hn];rfl
def Kz {s:ai}(h:eC s=cC s):dc s=if tg s (cC s).1 (dp s) (dI s).2=true then some (dD s)else none:=by
 unfold dc;simp only[h];rfl
def vI {s:ai}:eQ s=if ma s∧dL (dp s)=true∧jC (dD s)=true∧cP (dD s)=s then some (dD s)else none:=rfl
def E6 {s:ai}(h:∀c∈s,c≠45):fh s 0=(s,[]):=by
 unfold fh;rw[List.drop_zero,List.findIdx?_eq_none_iff.2 (fun c hc=>by simpa using h c hc)]
def yi {k:cj}(hb:jC k=true)(h9:k.op=9):j9 k=aM [46] (kq k++[[42]]):=by
 obtain⟨_,h0,h3,_,_⟩:=mN hb;rw[sN h0 h3];unfold j9 jy;rw[if_pos h9,h9];rfl
def oU {k:cj}{w:ai}(h:w∈kq k++[[42]]){c:UInt8}(hc:c∈w):aZ c.toNat=true∨c=42:=by
 rcases List.mem_append.1 h with h|h
 ·have:=List.mem_of_mem_take h;obtain⟨n,_,rfl⟩:=List.mem_map.1 this;exact .inl (og _ c hc)
 ·obtain rfl:=List.mem_singleton.1 h;exact .inr (List.mem_singleton.1 hc)
def yh {k:cj}{s:ai}(hb:jC k=true)(h9:k.op=9)(hs:j9 k=s):(0<s.length∧at8 s (s.length-1)=42)∧fh s 0=(s,[])∧ah s 46=kq k++[[42]]:=by
 have ht:=yi hb h9;obtain⟨_,h0,h3,_,_⟩:=mN hb;rw[hs]at ht;have hch:∀c∈s,aZ c.toNat=true∨c=42∨c=46:=by
  intro c hc;rw[ht]at hc;rcases pw 46 _ c hc with h|⟨w,hw,hcw⟩
  ·exact .inr (.inr h)
  ·rcases oU hw hcw with h|h
   ·exact .inl h
   ·exact .inr (.inl h)
 refine⟨?_,E6 (fun c hc=>?_), ?_⟩
 ·have he:∃q,s=q++[42]:=by
   rw[ht,sN h0 h3];exact⟨eI k k.parts.toNat++(if 0<k.parts then [46]else []),by rw[List.append_assoc]⟩
  obtain⟨q,rfl⟩:=he;simp[at8]
 ·rintro rfl;rcases hch 45 hc with h|h|h
  ·revert h;decide
  ·revert h;decide
  ·revert h;decide
 ·rw[ht];refine tq (b:=46) (x:=46) rfl (by simp) fun w hw c hc=>?_
  rcases oU hw hc with h|h
  ·have:=(Gu h).1;omega
  ·rw[h];decide
def uD {k:cj}{s:ai}(hb:jC k=true)(h7:k.op=7)(hs:j9 k=94::s):(∀c∈s,c≠42)∧∃c r,s=c::r∧aZ c.toNat=true:=by
 have hp:=Ew hb (by omega);have e:s=eI k k.parts.toNat++jy k:=by
  unfold j9 at hs;rw[h7,show cv 7=[94]by decide]at hs;simpa using hs.symm
 obtain⟨c,r,h1,h2⟩:=vr k _ hp;refine⟨fun c hc=>?_,c,r++jy k,by rw[e,h1];rfl,h2⟩;rw[e]at hc;rcases List.mem_append.1 hc with hc|hc
 ·rcases AA _ c hc with h|h
  ·exact(oo h).2
  ·rw[h];decide
 ·unfold jy at hc;rw[if_neg (by omega)]at hc;split at hc
  ·cases hc
  ·rcases List.mem_cons.1 hc with rfl|hc
   ·decide
   ·have hv:=(mN hb).1;simp only[iF,Bool.and_eq_true]at hv;rcases H6 hv.1.2 hc with h|h
    ·rintro rfl;revert h;decide
    ·rw[h];decide
def ue {s:ai}:tg s (cC s).1 (dp s) (dI s).2=true↔dL (dp s)=true∧cP (dD s)≠[]∧(cP (dD s)=s∨cP (dD s)=94::s):=y0
def Gl (s:ai):jq s=dc s:=by
 have hcar:cC (94::s)=(7,s):=AL s;have hL7:dp (94::s)=ah (fh s 0).1 46:=by
  unfold dp dI;rw[hcar];rfl
 have hK7:dD (94::s)=eF 7 (ah (fh s 0).1 46) (fh s 0).2:=by
  unfold dD;rw[hL7];unfold dI;rw[hcar]
 cases ho:nC s 0 with
 |some o=>
  obtain⟨o1,o8,x,t,hs,hx,hx94⟩:=E1 ho;have hrw:cC s=(o,s.drop (cv o).length):=by simp only[cC,ho]
  have hsp:eC s=cC s:=by rw[hrw];simp only[eC,ho]
  have hstar:ma s:=by
   intro h;rw[hrw]at h;simp only at h;omega
  have hcn:eQ (94::s)=none:=ja fun h=>by
   have:=h.2.1;rw[hL7,hs,Ft hx]at this;cases this
  have hop:(dD s).op=o:=by show(cC s).1=o;rw[hrw]
  rw[Kz hsp];by_cases hk:dL (dp s)=true∧cP (dD s)=s
  ·have hne:cP (dD s)≠[]:=by rw[hk.2,hs];simp
   have hb:=(pd hne).1;have hr:eQ s=some (dD s):=by rw[vI,if_pos ⟨hstar,hk.1,hb,hk.2⟩]
   have hok:tg s (cC s).1 (dp s) (dI s).2=true:=ue.2 ⟨hk.1,hne,.inl hk.2⟩;rw[if_pos hok];unfold jq;rw[hr];rfl
  ·have hr:eQ s=none:=ja fun h=>hk ⟨h.2.1,h.2.2.2⟩
   have hok:¬tg s (cC s).1 (dp s) (dI s).2=true:=fun h=>by
    obtain⟨h1,h2,h3⟩:=ue.1 h;rcases h3 with h3|h3
    ·exact hk ⟨h1,h3⟩
    ·obtain⟨hb,he⟩:=pd h2;have h3':j9 (dD s)=94::s:=by rw[←he];exact h3
     have h7:o=7:=by
      have hh:∃y w,cv o=y::w∧(y=94→o=7):=by
       have:o=1∨o=2∨o=3∨o=4∨o=5∨o=6∨o=7∨o=8:=by omega
       rcases this with rfl|rfl|rfl|rfl|rfl|rfl|rfl|rfl
       ·exact⟨61,[],by decide,by decide⟩
       ·exact⟨33,[61],by decide,by decide⟩
       ·exact⟨60,[],by decide,by decide⟩
       ·exact⟨60,[61],by decide,by decide⟩
       ·exact⟨62,[],by decide,by decide⟩
       ·exact⟨62,[61],by decide,by decide⟩
       ·exact⟨94,[],by decide,by decide⟩
       ·exact⟨126,[],by decide,by decide⟩
      obtain⟨y,w,e1,e2⟩:=hh;unfold j9 at h3';rw[hop,e1]at h3';simp only[List.cons_append,List.cons.injEq]at h3';exact e2 h3'.1
     obtain⟨_,c,r,e1,e2⟩:=uD hb (by rw[hop];exact h7) h3';rw[hs]at e1;simp only[List.cons.injEq]at e1;rw[←e1.1]at e2;exact hx (oo e2).1
   rw[if_neg hok];unfold jq;rw[hr,if_neg (by simp),hcn]
 |none=>
  have hrw:cC s=(9,s):=by simp only[cC,ho]
  have h94:∀t,s≠94::t:=by
   rintro t rfl;rw[vt]at ho;cases ho
  have hop:(dD s).op=9:=by show(cC s).1=9;rw[hrw]
  have hst7:ma (94::s):=by
   intro h;rw[hcar]at h;simp only at h;omega
  by_cases hl:0<s.length∧at8 s (s.length-1)=42
  ·have hsp:eC s=cC s:=by rw[hrw];simp only[eC,ho,if_pos hl]
   have hcn:eQ (94::s)=none:=ja fun h=>by
    obtain⟨_,h2,h3,h4⟩:=h;have he:=(pd (c:=dD (94::s)) (by rw[h4];simp)).2;rw[h4]at he;have hno:=(uD h3 (by rw[hK7];rfl) he.symm).1;have hmem:s[s.length-1]'(by omega)∈s:=List.getElem_mem _;refine hno _ hmem (UInt8.toNat_inj.1 ?_);have:=hl.2;rw[yA s _ (by omega)]at this;show _=42;omega
   rw[Kz hsp];by_cases hk:dL (dp s)=true∧cP (dD s)=s
   ·have hne:cP (dD s)≠[]:=by
     rw[hk.2];intro h;rw[h]at hl;simp at hl
    obtain⟨hb,he⟩:=pd hne;obtain⟨_,g2,g3⟩:=yh (s:=s) hb hop (he.symm.trans hk.2);have hstar:ma s:=by
     intro _;have hP:dI s=(s,[]):=by unfold dI;rw[hrw];exact g2
     rw[hP];simp only;rw[g3];simp
    have hr:eQ s=some (dD s):=by rw[vI,if_pos ⟨hstar,hk.1,hb,hk.2⟩]
    have hok:tg s (cC s).1 (dp s) (dI s).2=true:=ue.2 ⟨hk.1,hne,.inl hk.2⟩;rw[if_pos hok];unfold jq;rw[hr];rfl
   ·have hr:eQ s=none:=ja fun h=>hk ⟨h.2.1,h.2.2.2⟩
    have hok:¬tg s (cC s).1 (dp s) (dI s).2=true:=fun h=>by
     obtain⟨h1,h2,h3⟩:=ue.1 h;rcases h3 with h3|h3
     ·exact hk ⟨h1,h3⟩
     ·obtain⟨hb,he⟩:=pd h2;have h3':j9 (dD s)=94::s:=by rw[←he];exact h3
      have ht:=yi hb hop;rw[h3']at ht;have hm:(94:UInt8)∈aM [46] (kq (dD s)++[[42]]):=by rw[←ht];simp
      rcases pw 46 _ _ hm with h|⟨w,hw,hcw⟩
      ·revert h;decide
      ·rcases oU hw hcw with h|h
       ·revert h;decide
       ·revert h;decide
    rw[if_neg hok];unfold jq;rw[hr,if_neg (by simp),hcn]
  ·have hsp:eC s=(7,s):=by simp only[eC,ho,if_neg hl]
   have hr:eQ s=none:=ja fun h=>by
    obtain⟨h1,h2,h3,h4⟩:=h;have he:j9 (dD s)=s:=(if_pos h3:cP (dD s)=j9 (dD s)).symm.trans h4;exact hl (yh h3 hop he).1
   have h6:dc s=if tg s 7 (ah (fh s 0).1 46) (fh s 0).2=true then some (dD (94::s))else none:=by
    unfold dc;simp only[hsp];rw[hK7];rfl
   have hRC:jq s=eQ (94::s):=by
    unfold jq;rw[hr];rfl
   rw[hRC,h6,vI];by_cases hok:tg s 7 (ah (fh s 0).1 46) (fh s 0).2=true
   ·rw[if_pos hok];obtain⟨h1,h2,h3⟩:=y0.1 hok;obtain⟨hb,he⟩:=pd h2;rcases h3 with h3|h3
    ·exfalso;rw[he]at h3;have hh:∃w,j9 (eF 7 (ah (fh s 0).1 46) (fh s 0).2)=94::w:=by
      unfold j9;exact⟨_,rfl⟩
     obtain⟨w,hw⟩:=hh;exact h94 w (by rw[←h3,hw])
    ·rw[if_pos ⟨hst7,by rw[hL7];exact h1,by rw[hK7];exact hb,by rw[hK7];exact h3⟩]
   ·rw[if_neg hok,if_neg];rintro⟨_,g2,g3,g4⟩;rw[hK7]at g3 g4;rw[hL7]at g2;exact hok (y0.2 ⟨g2,by rw[g4];simp,.inr g4⟩)
abbrev Alt:=List cj
abbrev pR:=List Alt
def n9 (a:Alt):D:=.sl 7 (a.map cj.D)
def BL (a:Alt):(n9 a).a7=true:=rfl
def mi (l k:Nat)(es:List D)(r:List Alt):fV l k es (r.map n9)=r.map n9:=nu l k es _ (bg BL _)
def dy (r:pR):D:=.agg [.sl 1 (r.map n9)]
def iS (a:Alt):Bool:=decide (1≤a.length)&&decide (a.length≤6)&&b8 (fun k=>jC a[k]!) 0 a.length
def gN (r:pR):Bool:=decide (1≤r.length)&&decide (r.length≤6)&&b8 (fun i=>iS r[i]!) 0 r.length
def hE (a:Alt):ai:=aM [44,32] (a.map cP)
def vT (r:pR):ai:=aM [32,124,124,32] (r.map hE)
def cj.lo (c:cj):Prop:=c.v.pre.length≤1000∧c.v.build.length≤1000
def cj.lo.sm {c:cj}(h:c.lo):c.v.sm:=⟨Nat.le_trans h.1 (by decide),Nat.le_trans h.2 (by decide)⟩
def fU (r:pR):Prop:=∀a∈r,∀c∈a,c.lo
def pO (b:ai)(l:List ai)(i:Nat):ai:=if 0<i then aM b (l.take i)++b else []
def sf (b:ai)(l:List ai)(i:Nat)(h:i<l.length):aM b (l.take (i+1))=pO b l i++l[i]! :=nw b l i h
def Hn (b:ai)(l:List ai){i:Nat}(h:¬0<i):aM b (l.take i)=pO b l i:=by
 obtain rfl:i=0:=by omega
 simp[pO,aM]
def uE {c:cj}(h:c.lo):(cP c).length≤1100:=by
 unfold cP;split
 ·rename_i hb;obtain⟨hv,h0,h3,_⟩:=mN hb;have h1:=sI c.op;have h2:=pB hv c.parts.toNat;have ht:(jy c).length≤1001:=by
   unfold jy;have:=h.1;split
   ·split<;>simp
   ·split
    ·simp
    ·simp only[List.length_cons];omega
  simp only[j9,List.length_append];omega
 ·simp
def oz (b:ai)(M:Nat):∀(l:List ai),(∀t∈l,t.length≤M)→(aM b l).length≤l.length*(M+b.length)
 |[],_=>by simp[aM]
 |[t],h=>by
  have:=h t (.head _);simp only[aM,List.length_singleton,Nat.one_mul];omega
 |t::u::r,h=>by
  have h1:=h t (.head _);have h2:=oz b M (u::r) fun x hx=>h x (.tail _ hx)
  simp only[aM,List.length_append];simp only[List.length_cons,Nat.add_mul,Nat.one_mul]at h2⊢;omega
def yW {α β:Type} [Inhabited α] [Inhabited β](f:α→β)(l:List α){i:Nat}(h:i<l.length):(l.map f)[i]! =f l[i]! :=by
 simp[h]
def uq {a:Alt}(h:∀c∈a,c.lo)(hl:a.length≤6):(hE a).length≤6612:=by
 have:=oz [44,32] 1100 (a.map cP) (fun t ht=>by
  obtain⟨c,hc,rfl⟩:=List.mem_map.1 ht;exact uE (h c hc))
 simp only[List.length_map]at this;have h2:a.length*(1100+([44,32]:ai).length)≤6*1102:=Nat.mul_le_mul hl (by decide);unfold hE;omega
def uI {r:pR}(h:gN r=true){i:Nat}(hi:i<r.length):iS r[i]! =true:=by
 simp only[gN,Bool.and_eq_true,decide_eq_true_eq]at h;exact dS.1 h.2 i (by omega) hi
def rT {a:Alt}(h:iS a=true):1≤a.length∧a.length≤6:=by
 simp only[iS,Bool.and_eq_true,decide_eq_true_eq]at h;exact h.1
def HX {r:pR}(h:gN r=true)(hs:fU r):(vT r).length≤40000:=by
 have h6:r.length≤6:=by simp only[gN,Bool.and_eq_true,decide_eq_true_eq]at h;exact h.1.2
 have:=oz [32,124,124,32] 6612 (r.map hE) (fun t ht=>by
  obtain⟨a,ha,rfl⟩:=List.mem_map.1 ht;obtain⟨i,hi,rfl⟩:=List.mem_iff_getElem.1 ha;have h1:=uI h hi;rw[show r[i]! =r[i]by simp[hi]]at h1;exact uq (hs _ ha) (rT h1).2)
 simp only[List.length_map]at this;have h2:r.length*(6612+([32,124,124,32]:ai).length)≤6*6616:=Nat.mul_le_mul h6 (by decide);unfold vT;omega
def fO {α β:Type} [Inhabited α](f:α→β)(l:List α){i:Nat}(h:i<l.length):(l.map f).take (i+1)=(l.map f).take i++[f l[i]!]:=by
 rw[List.take_add_one];simp[h]
def nW (r:pR):Bool:=gN r&&decide ((vT r).length≤96)
def oP (r:pR):ai:=if nW r=true then vT r else []
def ay:ai→ai→List ai
 |[],cur=>[cur]
 |[c],cur=>[cur++[c]]
 |c::d::r,cur=>if c=124∧d=124 then cur::ay r []else ay (d::r) (cur++[c])
def iT:ai→ai
 |[]=>[]
 |c::r=>if c=32 then iT r else c::r
def c9 (s:ai):ai:=(iT (iT s).reverse).reverse
def mJ:∀s,(iT s).length≤s.length
 |[]=>Nat.le_refl _
 |c::r=>by
  unfold iT;split
  ·have:=mJ r;simp only[List.length_cons];omega
  ·exact Nat.le_refl _
def rW (s:ai):(c9 s).length≤s.length:=by
 have h1:=mJ s;have h2:=mJ (iT s).reverse;simp only[List.length_reverse]at h2;simp only[c9,List.length_reverse];omega
def lZ:∀(s cur:ai),(ay s cur).length≤s.length+1∧(∀t∈ay s cur,t.length≤cur.length+s.length)
 |[],cur=>by simp[ay]
 |[c],cur=>by simp[ay]
 |c::d::r,cur=>by
  unfold ay;split
  ·have:=lZ r [];refine⟨by simp only[List.length_cons];omega,fun t ht=>?_⟩;rcases List.mem_cons.1 ht with rfl|ht
   ·simp
   ·have:=this.2 t ht;simp only[List.length_nil,List.length_cons]at this⊢;omega
  ·have:=lZ (d::r) (cur++[c]);refine⟨by have:=this.1;simp only[List.length_cons]at this⊢;omega,fun t ht=>?_⟩;have:=this.2 t ht;simp only[List.length_append,List.length_cons,List.length_nil]at this⊢;omega
def QK (t:ai):Bool:=b8 (fun k=>(dc (c9 (ah t 44)[k]!)).isSome) 0 (ah t 44).length
def vS (s:ai):Bool:=b8 (fun i=>QK (ay s [])[i]!) 0 (ay s []).length
def kC (t:ai):Alt:=(ah t 44).map fun x=>(dc (c9 x)).getD cZ
def fK (s:ai):pR:=(ay s []).map kC
def eK (s:ai):pR×Int:=
 if 96<s.length then([],3)else if vS s=false then([],6)else if gN (fK s)=false then([],6)else if 96<(vT (fK s)).length then([],3)else(fK s,0)
def nF (s:ai):Bool:=decide ((eK s).2=0)&&decide (oP (eK s).1=s)
def Gk {s:ai}(h:s.length≤1000):((dc s).getD cZ).lo:=by
 unfold dc;simp only;split
 ·have h1:=vY s;have h2:=vB (eC s).2;exact⟨by show(fh (eC s).2 0).2.length≤1000;omega,by show([]:ai).length≤1000;decide⟩
 ·exact⟨by show([]:ai).length≤1000;decide,by show([]:ai).length≤1000;decide⟩
def zr {s:ai}(h:s.length≤1000):fU (fK s):=by
 intro a ha c hc;obtain⟨t,ht,rfl⟩:=List.mem_map.1 ha;obtain⟨x,hx,rfl⟩:=List.mem_map.1 hc;have h1:=(lZ s []).2 t ht;have h2:=dj t 44 hx;have h3:=rW x;simp only[List.length_nil]at h1;exact Gk (by omega)
def D9 {s:ai}:fU (eK s).1∧((eK s).2=0→gN (eK s).1=true):=by
 unfold eK;split
 ·exact⟨(fun a ha=>by cases ha),fun h=>by cases h⟩
 ·split
  ·exact⟨(fun a ha=>by cases ha),fun h=>by cases h⟩
  ·split
   ·exact⟨(fun a ha=>by cases ha),fun h=>by cases h⟩
   ·rename_i hf;split
    ·exact⟨(fun a ha=>by cases ha),fun h=>by cases h⟩
    ·exact⟨zr (by omega),fun _=>by simpa using hf⟩
def CZ {s:ai}{i:Nat}(cur:ai)(h:i+1<s.length)(h1:at8 s i=124)(h2:at8 s (i+1)=124):ay (s.drop i) cur=cur::ay (s.drop (i+2)) []:=by
 rw[jY s i (by omega),jY s (i+1) h];have e1:s.getD i 0=124:=UInt8.toNat_inj.1 (by simp only[at8]at h1;show(s.getD i 0).toNat=124;omega);have e2:s.getD (i+1) 0=124:=UInt8.toNat_inj.1 (by simp only[at8]at h2;show(s.getD (i+1) 0).toNat=124;omega);rw[e1,e2];simp only[ay,and_self,if_true]
def Bg {s:ai}{i:Nat}(cur:ai)(h:i+1<s.length)(hn:¬(at8 s i=124∧at8 s (i+1)=124)):ay (s.drop i) cur=ay (s.drop (i+1)) (cur++[s.getD i 0]):=by
 rw[jY s i (by omega),jY s (i+1) h];simp only[ay];rw[if_neg];rintro⟨e1,e2⟩;exact hn ⟨by simp only[at8,e1];rfl,by simp only[at8,e2];rfl⟩
def CY {s:ai}{i:Nat}(cur:ai)(h:s.length≤i+1):ay (s.drop i) cur=[cur++s.drop i]:=by
 have hl:(s.drop i).length≤1:=by rw[List.length_drop];omega
 match s.drop i,hl with
 |[],_=>simp[ay]
 |[c],_=>simp[ay]
def Gp {s:ai}{i fr:Nat}(h:i<s.length)(hf:fr≤i):(s.take i).drop fr++[s.getD i 0]=(s.take (i+1)).drop fr:=by
 rw[List.take_add_one,List.drop_append_of_le_length (by rw[List.length_take];omega)];simp[h]
def pS (s:ai)(i fr:Nat)(acc:List ai):Prop:=ay s []=acc++ay (s.drop (max i fr)) ((s.take (max i fr)).drop fr)
def Eo {s:ai}{i fr:Nat}{acc:List ai}(hI:pS s i fr acc)(h:i+1<s.length)(hc:(at8 s i=124∧at8 s (i+1)=124)∧(fr:Int)≤i):pS s (i+1) (i+2) (acc++[(s.take i).drop fr]):=by
 unfold pS at hI⊢;rw[hI,Nat.max_eq_left (by omega),CZ _ h hc.1.1 hc.1.2,Nat.max_eq_right (by omega),show(s.take (i+2)).drop (i+2)=[]from List.drop_eq_nil_of_le (by rw[List.length_take];omega)];simp
def F8 {s:ai}{i fr:Nat}{acc:List ai}(hI:pS s i fr acc)(h:i+1<s.length)(hf:fr≤i+1)(hc:(¬at8 s i=124∨¬at8 s (i+1)=124)∨¬(fr:Int)≤i):pS s (i+1) fr acc:=by
 unfold pS at hI⊢;by_cases hl:fr≤i
 ·rw[hI,Nat.max_eq_left hl,Bg _ h (by rcases hc with(hc|hc)|hc;exact fun h=>hc h.1;exact fun h=>hc h.2;omega),Nat.max_eq_left (by omega),Gp (by omega) hl]
 ·rw[hI,Nat.max_eq_right (by omega),Nat.max_eq_right (by omega)]
def En {s:ai}{i fr:Nat}{acc:List ai}(hI:pS s i fr acc)(h:s.length≤i+1)(hl:fr≤s.length):ay s []=acc++[s.drop fr]:=by
 unfold pS at hI;rw[hI,CY _ (by have:=Nat.le_max_left i fr;omega)];congr 2
 conv=>rhs;rw[←List.take_append_drop (max i fr) s]
 by_cases hm:max i fr≤s.length
 ·rw[List.drop_append_of_le_length (by rw[List.length_take];have:=Nat.le_max_right i fr;omega)]
 ·rw[List.drop_eq_nil_of_le (by omega:s.length≤max i fr),List.append_nil,List.append_nil]
def xg {t:ai}(h:0<t.length)(h0:at8 t 0=32):iT t=iT (t.drop 1):=by
 match t,h with
 |c::r,_=>
  have:c=32:=UInt8.toNat_inj.1 (by have h0:((c.toNat:Nat):Int)=32:=h0;show c.toNat=32;omega);subst this;simp[iT]
def uv {t:ai}(h:¬(0:Int)<(t.length:Nat)∨¬at8 t 0=32):iT t=t:=by
 match t with
 |[]=>rfl
 |c::r=>
  rcases h with h|h
  ·simp only[List.length_cons]at h;omega
  ·simp only[iT];rw[if_neg];rintro rfl;exact h rfl
def uw (u:ai):ai:=(iT u.reverse).reverse
def Dj {u:ai}(h:0<u.length):at8 u.reverse 0=at8 u (u.length-1):=by
 unfold at8;congr 2;rw[List.getD_eq_getElem?_getD,List.getD_eq_getElem?_getD,List.getElem?_reverse h,Nat.sub_zero]
def Er {u:ai}(h:0<u.length)(h0:at8 u (u.length-1)=32):uw u=uw (u.take (u.length-1)):=by
 unfold uw;rw[xg (by simpa using h) (by rw[Dj h];exact h0)];congr 2;rw[List.drop_reverse]
def BP {u:ai}(h:¬(0:Int)<(u.length:Nat)∨¬at8 u (u.length-1)=32):uw u=u:=by
 unfold uw;by_cases hu:0<u.length
 ·rw[uv (by rw[Dj hu];rcases h with h|h;omega;exact Or.inr h)];simp
 ·have:u=[]:=List.length_eq_zero_iff.1 (by omega);subst this;rfl
def Nd.eq (a b:Nd):gp (Nd.D a).cells (Nd.D b).cells=decide (a=b):=by
 obtain⟨a1,a2,a3,a4,a5⟩:=a;obtain⟨b1,b2,b3,b4,b5⟩:=b;simp only[Nd.D,D.cells,gp,qU,tW,Nd.mk.injEq,Bool.and_true];simp only[Bool.decide_and]
def gU (n:Nd):Bool:=decide (n.key=0)&&decide (n.text=[])
def lR (n:Nd):Bool:=decide (n.op=1)&&decide (0≤n.key)&&decide (n.key<3)&&bV n.text&&decide (n.a=0)&&decide (n.b=0)
def gD (n:Nd)(i:Nat)(o:List Int):Option (List Int):=
 if lR n=true then some (o++[(i:Int)])
 else if(((n.op=2∧gU n=true)∧0<o.length)∧n.a=o[o.length-1]!)∧n.b=0 then some (o.take (o.length-1)++[(i:Int)])
 else if((((n.op=3∨n.op=4)∧gU n=true)∧1<o.length)∧n.a=o[o.length-2]!)∧n.b=o[o.length-1]! then some (o.take (o.length-2)++[(i:Int)])
 else none
def kS:List Nd→Nat→List Int→Option (List Int)
 |[],_,o=>some o
 |n::r,i,o=>match gD n i o with
  |some o'=>kS r (i+1) o'
  |none=>none
def kX (l:List Nd):Bool:=match kS l 0 []with
 |some o=>decide (l.length=0) ||decide (o.length=1)
 |none=>false
def xm {α:Type} [Inhabited α](l:List α){i:Nat}(h:i<l.length):l.drop i=l[i]! ::l.drop (i+1):=by
 rw[List.drop_eq_getElem_cons h];simp[h]
def gw {l:List Nd}{i:Nat}{o o':List Int}(h:i<l.length)(hs:gD l[i]! i o=some o'):kS (l.drop i) i o=kS (l.drop (i+1)) (i+1) o':=by
 rw[xm l h];simp only[kS,hs]
def eO {l:List Nd}{i:Nat}{o:List Int}(h:i<l.length)(hs:gD l[i]! i o=none):kS (l.drop i) i o=none:=by
 rw[xm l h];simp only[kS,hs]
def xQ {l:List Nd}{i:Nat}{o:List Int}(h:l.length≤i):kS (l.drop i) i o=some o:=by
 rw[List.drop_eq_nil_of_le h];rfl
def Bn {l:List Nd}(h:kS l 0 []=none):kX l=false:=by simp only[kX,h]
def iL {l:List Nd}(h:kS l 0 []=none):(true&&kX l)=false:=by rw[Bn h];rfl
def zJ (S:List Int):Int→List Int→Prop
 |e,[]=>e=0
 |e,t::r=>t=e-1∧0≤t∧0≤S[t.toNat]! ∧S[t.toNat]! ≤t∧zJ S S[t.toNat]! r
def yG {S:List Int}{i:Nat}{v:Int}:∀{r:List Int}{e:Int},e≤i→zJ S e r→zJ (S.set i v) e r
 |[],e,_,h=>h
 |t::r,e,he,⟨h1,h2,h3,h4,h5⟩=>by
  have hg:(S.set i v)[t.toNat]! =S[t.toNat]! :=by
   have:i≠t.toNat:=by omega
   simp[List.getElem?_set,this]
  exact⟨h1,h2,by rw[hg];exact h3,by rw[hg];exact h4,by rw[hg];exact yG (by omega) h5⟩
def JU {S:List Int}{i:Nat}{v:Int}(h:i<S.length):(S.set i v)[i]! =v:=by
 simp[h]
def qO {S:List Int}{i:Nat}{v:Int}{r:List Int}(h:i<S.length)(h0:0≤v)(h1:v≤i)(hc:zJ S v r):zJ (S.set i v) ((i+1:Nat):Int) ((i:Int)::r):=by
 have hg:(S.set i v)[((i:Nat):Int).toNat]! =v:=by rw[Int.toNat_natCast];exact JU h
 exact⟨by omega,by omega,by rw[hg];exact h0,by rw[hg];exact h1,by rw[hg];exact yG (by omega) hc⟩
def qP {S:List Int}{i:Nat}{o:List Int}(h:zJ S (i:Nat) o.reverse):(0<o.length↔1≤i)∧(1≤i→o[o.length-1]! =(i:Int) -1∧0≤S[i-1]! ∧S[i-1]! ≤(i:Int) -1∧zJ S S[i-1]! (o.take (o.length-1)).reverse):=by
 rcases List.eq_nil_or_concat o with rfl|⟨p,t,rfl⟩
 ·have h:((i:Nat):Int)=0:=h;exact⟨⟨fun h=>absurd h (by simp),fun h2=>by omega⟩,fun h2=>by omega⟩
 ·rw[List.concat_eq_append,List.reverse_append,List.reverse_singleton,List.singleton_append]at h;obtain⟨h1,h2,h3,h4,h5⟩:=h;have ht:t.toNat=i-1:=by omega
  rw[ht]at h3 h4 h5;rw[List.concat_eq_append];refine⟨⟨fun _=>by omega,fun _=>by simp⟩,fun _=>⟨by simp[h1],h3,by omega, ?_⟩⟩;rw[List.take_append_of_le_length (by simp),List.take_of_length_le (by simp)];exact h5
def yH {S:List Int}{i:Nat}{o:List Int}(h:zJ S (i:Nat) o.reverse):(1<o.length↔1≤i∧1≤S[i-1]!)∧(1<o.length→o[o.length-2]! =S[i-1]! -1∧0≤S[(S[i-1]! -1).toNat]! ∧S[(S[i-1]! -1).toNat]! ≤S[i-1]! -1∧zJ S S[(S[i-1]! -1).toNat]! (o.take (o.length-2)).reverse):=by
 obtain⟨h1,h2⟩:=qP h;by_cases hi:1≤i
 ·obtain⟨g1,g2,g3,g4⟩:=h2 hi;have hl:=h1.2 hi;rcases List.eq_nil_or_concat o with rfl|⟨p,t,rfl⟩
  ·simp at hl
  ·rw[List.concat_eq_append]at g4⊢;rw[List.take_append_of_le_length (by simp),List.take_of_length_le (by simp)]at g4;rcases List.eq_nil_or_concat p with rfl|⟨q,u,rfl⟩
   ·have g4:S[i-1]! =0:=g4;exact⟨⟨fun h=>absurd h (by simp),fun h=>by omega⟩,fun h=>absurd h (by simp)⟩
   ·rw[List.concat_eq_append]at g4⊢;rw[List.reverse_append,List.reverse_singleton,List.singleton_append]at g4;obtain⟨k1,k2,k3,k4,k5⟩:=g4;subst k1;refine⟨⟨fun _=>⟨hi,by omega⟩,fun _=>by simp⟩,fun _=>⟨by simp,k3,k4, ?_⟩⟩;rw[List.append_assoc,List.take_append_of_le_length (by simp),List.take_of_length_le (by simp)];exact k5
 ·have:¬0<o.length:=fun h=>hi (h1.1 h)
  exact⟨⟨fun h=>by omega,fun h=>absurd h.1 hi⟩,fun h=>by omega⟩
def Ib {S:List Int}{n:Nat}{o:List Int}(t1:0<o.length↔1≤n)(t2:1≤n→o[o.length-1]! =(n:Int) -1∧0≤S[n-1]! ∧S[n-1]! ≤(n:Int) -1∧zJ S S[n-1]! (o.take (o.length-1)).reverse)(u1:1<o.length↔1≤n∧1≤S[n-1]!):
  (decide (n=0) ||decide (o.length=1))=(decide ((n:Nat)=(0:Int)) ||decide (S[n-1]! =0)):=by
 rw[Bool.eq_iff_iff];simp only[Bool.or_eq_true,decide_eq_true_eq];constructor
 ·rintro(h|h)
  ·left;omega
  ·by_cases hn:1≤n
   ·have:=t2 hn;right;omega
   ·left;omega
 ·rintro(h|h)
  ·left;omega
  ·by_cases hn:1≤n
   ·right;omega
   ·left;omega
def uX {n:Nd}(h:lR n=true):n.op=1:=by simp only[lR,Bool.and_eq_true,decide_eq_true_eq]at h;exact h.1.1.1.1.1
def C2 {n:Nd}{i:Nat}{o:List Int}(h:lR n=true):gD n i o=some (o++[(i:Int)]):=if_pos h
def zv {n:Nd}{i:Nat}{o:List Int}(h1:n.op=1)(h:lR n=false):gD n i o=none:=by
 unfold gD;rw[if_neg (by simp[h]),if_neg (by rintro⟨⟨⟨⟨h,_⟩,_⟩,_⟩,_⟩;omega),if_neg (by rintro⟨⟨⟨⟨h|h,_⟩,_⟩,_⟩,_⟩<;>omega)]
def Bi {n:Nd}{i:Nat}{o:List Int}(h1:n.op≠1)(h2:n.op≠2)(h3:n.op≠3)(h4:n.op≠4):gD n i o=none:=by
 unfold gD;rw[if_neg (fun h=>h1 (uX h)),if_neg (by rintro⟨⟨⟨⟨h,_⟩,_⟩,_⟩,_⟩;exact h2 h),if_neg (by rintro⟨⟨⟨⟨h|h,_⟩,_⟩,_⟩,_⟩;exact h3 h;exact h4 h)]
def sM {S:List Int}{n:Nd}{i:Nat}{o:List Int}(hc:zJ S (i:Nat) o.reverse)(h2:n.op=2):gD n i o=if(1≤i∧n.a=(i:Int) -1∧n.b=0)∧gU n=true then some (o.take (o.length-1)++[(i:Int)])else none:=by
 obtain⟨t1,t2⟩:=qP hc;unfold gD;rw[if_neg (fun h=>by have:=uX h;omega)];by_cases hk:(1≤i∧n.a=(i:Int) -1∧n.b=0)∧gU n=true
 ·rw[if_pos hk,if_pos ⟨⟨⟨⟨h2,hk.2⟩,t1.2 hk.1.1⟩,by rw[(t2 hk.1.1).1];exact hk.1.2.1⟩,hk.1.2.2⟩]
 ·rw[if_neg hk,if_neg,if_neg (by rintro⟨⟨⟨⟨h|h,_⟩,_⟩,_⟩,_⟩<;>omega)];rintro⟨⟨⟨⟨_,g1⟩,g2⟩,g3⟩,g4⟩;have hi:=t1.1 g2;exact hk ⟨⟨hi,by rw[g3];exact(t2 hi).1,g4⟩,g1⟩
def lF {S:List Int}{n:Nd}{i:Nat}{o:List Int}(hc:zJ S (i:Nat) o.reverse)(h2:n.op=3∨n.op=4):gD n i o=if(2≤i∧n.b=(i:Int) -1∧1≤S[i-1]! ∧n.a=S[i-1]! -1)∧gU n=true then some (o.take (o.length-2)++[(i:Int)])else none:=by
 obtain⟨t1,t2⟩:=qP hc;obtain⟨u1,u2⟩:=yH hc;unfold gD;rw[if_neg (fun h=>by have:=uX h;omega),if_neg (by rintro⟨⟨⟨⟨h,_⟩,_⟩,_⟩,_⟩;omega)];by_cases hk:(2≤i∧n.b=(i:Int) -1∧1≤S[i-1]! ∧n.a=S[i-1]! -1)∧gU n=true
 ·have hl:=u1.2 ⟨by omega,hk.1.2.2.1⟩;rw[if_pos hk,if_pos ⟨⟨⟨⟨h2,hk.2⟩,hl⟩,by rw[(u2 hl).1];exact hk.1.2.2.2⟩,by rw[(t2 (by omega)).1];exact hk.1.2.1⟩]
 ·rw[if_neg hk,if_neg];rintro⟨⟨⟨⟨_,g1⟩,g2⟩,g3⟩,g4⟩;obtain⟨hi,hS⟩:=u1.1 g2;obtain⟨w1,w2,w3,_⟩:=t2 hi;exact hk ⟨⟨by omega,by rw[g4];exact w1,hS,by rw[g3];exact(u2 g2).1⟩,g1⟩
def ez (l:List Nd):Prop:=∀j,j<l.length→(l[j]!.op=1→0≤l[j]!.key∧l[j]!.key<3∧l[j]!.text.length≤12)∧(l[j]!.op≠1→0≤l[j]!.a∧l[j]!.a<j)∧(l[j]!.op≠1→l[j]!.op≠2→0≤l[j]!.b∧l[j]!.b<j)
def Cn {l:List Nd}:∀(k i:Nat)(o o':List Int),i+k=l.length→(∀x∈o,0≤x∧x<(i:Int))→kS (l.drop i) i o=some o'→
  ∀j,i≤j→j<l.length→(l[j]!.op=1→0≤l[j]!.key∧l[j]!.key<3∧l[j]!.text.length≤12)∧(l[j]!.op≠1→0≤l[j]!.a∧l[j]!.a<j)∧(l[j]!.op≠1→l[j]!.op≠2→0≤l[j]!.b∧l[j]!.b<j):=by
 intro k;induction k with
 |zero=>intro i o o' h1 h2 h3 j h4 h5;omega
 |succ k ih=>
  intro i o o' h1 h2 h3 j h4 h5;have hi:i<l.length:=by omega
  cases hs:gD l[i]! i o with
  |none=>rw[eO hi hs]at h3;cases h3
  |some o2=>
   rw[gw hi hs]at h3;have hm:∀m,0<m→m≤o.length→0≤o[o.length-m]! ∧o[o.length-m]! <(i:Int):=fun m hm1 hm2=>h2 _ (bA (by omega))
   have hsub:∀m,∀x∈o.take m++[(i:Int)],0≤x∧x<((i+1:Nat):Int):=fun m x hx=>by
    rcases List.mem_append.1 hx with hx|hx
    ·have:=h2 x (List.mem_of_mem_take hx);omega
    ·simp only[List.mem_singleton]at hx;omega
   unfold gD at hs;split at hs
   ·rename_i hl;cases hs;rcases Nat.lt_or_ge i j with hj|hj
    ·exact ih (i+1) _ o' (by omega) (by have:=hsub o.length;rwa [List.take_of_length_le (Nat.le_refl _)]at this) h3 j hj h5
    ·obtain rfl:i=j:=by omega
     simp only[lR,Bool.and_eq_true,decide_eq_true_eq]at hl;have hw:=hl.1.1.2;simp only[bV,Bool.and_eq_true,decide_eq_true_eq]at hw;exact⟨fun _=>⟨hl.1.1.1.1.2,hl.1.1.1.2,hw.1.2⟩,fun h=>absurd hl.1.1.1.1.1 h,fun h=>absurd hl.1.1.1.1.1 h⟩
   ·split at hs
    ·rename_i hl;cases hs;rcases Nat.lt_or_ge i j with hj|hj
     ·exact ih (i+1) _ o' (by omega) (hsub _) h3 j hj h5
     ·obtain rfl:i=j:=by omega
      obtain⟨⟨⟨⟨g1,g2⟩,g3⟩,g4⟩,g5⟩:=hl;have:=hm 1 (by omega) (by omega);exact⟨fun h=>by omega,fun _=>by rw[g4];exact this,fun _ h=>absurd g1 h⟩
    ·split at hs
     ·rename_i hl;cases hs;rcases Nat.lt_or_ge i j with hj|hj
      ·exact ih (i+1) _ o' (by omega) (hsub _) h3 j hj h5
      ·obtain rfl:i=j:=by omega
       obtain⟨⟨⟨⟨g1,g2⟩,g3⟩,g4⟩,g5⟩:=hl;have q1:=hm 1 (by omega) (by omega);have q2:=hm 2 (by omega) (by omega);exact⟨fun h=>by omega,fun _=>by rw[g4];exact q2,fun _ _=>by rw[g5];exact q1⟩
     ·cases hs
def nH {l:List Nd}(h:kX l=true):ez l:=by
 unfold kX at h;cases ho:kS l 0 []with
 |none=>rw[ho]at h;cases h
 |some o=>exact fun j hj=>Cn l.length 0 [] o (by omega) (by simp) ho j (Nat.zero_le _) hj
def Es (n:Nd)(o:List Int):Bool:=(((decide (n.op=2)&&(decide (n.key=0)&&decide (n.text=[])))&&decide ((0:Int)<(o.length:Nat)))&&decide (n.a=o[o.length-1]!))&&decide (n.b=0)
def Et (n:Nd)(o:List Int):Bool:=((((decide (n.op=3) ||decide (n.op=4))&&(decide (n.key=0)&&decide (n.text=[])))&&decide ((1:Int)<(o.length:Nat)))&&decide (n.a=o[o.length-2]!))&&decide (n.b=o[o.length-1]!)
def ug (n:Nd)(i:Nat)(o:List Int):gD n i o=if lR n=true then some (o++[(i:Int)])else if Es n o=true then some (o.take (o.length-1)++[(i:Int)])else if Et n o=true then some (o.take (o.length-2)++[(i:Int)])else none:=by
 have e1:(Es n o=true)=((((n.op=2∧gU n=true)∧0<o.length)∧n.a=o[o.length-1]!)∧n.b=0):=by
  simp only[Es,gU,Bool.and_eq_true,decide_eq_true_eq,eq_iff_iff,Int.natCast_pos]
 have e2:(Et n o=true)=(((((n.op=3∨n.op=4)∧gU n=true)∧1<o.length)∧n.a=o[o.length-2]!)∧n.b=o[o.length-1]!):=by
  simp only[Et,gU,Bool.and_eq_true,Bool.or_eq_true,decide_eq_true_eq,eq_iff_iff];rw[show((1:Int)<(o.length:Nat))↔1<o.length from by omega]
 simp only[gD,e1,e2]
def DH {n:Nd}(h:n.op=1):lR n=!((((decide (n.key<0) ||decide (3≤n.key)) ||!bV n.text) ||!decide (n.a=0)) ||!decide (n.b=0)):=by
 simp only[lR,h,decide_true,Bool.true_and];rw[show decide (n.key<0)=!decide (0≤n.key)from by rw[←decide_not];exact decide_eq_decide.2 (by omega),show decide (3≤n.key)=!decide (n.key<3)from by rw[←decide_not];exact decide_eq_decide.2 (by omega)];generalize decide (0≤n.key)=a;generalize decide (n.key<3)=b;generalize bV n.text=c;generalize decide (n.a=0)=d;generalize decide (n.b=0)=e;cases a<;>cases b<;>cases c<;>cases d<;>cases e<;>rfl
def uf {S:List Int}{i:Nat}(h:i<S.length)(v:Int):(S.map (D.int .i64)).set (0+i) (tM ((S.map (D.int .i64)).getD (0+i) .any) 1 1 0 (.int .i64 v))=(S.set i v).map (D.int .i64):=by
 rw[Nat.zero_add,getD_map (q:=D.int .i64) h,List.map_set];rfl
abbrev Dg:=List Nd
def eX (m:Dg):D:=.agg [.sl 5 (m.map Nd.D)]
def nM:List ai:=[[111,115],[97,114,99,104],[97,98,105]]
def pN (k:Int):ai:=if k=0 then [111,115]else if k=1 then [97,114,99,104]else [97,98,105]
def iN (s:ai)(b:Bool):ai:=if b=true then [40,32]++s++[32,41]else s
def oV (l:List Nd):Nat→Int→ai
 |0,_=>[]
 |f+1,i=>
  if l[i.toNat]!.op=1 then pN l[i.toNat]!.key++[32,61,32]++l[i.toNat]!.text
  else if l[i.toNat]!.op=2 then
   if l[l[i.toNat]!.a.toNat]!.op=1 then pN l[l[i.toNat]!.a.toNat]!.key++[32,33,61,32]++l[l[i.toNat]!.a.toNat]!.text
   else [110,111,116,32]++iN (oV l f l[i.toNat]!.a) (!decide (l[l[i.toNat]!.a.toNat]!.op=2))
  else if l[i.toNat]!.op=3 then iN (oV l f l[i.toNat]!.a) (decide (l[l[i.toNat]!.a.toNat]!.op=4))++[32,97,110,100,32]++iN (oV l f l[i.toNat]!.b) (decide (l[l[i.toNat]!.b.toNat]!.op=4) ||decide (l[l[i.toNat]!.b.toNat]!.op=3))
  else oV l f l[i.toNat]!.a++[32,111,114,32]++iN (oV l f l[i.toNat]!.b) (decide (l[l[i.toNat]!.b.toNat]!.op=4))
def iE (l:List Nd)(i:Int):ai:=oV l (i.toNat+1) i
def uj {l:List Nd}(hk:ez l):∀(f g:Nat)(i:Int),0≤i→i<l.length→i<f→i<g→oV l f i=oV l g i
 |0,_,_,_,_,h,_=>by omega
 |_,0,_,_,_,_,h=>by omega
 |f+1,g+1,i,h0,h1,h2,h3=>by
  obtain⟨k1,k2,k3⟩:=hk i.toNat (by omega);simp only[oV];by_cases e1:l[i.toNat]!.op=1
  ·rw[if_pos e1,if_pos e1]
  ·rw[if_neg e1,if_neg e1];have ka:=k2 e1;rw[uj hk f g l[i.toNat]!.a (by omega) (by omega) (by omega) (by omega)];by_cases e2:l[i.toNat]!.op=2
   ·rw[if_pos e2,if_pos e2]
   ·have kb:=k3 e1 e2;rw[uj hk f g l[i.toNat]!.b (by omega) (by omega) (by omega) (by omega)]
def Ed {l:List Nd}(hk:ez l){i:Int}(h0:0≤i)(h1:i<l.length):iE l i=
  if l[i.toNat]!.op=1 then pN l[i.toNat]!.key++[32,61,32]++l[i.toNat]!.text
  else if l[i.toNat]!.op=2 then
   if l[l[i.toNat]!.a.toNat]!.op=1 then pN l[l[i.toNat]!.a.toNat]!.key++[32,33,61,32]++l[l[i.toNat]!.a.toNat]!.text
   else [110,111,116,32]++iN (iE l l[i.toNat]!.a) (!decide (l[l[i.toNat]!.a.toNat]!.op=2))
  else if l[i.toNat]!.op=3 then iN (iE l l[i.toNat]!.a) (decide (l[l[i.toNat]!.a.toNat]!.op=4))++[32,97,110,100,32]++iN (iE l l[i.toNat]!.b) (decide (l[l[i.toNat]!.b.toNat]!.op=4) ||decide (l[l[i.toNat]!.b.toNat]!.op=3))
  else iE l l[i.toNat]!.a++[32,111,114,32]++iN (iE l l[i.toNat]!.b) (decide (l[l[i.toNat]!.b.toNat]!.op=4)):=by
 obtain⟨k1,k2,k3⟩:=hk i.toNat (by omega)
 conv=>lhs;unfold iE
 simp only[oV];by_cases e1:l[i.toNat]!.op=1
 ·rw[if_pos e1,if_pos e1]
 ·rw[if_neg e1,if_neg e1];have ka:=k2 e1;rw[show oV l i.toNat l[i.toNat]!.a=iE l l[i.toNat]!.a from uj hk _ _ _ (by omega) (by omega) (by omega) (by omega)];by_cases e2:l[i.toNat]!.op=2
  ·rw[if_pos e2,if_pos e2]
  ·have kb:=k3 e1 e2;rw[show oV l i.toNat l[i.toNat]!.b=iE l l[i.toNat]!.b from uj hk _ _ _ (by omega) (by omega) (by omega) (by omega)]
def lI (s:ai)(b:Bool):(iN s b).length≤s.length+4:=by
 unfold iN;split<;>simp
def px {k:Int}(h0:0≤k)(h3:k<3):nM[k.toNat]! =pN k:=by
 obtain rfl|rfl|rfl:k=0∨k=1∨k=2:=by omega
 ·rfl
 ·rfl
 ·rfl
def GP {k:Int}(h0:0≤k)(h3:k<3):nV (([.str [111,115],.str [97,114,99,104],.str [97,98,105]]:List D).getD (0+k.toNat) .any) 1 1 0 false=.str (pN k):=by
 obtain rfl|rfl|rfl:k=0∨k=1∨k=2:=by omega
 ·rfl
 ·rfl
 ·rfl
def mQ (k:Int):(pN k).length≤4:=by
 unfold pN;split
 ·decide
 ·split<;>decide
def wi {l:List Nd}(hk:ez l):∀(f:Nat)(i:Int),0≤i→i<l.length→(oV l f i).length+20≤20*2^(f+1)
 |0,i,_,_=>by simp[oV]
 |f+1,i,h0,h1=>by
  obtain⟨k1,k2,k3⟩:=hk i.toNat (by omega);have hp:20*2^(f+1+1)=20*2^(f+1)+20*2^(f+1):=by rw[Nat.pow_succ 2 (f+1)];omega
  have h1p:1≤2^(f+1):=Nat.one_le_two_pow;simp only[oV];by_cases e1:l[i.toNat]!.op=1
  ·rw[if_pos e1];have:=mQ l[i.toNat]!.key;have:=k1 e1;simp only[List.length_append,List.length_cons,List.length_nil];omega
  ·rw[if_neg e1];have ka:=k2 e1;have la:=wi hk f l[i.toNat]!.a (by omega) (by omega);have wa:=fun b=>lI (oV l f l[i.toNat]!.a) b
   by_cases e2:l[i.toNat]!.op=2
   ·rw[if_pos e2];split
    ·rename_i e3;have:=mQ l[l[i.toNat]!.a.toNat]!.key;have:=((hk l[i.toNat]!.a.toNat (by omega)).1 e3).2.2;simp only[List.length_append,List.length_cons,List.length_nil];omega
    ·have:=wa (!decide (l[l[i.toNat]!.a.toNat]!.op=2));simp only[List.length_append,List.length_cons,List.length_nil];omega
   ·rw[if_neg e2];have kb:=k3 e1 e2;have lb:=wi hk f l[i.toNat]!.b (by omega) (by omega);have wb:=fun b=>lI (oV l f l[i.toNat]!.b) b
    split
    ·have:=wa (decide (l[l[i.toNat]!.a.toNat]!.op=4));have:=wb (decide (l[l[i.toNat]!.b.toNat]!.op=4) ||decide (l[l[i.toNat]!.b.toNat]!.op=3));simp only[List.length_append,List.length_cons,List.length_nil];omega
    ·have:=wb (decide (l[l[i.toNat]!.b.toNat]!.op=4));simp only[List.length_append,List.length_cons,List.length_nil];omega
def oW {l:List Nd}(hk:ez l)(hl:l.length≤15){i:Int}(h0:0≤i)(h1:i<l.length):(iE l i).length≤1310720:=by
 have h:=wi hk (i.toNat+1) i h0 h1;have:2^(i.toNat+1+1)≤2^16:=Nat.pow_le_pow_right (by omega) (by omega);unfold iE;omega
def kP (l:List Nd):ai:=if l.length=0 then []else iE l ((l.length:Int) -1)
def qq (l:List Nd):Bool:=(decide (l.length≤15)&&kX l)&&decide ((kP l).length≤96)
def Hp (l:List Nd):ai:=if qq l=true then kP l else []
abbrev PR:=Option (Int×List ai×List Nd)
def fw (k:ai):Int:=if k=[111,115]then 0 else if k=[97,114,99,104]then 1 else if k=[97,98,105]then 2 else-1
def kE (k s v:ai):Bool:=(decide (0≤fw k)&&bV v)&&(decide (s=[61]) ||decide (s=[33,61]))
def sQ (k s v:ai)(r:List ai)(nd:List Nd):Int×List ai×List Nd:=
 if s=[33,61]then(((nd++[(⟨1,0,0,fw k,v⟩:Nd)]).length:Nat),r,(nd++[⟨1,0,0,fw k,v⟩])++[⟨2,(nd.length:Nat),0,0,[]⟩])
 else((nd.length:Nat),r,nd++[⟨1,0,0,fw k,v⟩])
def oa (k:ai)(w:List ai)(nd:List Nd):PR:=match w with
 |s::v::r=>if kE k s v=true then some (sQ k s v r nd)else none
 |_=>none
def jv (part:List ai→List Nd→PR)(wd:ai)(op:Int):Nat→Int→List ai→List Nd→PR
 |0,a,w,nd=>some (a,w,nd)
 |f+1,a,w,nd=>match w with
  |[]=>some (a,w,nd)
  |x::r=>if x=wd then(match part r nd with
    |none=>none
    |some (b,w',nd')=>jv part wd op f (nd'.length:Nat) w' (nd'++[⟨op,a,b,0,[]⟩]))
   else some (a,w,nd)
def fP (part:List ai→List Nd→PR)(wd:ai)(op:Int)(w:List ai)(nd:List Nd):PR:=match part w nd with
 |none=>none
 |some (a,w',nd')=>jv part wd op w'.length a w' nd'
def nO:ai:=[110,111,116]
def eZ:ai:=[40]
def jk:ai:=[41]
def jz:ai:=[97,110,100]
def n5:ai:=[111,114]
def mC (r:PR):PR:=match r with
 |some (a,x::w',nd')=>if x=jk then some (a,w',nd')else none
 |_=>none
def Md (r:PR):PR:=match r with
 |some (a,w',nd')=>some ((nd'.length:Nat),w',nd'++[⟨2,a,0,0,[]⟩])
 |none=>none
def pM:Nat→List ai→List Nd→PR
 |0,_,_=>none
 |f+1,w,nd=>match w with
  |[]=>none
  |k::r=>if k=nO then Md (pM f r nd)
   else if k=eZ then mC (fP (fP (pM f) jz 3) n5 4 r nd)
   else oa k r nd
def PB (w:List ai)(nd:List Nd)(w':List ai)(nd':List Nd):Prop:=w'.length≤w.length∧nd'.length+2*w'.length≤nd.length+2*w.length∧w'<:+w
def qJ (part:List ai→List Nd→PR):Prop:=∀w nd a w' nd',part w nd=some (a,w',nd')→PB w nd w' nd'∧w'.length<w.length
def PB.refl (w:List ai)(nd:List Nd):PB w nd w nd:=⟨Nat.le_refl _,Nat.le_refl _,List.suffix_refl _⟩
def PB.trans {w nd w' nd' w2 nd2}(h:PB w nd w' nd')(h2:PB w' nd' w2 nd2):PB w nd w2 nd2:=⟨Nat.le_trans h2.1 h.1,Nat.le_trans h2.2.1 h.2.1,h2.2.2.trans h.2.2⟩
def PB.tail {x:ai}{w:List ai}{nd:List Nd}{w':List ai}{nd':List Nd}(h:PB w nd w' nd')(n:Nd):PB (x::w) nd w' (nd'++[n]):=by
 obtain⟨h1,h2,h3⟩:=h;refine⟨by simp only[List.length_cons];omega,by simp only[List.length_append,List.length_cons,List.length_nil];omega,h3.trans (List.suffix_cons x w)⟩
def PB.rI {x:ai}{w:List ai}{nd:List Nd}{w':List ai}{nd':List Nd}(h:PB w nd w' nd'):PB (x::w) nd w' nd':=by
 obtain⟨h1,h2,h3⟩:=h;exact⟨by simp only[List.length_cons];omega,by simp only[List.length_cons];omega,h3.trans (List.suffix_cons x w)⟩
def uY {part:List ai→List Nd→PR}(hp:qJ part)(wd:ai)(op:Int):∀(f:Nat)(a:Int)(w:List ai)(nd:List Nd)(a':Int)(w':List ai)(nd':List Nd),jv part wd op f a w nd=some (a',w',nd')→PB w nd w' nd'
 |0,a,w,nd,a',w',nd',h=>by simp only[jv,Option.some.injEq,Prod.mk.injEq]at h;obtain⟨rfl,rfl,rfl⟩:=h;exact .refl _ _
 |f+1,a,[],nd,a',w',nd',h=>by simp only[jv,Option.some.injEq,Prod.mk.injEq]at h;obtain⟨rfl,rfl,rfl⟩:=h;exact .refl _ _
 |f+1,a,x::r,nd,a',w',nd',h=>by
  simp only[jv]at h;by_cases hx:x=wd
  ·rw[if_pos hx]at h;cases hq:part r nd with
   |none=>rw[hq]at h;cases h
   |some t=>
    obtain⟨b,w2,nd2⟩:=t;rw[hq]at h;exact((hp _ _ _ _ _ hq).1.tail _).trans (uY hp wd op f _ _ _ _ _ _ h)
  ·rw[if_neg hx]at h;simp only[Option.some.injEq,Prod.mk.injEq]at h;obtain⟨rfl,rfl,rfl⟩:=h;exact .refl _ _
def j8 {part:List ai→List Nd→PR}(hp:qJ part)(wd:ai)(op:Int):qJ (fP part wd op):=by
 intro w nd a w' nd' h;unfold fP at h;cases hq:part w nd with
 |none=>rw[hq]at h;cases h
 |some t=>
  obtain⟨b,w2,nd2⟩:=t;rw[hq]at h;obtain⟨h1,h2⟩:=hp _ _ _ _ _ hq;have:=uY hp wd op _ _ _ _ _ _ _ h;exact⟨h1.trans this,Nat.lt_of_le_of_lt this.1 h2⟩
def na {k:ai}{w:List ai}{nd:List Nd}{a:Int}{w':List ai}{nd':List Nd}(h:oa k w nd=some (a,w',nd')):PB w nd w' nd':=by
 match w,h with
 |s::v::r,h=>
  simp only[oa]at h;split at h
  ·simp only[Option.some.injEq]at h;unfold sQ at h;have hs:r<:+s::v::r:=(List.suffix_cons v r).trans (List.suffix_cons s _);split at h<;>(simp only[Prod.mk.injEq]at h;obtain⟨rfl,rfl,rfl⟩:=h;exact⟨by simp only[List.length_cons];omega,by simp only[List.length_append,List.length_cons,List.length_nil];omega,hs⟩)
  ·cases h
 |[_],h=>cases h
 |[],h=>cases h
def jE:∀f,qJ (pM f)
 |0=>fun w nd a w' nd' h=>by cases h
 |f+1=>by
  intro w nd a w' nd' h
  match w,h with
  |[],h=>cases h
  |k::r,h=>
   simp only[pM]at h;split at h
   ·cases hq:pM f r nd with
    |none=>rw[hq]at h;cases h
    |some t=>
     obtain⟨b,w2,nd2⟩:=t;rw[hq]at h;simp only[Md,Option.some.injEq,Prod.mk.injEq]at h;obtain⟨rfl,rfl,rfl⟩:=h;obtain⟨h1,h2⟩:=jE f _ _ _ _ _ hq;exact⟨h1.tail _,by simp only[List.length_cons];omega⟩
   ·split at h
    ·cases hq:fP (fP (pM f) jz 3) n5 4 r nd with
     |none=>rw[hq]at h;cases h
     |some t=>
      obtain⟨b,w2,nd2⟩:=t;rw[hq]at h;obtain⟨h1,h2⟩:=j8 (j8 (jE f) _ _) _ _ _ _ _ _ _ hq
      match w2,h,h1,h2 with
      |[],h,_,_=>cases h
      |x::w3,h,h1,h2=>
       simp only[mC]at h;split at h
       ·simp only[Option.some.injEq,Prod.mk.injEq]at h;obtain⟨rfl,rfl,rfl⟩:=h;exact⟨(h1.trans (PB.refl _ _).rI).rI,by simp only[List.length_cons]at h2⊢;omega⟩
       ·cases h
    ·exact⟨(na h).rI,by have:=(na h).1;simp only[List.length_cons];omega⟩
def Av {p p':List ai→List Nd→PR}(hp:qJ p)(wd:ai)(op:Int){u:Nat}(h:∀w nd,w.length<u→p w nd=p' w nd):∀(f:Nat)(a:Int)(w:List ai)(nd:List Nd),w.length≤u→jv p wd op f a w nd=jv p' wd op f a w nd
 |0,a,w,nd,hu=>rfl
 |f+1,a,[],nd,hu=>rfl
 |f+1,a,x::r,nd,hu=>by
  simp only[List.length_cons]at hu;simp only[jv];split
  ·rw[←h r nd (by omega)];cases hq:p r nd with
   |none=>rfl
   |some t=>
    obtain⟨b,w2,nd2⟩:=t;have:=hp _ _ _ _ _ hq;exact Av hp wd op h f _ _ _ (by omega)
  ·rfl
def o9 {p p':List ai→List Nd→PR}(hp:qJ p)(wd:ai)(op:Int){u:Nat}(h:∀w nd,w.length<u→p w nd=p' w nd):∀w nd,w.length<u→fP p wd op w nd=fP p' wd op w nd:=by
 intro w nd hu;unfold fP;rw[←h w nd hu];cases hq:p w nd with
 |none=>rfl
 |some t=>
  obtain⟨b,w2,nd2⟩:=t;have:=hp _ _ _ _ _ hq;exact Av hp wd op h _ _ _ _ (by omega)
def Ds:∀(u f g:Nat)(w:List ai)(nd:List Nd),w.length<u→w.length≤f→w.length≤g→pM f w nd=pM g w nd
 |0,_,_,_,_,h,_,_=>absurd h (Nat.not_lt_zero _)
 |u+1,f,g,[],nd,hu,hf,hg=>by cases f<;>cases g<;>rfl
 |u+1,0,_,_::_,_,_,h,_=>by simp at h
 |u+1,_,0,_::_,_,_,_,h=>by simp at h
 |u+1,f+1,g+1,k::r,nd,hu,hf,hg=>by
  simp only[List.length_cons]at hu hf hg;have ih:∀w nd,w.length<r.length+1→pM f w nd=pM g w nd:=fun w nd h=>Ds u f g w nd (by omega) (by omega) (by omega)
  simp only[pM];rw[ih r nd (by omega),o9 (j8 (jE f) _ _) n5 4 (o9 (jE f) jz 3 ih) r nd (by omega)]
def ir (w:List ai)(nd:List Nd):PR:=pM w.length w nd
def iV:List ai→List Nd→PR:=fP ir jz 3
def fS:List ai→List Nd→PR:=fP iV n5 4
def r9:qJ ir:=fun w nd a w' nd' h=>jE _ w nd a w' nd' h
def uA:qJ iV:=j8 r9 _ _
def tX (k:ai)(r:List ai)(nd:List Nd):ir (k::r) nd=if k=nO then Md (ir r nd)else if k=eZ then mC (fS r nd)else oa k r nd:=by
 show pM (r.length+1) (k::r) nd=_;simp only[pM];have ih:∀w nd,w.length<r.length+1→pM r.length w nd=ir w nd:=fun w nd h=>Ds (r.length+1) _ _ w nd h (by omega) (Nat.le_refl _)
 rw[show pM r.length r nd=ir r nd from rfl,o9 (j8 (jE _) _ _) n5 4 (o9 (jE _) jz 3 ih) r nd (by omega)];rfl
def xD {part:List ai→List Nd→PR}{wd:ai}{op:Int}{f:Nat}{a:Int}{nd:List Nd}:jv part wd op f a [] nd=some (a,[],nd):=by cases f<;>rfl
def GZ {part:List ai→List Nd→PR}{wd:ai}{op:Int}{f:Nat}{a:Int}{w:List ai}{nd:List Nd}(h:w.head? ≠some wd):jv part wd op f a w nd=some (a,w,nd):=by
 cases f with
 |zero=>rfl
 |succ f=>match w,h with
  |[],_=>rfl
  |x::r,h=>simp only[jv];rw[if_neg (by rintro rfl;exact h rfl)]
def uZ {part:List ai→List Nd→PR}(hp:qJ part){wd:ai}{op:Int}:∀(f g:Nat)(a:Int)(w:List ai)(nd:List Nd),w.length≤f→w.length≤g→jv part wd op f a w nd=jv part wd op g a w nd
 |_,_,a,[],nd,_,_=>by rw[xD,xD]
 |0,_,_,_::_,_,h,_=>by simp at h
 |_,0,_,_::_,_,_,h=>by simp at h
 |f+1,g+1,a,x::r,nd,hf,hg=>by
  simp only[List.length_cons]at hf hg;simp only[jv];split
  ·cases hq:part r nd with
   |none=>rfl
   |some t=>
    obtain⟨b,w2,nd2⟩:=t;have:=hp _ _ _ _ _ hq;exact uZ hp f g _ _ _ (by omega) (by omega)
  ·rfl
def DM (part:List ai→List Nd→PR)(wd:ai)(op:Int)(a:Int)(w:List ai)(nd:List Nd):PR:=jv part wd op w.length a w nd
def ES {part:List ai→List Nd→PR}(hp:qJ part){wd:ai}{op:Int}{a:Int}{r:List ai}{nd:List Nd}:DM part wd op a (wd::r) nd=match part r nd with
  |none=>none
  |some (b,w',nd')=>DM part wd op (nd'.length:Nat) w' (nd'++[⟨op,a,b,0,[]⟩]):=by
 show jv part wd op (r.length+1) a (wd::r) nd=_;simp only[jv,if_true];cases hq:part r nd with
 |none=>rfl
 |some t=>
  obtain⟨b,w2,nd2⟩:=t;have:=hp _ _ _ _ _ hq;exact uZ hp _ _ _ _ _ (by omega) (Nat.le_refl _)
structure PO where
 a:Int
 w:List ai
 nd:List Nd
 bad:Bool
def cY (R:PR)(w:List ai)(nd:List Nd)(o:PO):Prop:=(R=some (o.a,o.w,o.nd)∧o.bad=false∨R=none∧o.bad=true)∧PB w nd o.w o.nd
def Ci (s:ai):Option (List Nd):=match fS (ah s 32) []with
 |some (_,[],nd)=>if qq nd=true then some nd else none
 |_=>none
def ij (s:ai):List Nd×Int:=if 96<s.length then([],3)else if s=[]then([],0)else match Ci s with
 |some nd=>(nd,0)
 |none=>([],7)
def ml (s:ai):Bool:=decide ((ij s).2=0)&&decide (Hp (ij s).1=s)
abbrev zN:=List ai→D→Bool→D
def fF:zN:=fun w X b=>.agg [.sl 1 (w.map D.str),X,.bool b]
def fW (W:List ai):zN:=fun w X b=>.agg [.sl 1 (W.map D.str),.int .i64 ((W.length-w.length:Nat):Int),X,.bool b]
def mB (Γ:Ctx)(k:Nat)(ob:zN)(n:Nat)(aaz:List D)(w:List ai)(nd:List Nd)(b:Bool)(P:PO→Prop)(V:PO→D):Prop:=
 ∀(nx lp ln:Nat) (m:List (Nat×bo)) (K:D→St→Prop),look m lp=some (.buf k [ob w (.own ln 5 0 nd.length) b])→look m ln=some (.buf 5 (nd.map Nd.D))→lp<nx→ln<nx→
  (∀o,P o→K (V o) ⟨nx+1,(nx,.buf 5 (o.nd.map Nd.D))::cE (bS m ln) lp (.buf k [ob o.w (.own nx 5 0 o.nd.length) o.bad])⟩)→Γ.tr n (.ptr lp k 0 0::aaz) ⟨nx,m⟩ K
def IU (Γ:Ctx)(k:Nat)(ob:zN)(n:Nat)(aaz:List D)(w:List ai)(nd:List Nd)(b:Bool)(P:PO→Prop)(V:PO→D):Prop:=
 ∀(nx lp ln:Nat) (m:List (Nat×bo)) (K:D→St→Prop),look m lp=some (.buf k [ob w (.own ln 5 0 nd.length) b])→look m ln=some (.buf 5 (nd.map Nd.D))→lp<nx→ln<nx→
  (∀o,P o→K (V o) ⟨nx,cE m lp (.buf k [ob o.w (.own ln 5 0 nd.length) o.bad])⟩)→Γ.tr n (.ptr lp k 0 0::aaz) ⟨nx,m⟩ K
def tv (k:Nat)(ob:zN)(P:PO→Prop)(V:PO→D):D→List (Nat×bo)→Prop:=fun d m=>∃(o:PO)(j:Nat),2≤j∧P o∧d=V o∧look m 0=some (.buf k [ob o.w (.own j 5 0 o.nd.length) o.bad])∧look m j=some (.buf 5 (o.nd.map Nd.D))
def Dh (k:Nat)(ob:zN)(nd:List Nd)(P:PO→Prop)(V:PO→D):D→List (Nat×bo)→Prop:=fun d m=>∃(o:PO),P o∧d=V o∧look m 0=some (.buf k [ob o.w (.own 1 5 0 nd.length) o.bad])∧look m 1=some (.buf 5 (nd.map Nd.D))
def Va:PO→D:=fun o=>.int .i64 o.a
def Ma {m:List (Nat×bo)}(x:Nd):Iu m [.a,.a,.a,.a,.a] (Nd.D x):=⟨rfl,rfl,rfl,rfl,rfl,rfl⟩
def G7 {m:List (Nat×bo)}{lp ln:Nat}{w:List ai}{nd:List Nd}{b:Bool}(h1:look m lp=some (.buf 3 [fF w (.own ln 5 0 nd.length) b]))(h2:look m ln=some (.buf 5 (nd.map Nd.D))):
  j5 m [[.pt [.sl 1 [.a],.sl 5 [.a,.a,.a,.a,.a],.a]]] [.ptr lp 3 0 0]:=by
 refine⟨⟨by simp[et,h1], ?_⟩,trivial⟩;intro e he;simp only[aS,h1,List.mem_singleton]at he;subst he;refine⟨rfl,⟨by simp[et,h2], ?_⟩,rfl,rfl⟩;simp only[aS,h2,List.drop_zero,aE];intro e he;obtain⟨x,_,rfl⟩:=List.mem_map.1 he;exact Ma x
def aQ (w:List ai):ai:=w.headD []
def bj (w:List ai):List ai:=if aQ w=[]then w else w.drop 1
def cy (w:List ai)(b:Bool):Bool:=if aQ w=[]then true else b
def pG {w:List ai}{x:ai}(hx:x≠[])(h:aQ w=x):∃r,w=x::r:=by
 match w,h with
 |[],h=>exact absurd h.symm hx
 |y::r,h=>exact⟨r,by rw[show y=x from h]⟩
def H7 {w:List ai}(h:¬aQ w=[]):1≤w.length:=by
 match w,h with
 |[],h=>exact absurd rfl h
 |_::_,_=>simp
def iD {x:ai}{r:List ai}(hx:x≠[]):bj (x::r)=r:=if_neg hx
def iC {x:ai}{r:List ai}{b:Bool}(hx:x≠[]):cy (x::r) b=b:=if_neg hx
def Fy (w:List ai):bj w<:+w:=by
 unfold bj;split
 ·exact List.suffix_refl _
 ·exact List.drop_suffix 1 w
def m6 (w:List ai)(nd:List Nd):PB w nd (bj w) nd:=by
 have h:=Fy w;have:=h.length_le;exact⟨this,by omega,h⟩
def Bk {w:List ai}{b:Bool}(h:cy w b=false):b=false∧aQ w≠[]∧w=aQ w::bj w:=by
 unfold cy at h;split at h
 ·cases h
 ·rename_i hs;refine⟨h,hs, ?_⟩
  match w,hs with
  |x::r,hs=>rw[iD (x:=x) (r:=r) hs];rfl
def lK (b:Bool)(k:ai)(w:List ai)(nd:List Nd):PR:=if b=true then none else oa k w nd
def Ar {j:Nat}{k:ai}(hj:j<3)(h:nM[j]! =k):fw k=(j:Nat):=by
 obtain rfl|rfl|rfl:j=0∨j=1∨j=2:=by omega
 all_goals (subst h;rfl)
def xz {k:ai}(h:0≤fw k):∃j,j<3∧nM[j]! =k∧fw k=(j:Nat):=by
 unfold fw at h⊢;by_cases h1:k=[111,115]
 ·exact⟨0,by omega,h1.symm,by rw[if_pos h1];rfl⟩
 ·by_cases h2:k=[97,114,99,104]
  ·exact⟨1,by omega,h2.symm,by rw[if_neg h1,if_pos h2];rfl⟩
  ·by_cases h3:k=[97,98,105]
   ·exact⟨2,by omega,h3.symm,by rw[if_neg h1,if_neg h2,if_pos h3];rfl⟩
   ·rw[if_neg h1,if_neg h2,if_neg h3]at h;omega
def B3 (j:Nat)(k s v:ai)(bad:Bool):Bool:=!(((!decide (nM[j]! =k) ||bad) ||(!decide (s=[61])&& !decide (s=[33,61]))) ||!bV v)
def GD {j:Nat}{k:ai}{w:List ai}{nd:List Nd}{b:Bool}(hj:j<3)(h:B3 j k (aQ w) (aQ (bj w)) (cy (bj w) (cy w b))=true):
  lK b k w nd=some (sQ k (aQ w) (aQ (bj w)) (bj (bj w)) nd)∧fw k=(j:Nat)∧cy (bj w) (cy w b)=false:=by
 have h0:=h;simp only[B3,Bool.not_or,Bool.and_eq_true,Bool.not_not,decide_eq_true_eq,Bool.not_eq_true',Bool.not_and,Bool.or_eq_true]at h;obtain⟨⟨⟨h1,h2⟩,h3⟩,h4⟩:=h;have hk:=Ar hj h1;obtain⟨g1,g2,g3⟩:=Bk h2;obtain⟨g4,g5,g6⟩:=Bk g1;refine⟨?_,hk,h2⟩;unfold lK;rw[g4,if_neg (by simp)]
 conv=>lhs;rw[g6,g3]
 simp only[oa];rw[if_pos];simp only[kE,Bool.and_eq_true,Bool.or_eq_true,decide_eq_true_eq];exact⟨⟨by omega,h4⟩,h3⟩
def Ji {k:ai}{w:List ai}{nd:List Nd}{b:Bool}(h:∀j,j<3→B3 j k (aQ w) (aQ (bj w)) (cy (bj w) (cy w b))=false):lK b k w nd=none:=by
 unfold lK;split
 ·rfl
 ·rename_i hb
  match w with
  |[]=>rfl
  |[_]=>rfl
  |s::v::r=>
   simp only[oa];rw[if_neg];intro ha;simp only[kE,Bool.and_eq_true,Bool.or_eq_true,decide_eq_true_eq]at ha;obtain⟨⟨h1,h2⟩,h3⟩:=ha;obtain⟨j,hj,hj2,_⟩:=xz h1;have hs:s≠[]:=by rintro rfl;rcases h3 with h|h<;>cases h
   have hv:v≠[]:=by rintro rfl;cases h2
   have:=h j hj;rw[iD hs,iC hs,iC hv]at this;simp only[Bool.not_eq_true]at hb;subst hb;revert this;simp only[B3,aQ,List.headD_cons,hj2,h2,decide_true];rcases h3 with rfl|rfl<;>simp
def Dk (w:List ai)(nd:List Nd):PB w nd (bj (bj w)) nd:=(m6 w nd).trans (m6 _ nd)
def ur {b:Bool}{k:ai}{w:List ai}{nd:List Nd}{a:Int}{w':List ai}{nd':List Nd}(h:lK b k w nd=some (a,w',nd')):PB w nd w' nd':=by
 unfold lK at h;split at h
 ·cases h
 ·exact na h
def Gx {w:List ai}{nd:List Nd}(h1:aQ w≠nO)(h2:aQ w≠eZ):ir w nd=lK (cy w false) (aQ w) (bj w) nd:=by
 match w with
 |[]=>rfl
 |k::r=>
  have h1:k≠nO:=h1;have h2:k≠eZ:=h2;rw[tX,if_neg h1,if_neg h2];by_cases hk:k=[]
  ·subst hk;show oa [] r nd=none
   match r with
   |[]=>rfl
   |[_]=>rfl
   |s::v::r=>rfl
  ·rw[iD hk,iC hk];rfl
def Gi {R:PR}{o:PO}{w:List ai}{nd:List Nd}(h:cY R w nd o)(hs:aQ o.w≠jk):mC R=none:=by
 rcases h.1 with⟨h1,_⟩|⟨h1,_⟩
 ·rw[h1]
  match ho:o.w,hs with
  |[],_=>rfl
  |x::r,hs=>simp only[mC];exact if_neg hs
 ·rw[h1];rfl
def cY.pb {R:PR}{o:PO}{w:List ai}{nd:List Nd}(h:cY R w nd o):PB w nd o.w o.nd:=h.2
def DZ {r:List ai}{nd:List Nd}{o:PO}(h:cY (ir r nd) r nd o):cY (ir (nO::r) nd) (nO::r) nd ⟨(o.nd.length:Nat),o.w,o.nd++[⟨2,o.a,0,0,[]⟩],o.bad⟩:=by
 refine⟨?_,h.2.tail _⟩;rw[tX,if_pos rfl];rcases h.1 with⟨h1,h2⟩|⟨h1,h2⟩
 ·left;rw[h1];exact⟨rfl,h2⟩
 ·right;rw[h1];exact⟨rfl,h2⟩
def qX (r:List ai)(nd:List Nd):ir (eZ::r) nd=mC (fS r nd):=by rw[tX,if_neg (by decide),if_pos rfl]
def AF {r:List ai}{nd:List Nd}{o:PO}(h:cY (fS r nd) r nd o)(hs:¬aQ o.w=jk):cY (ir (eZ::r) nd) (eZ::r) nd ⟨o.a,bj o.w,o.nd,true⟩:=
 ⟨.inr ⟨by rw[qX,Gi h hs],rfl⟩,h.2.rI.trans (m6 _ _)⟩
def Hl {r:List ai}{nd:List Nd}{o:PO}(h:cY (fS r nd) r nd o)(hs:aQ o.w=jk):cY (ir (eZ::r) nd) (eZ::r) nd ⟨o.a,bj o.w,o.nd,cy o.w o.bad⟩:=by
 refine⟨?_,h.2.rI.trans (m6 _ _)⟩;obtain⟨q,hq⟩:=pG (by decide) hs;rw[qX,hq,iD (by decide),iC (by decide)];rcases h.1 with⟨h1,h2⟩|⟨h1,h2⟩
 ·left;rw[h1,hq];exact⟨by simp only[mC,if_true],h2⟩
 ·right;rw[h1];exact⟨rfl,h2⟩
def Hk {w:List ai}{nd:List Nd}{o:PO}(hf:ir w nd=lK (cy w false) (aQ w) (bj w) nd)(h:cY (lK (cy w false) (aQ w) (bj w) nd) (bj w) nd o):cY (ir w nd) w nd o:=
 ⟨by rw[hf];exact h.1,(m6 w nd).trans h.2⟩
def G1 {s:ai}{o:PO}(h:cY (fS (ah s 32) []) (ah s 32) [] o)(hc:((o.bad ||decide ((0:Int)<(o.w.length:Nat))) ||!qq o.nd)=true):Ci s=none:=by
 unfold Ci;rcases h.1 with⟨h1,h2⟩|⟨h1,h2⟩
 ·rw[h1]
  match hw:o.w with
  |[]=>
   simp only[h2,hw,List.length_nil,Bool.false_or]at hc;have:qq o.nd=false:=by simpa using hc
   simp only[this,Bool.false_eq_true,if_false]
  |x::r=>rfl
 ·rw[h1]
def DQ {s:ai}{o:PO}(h:cY (fS (ah s 32) []) (ah s 32) [] o)(hc:((o.bad ||decide ((0:Int)<(o.w.length:Nat))) ||!qq o.nd)=false):Ci s=some o.nd:=by
 simp only[Bool.or_eq_false_iff,decide_eq_false_iff_not,Bool.not_eq_false']at hc;unfold Ci;rcases h.1 with⟨h1,h2⟩|⟨h1,h2⟩
 ·rw[h1]
  match hw:o.w with
  |[]=>simp only[hc.2,if_true]
  |x::r=>exact absurd hc.1.2 (by rw[hw];simp)
 ·rw[h2]at hc;exact absurd hc.1.1 (by simp)
def DP {s:ai}{nd:List Nd}(h1:¬96<s.length)(h2:¬s=[])(h:Ci s=some nd):ij s=(nd,0):=by simp only[ij,h,if_neg h1,if_neg h2]
def DO {s:ai}(h1:¬96<s.length)(h2:¬s=[])(h:Ci s=none):ij s=([],7):=by simp only[ij,h,if_neg h1,if_neg h2]
def Bz (part:List ai→List Nd→PR)(wd:ai)(op:Int)(R:PR)(w:List ai)(nd:List Nd)(o:PO):Prop:=(o.bad=false∧R=DM part wd op o.a o.w o.nd∨o.bad=true∧R=none)∧PB w nd o.w o.nd
def Bz.first {part:List ai→List Nd→PR}{wd:ai}{op:Int}{w:List ai}{nd:List Nd}{o:PO}(h:cY (part w nd) w nd o):Bz part wd op (fP part wd op w nd) w nd o:=by
 refine⟨?_,h.2⟩;rcases h.1 with⟨h1,h2⟩|⟨h1,h2⟩
 ·left;refine⟨h2, ?_⟩;unfold fP;rw[h1];rfl
 ·right;refine⟨h2, ?_⟩;unfold fP;rw[h1]
def Bz.next {part:List ai→List Nd→PR}(hp:qJ part){wd:ai}{op:Int}{R:PR}{w:List ai}{nd:List Nd}{a:Int}{r:List ai}{nd1:List Nd}{o:PO}(h:Bz part wd op R w nd ⟨a,wd::r,nd1,false⟩)(h2:cY (part r nd1) r nd1 o):
  Bz part wd op R w nd ⟨(o.nd.length:Nat),o.w,o.nd++[⟨op,a,o.a,0,[]⟩],o.bad⟩:=by
 refine⟨?_,h.2.trans (h2.2.tail _)⟩;rcases h.1 with⟨_,h1⟩|⟨h1,_⟩
 ·rw[ES hp]at h1;rcases h2.1 with⟨g1,g2⟩|⟨g1,g2⟩
  ·left;exact⟨g2,by rw[h1,g1]⟩
  ·right;exact⟨g2,by rw[h1,g1]⟩
 ·cases h1
def Bz.last {part:List ai→List Nd→PR}{wd:ai}{op:Int}{R:PR}{w:List ai}{nd:List Nd}{o:PO}(h:Bz part wd op R w nd o)(hx:o.bad=true∨o.w.head? ≠some wd):cY R w nd o:=by
 refine⟨?_,h.2⟩;rcases h.1 with⟨h1,h2⟩|⟨h1,h2⟩
 ·left;refine⟨?_,h1⟩;rw[h2];unfold DM;rw[GZ];rcases hx with hx|hx
  ·rw[h1]at hx;cases hx
  ·exact hx
 ·right;exact⟨h2,h1⟩
def eP (w:List ai)(s:ai):Bool:=match w with
 |x::_=>decide (x=s)
 |[]=>false
def mn (w:List ai)(s:ai):List ai:=if eP w s=true then w.drop 1 else w
def rB (w:List ai)(b:Bool):Bool:=if w=[]then true else b
def lB {w:List ai}{s:ai}(h:eP w s=true):∃r,w=s::r:=by
 match w,h with
 |x::r,h=>exact⟨r,by rw[show x=s by simpa[eP]using h]⟩
def qu (s:ai)(r:List ai):eP (s::r) s=true:=by simp[eP]
def jN (s:ai)(r:List ai):mn (s::r) s=r:=by unfold mn;rw[if_pos (qu s r)];rfl
def mS {w:List ai}{s:ai}(h:eP w s=false):mn w s=w:=by unfold mn;rw[if_neg (by rw[h];simp)]
def vk {w:List ai}{s:ai}(h:eP w s=false):w.head? ≠some s:=by
 match w,h with
 |[],_=>simp
 |x::r,h=>intro e;have e:x=s:=(by simpa using e);subst e;rw[qu]at h;cases h
def Ea {W w:List ai}(h:w<:+W)(hw:1≤w.length):W.length-w.length<W.length∧W[W.length-w.length]! =w[0]! :=by
 have hl:=h.length_le;have he:=List.suffix_iff_eq_drop.1 h;refine⟨by omega, ?_⟩;have h1:(W.drop (W.length-w.length))[0]! =w[0]! :=by rw[←he]
 rw[←h1];have h2:W.length-w.length<W.length:=by omega
 simp[h2]
def DT {W w:List ai}(h:w<:+W)(s:ai):(decide (((W.length-w.length:Nat):Int)<(W.length:Nat))&&decide (W[W.length-w.length]! =s))=eP w s:=by
 have hl:=h.length_le
 match w with
 |[]=>
  have:decide (((W.length-([]:List ai).length:Nat):Int)<(W.length:Nat))=false:=decide_eq_false (by simp);rw[this];rfl
 |x::r=>
  obtain⟨h1,h2⟩:=Ea h (by simp);rw[h2,decide_eq_true (by omega),Bool.true_and];rfl
def D3 {W:List ai}{x:ai}{r:List ai}{X:D}{b:Bool}(h:(x::r).length≤W.length):tM (fW W (x::r) X b) 4 1 1 (.int .i64 (((W.length-(x::r).length:Nat):Int)+1))=fW W r X b:=by
 have:((W.length-(x::r).length:Nat):Int)+1=((W.length-r.length:Nat):Int):=by simp only[List.length_cons]at h⊢;omega
 rw[this];rfl
def uH (w:List ai)(nd:List Nd):PR:=match w with
 |k::r=>oa k r nd
 |[]=>none
def DE (k:ai)(i:Nat):Int:=if fw k<i then fw k else-1
def DF (k:ai):-1≤fw k:=by
 unfold fw;split
 ·decide
 ·split
  ·decide
  ·split<;>decide
def Js (k:ai):fw k<3:=by
 unfold fw;split
 ·decide
 ·split
  ·decide
  ·split<;>decide
def Jr {k:ai}{i:Nat}(hi:i<3)(h:pN (i:Int)=k):DE k (i+1)=(i:Int):=by
 have:fw k=(i:Nat):=Ar hi (by rw[←h];exact px (k:=(i:Int)) (by omega) (by omega));unfold DE;rw[this,if_pos (by omega)]
def L5 {k:ai}{i:Nat}(hi:i<3)(h:¬pN (i:Int)=k):DE k (i+1)=DE k i:=by
 have h1:fw k≠(i:Nat):=by
  intro e;obtain⟨j,hj,hj2,hj3⟩:=xz (k:=k) (by omega);have:j=i:=by omega
  subst this;exact h (by rw[←hj2];exact(px (k:=(j:Int)) (by omega) (by omega)).symm)
 have:=DF k;unfold DE;by_cases h2:fw k<i
 ·rw[if_pos (by omega),if_pos h2]
 ·rw[if_neg (by omega),if_neg h2]
def PY (k:ai):DE k 0=-1:=by
 have:=DF k;unfold DE;split
 ·omega
 ·rfl
def PZ (k:ai):DE k 3=fw k:=by
 have:=Js k;unfold DE;rw[if_pos (by omega)]
def xf (k s v:ai):(((decide (fw k<0) ||!bV v)) ||(!decide (s=[61])&& !decide (s=[33,61])))=!kE k s v:=by
 unfold kE;rw[show decide (0≤fw k)=!decide (fw k<0)from by rw[←decide_not];exact decide_eq_decide.2 (by omega)];generalize decide (fw k<0)=a;generalize bV v=b;generalize decide (s=[61])=c;generalize decide (s=[33,61])=d;cases a<;>cases b<;>cases c<;>cases d<;>rfl
def Ep {w:List ai}{nd:List Nd}(h:kE (aQ w) (aQ (w.drop 1)) (aQ ((w.drop 1).drop 1))=true):∃r,w=aQ w::aQ (w.drop 1)::aQ ((w.drop 1).drop 1)::r∧uH w nd=some (sQ (aQ w) (aQ (w.drop 1)) (aQ ((w.drop 1).drop 1)) r nd):=by
 match w,h with
 |[],h=>cases h
 |[_],h=>simp[kE,aQ,bV]at h
 |[_,_],h=>simp[kE,aQ,bV]at h
 |k::s::v::r,h=>exact⟨r,rfl,by simp only[uH,oa];exact if_pos h⟩
def Gd {w:List ai}{nd:List Nd}(h:kE (aQ w) (aQ (w.drop 1)) (aQ ((w.drop 1).drop 1))=false):uH w nd=none:=by
 match w,h with
 |[],h=>rfl
 |[_],h=>rfl
 |[_,_],h=>rfl
 |k::s::v::r,h=>simp only[uH,oa];exact if_neg (by rw[show kE k s v=false from h];simp)
def yJ (w:List ai)(nd:List Nd):PB w nd (w.drop 1) nd:=by
 have h:w.drop 1<:+w:=List.drop_suffix 1 w;have:=h.length_le;exact⟨this,by omega,h⟩
def xn {w:List ai}{nd:List Nd}{a:Int}{w':List ai}{nd':List Nd}(h:uH w nd=some (a,w',nd')):PB w nd w' nd':=by
 match w,h with
 |k::r,h=>exact(na h).rI
def LX {w:List ai}{nd:List Nd}(h1:eP w nO=false)(h2:eP w eZ=false):ir w nd=uH w nd:=by
 match w,h1,h2 with
 |[],_,_=>rfl
 |k::r,h1,h2=>
  have h1:¬k=nO:=by simpa[eP]using h1
  have h2:¬k=eZ:=by simpa[eP]using h2
  rw[tX,if_neg h1,if_neg h2];rfl
def Ev {R:PR}{o:PO}{w:List ai}{nd:List Nd}(h:cY R w nd o)(hs:eP o.w jk=false):mC R=none:=by
 rcases h.1 with⟨h1,_⟩|⟨h1,_⟩
 ·rw[h1]
  match ho:o.w,hs with
  |[],_=>rfl
  |x::r,hs=>simp only[mC];exact if_neg (by simpa[eP]using hs)
 ·rw[h1];rfl
def zc {r:List ai}{nd:List Nd}{o:PO}(h:cY (fS r nd) r nd o)(hs:eP o.w jk=false):cY (ir (eZ::r) nd) (eZ::r) nd ⟨o.a,o.w,o.nd,true⟩:=
 ⟨.inr ⟨by rw[qX,Ev h hs],rfl⟩,h.2.rI⟩
def E4 {r:List ai}{nd:List Nd}{o:PO}{q:List ai}(h:cY (fS r nd) r nd o)(hs:o.w=jk::q):cY (ir (eZ::r) nd) (eZ::r) nd ⟨o.a,q,o.nd,o.bad⟩:=by
 refine⟨?_,(h.2.rI (x:=eZ)).trans (by rw[hs];exact(PB.refl _ _).rI)⟩;rw[qX];rcases h.1 with⟨h1,h2⟩|⟨h1,h2⟩
 ·left;rw[h1,hs];exact⟨by simp only[mC,if_true],h2⟩
 ·right;rw[h1];exact⟨rfl,h2⟩
def PB.FM {w w':List ai}{nd nd':List Nd}{W:List ai}(h:PB w nd w' nd')(hW:w<:+W):w'<:+W:=h.2.2.trans hW
def sa (f:Nat→Int):Nat→Nat→Int
 |_,0=>0
 |i,k+1=>if f i=0 then sa f (i+1) k else f i
def iW (f:Nat→Int)(i n:Nat):Int:=sa f i (n-i)
def pk {f:Nat→Int}{i n:Nat}(h:i<n)(hf:f i=0):iW f i n=iW f (i+1) n:=by
 unfold iW;obtain⟨k,hk⟩:∃k,n-i=k+1:=⟨n-i-1,by omega⟩
 rw[hk,show n-(i+1)=k by omega];simp only[sa,hf,if_true]
def lL {f:Nat→Int}{i n:Nat}(h:i<n)(hf:f i≠0):iW f i n=f i:=by
 unfold iW;obtain⟨k,hk⟩:∃k,n-i=k+1:=⟨n-i-1,by omega⟩
 rw[hk];simp only[sa,hf,if_false]
def pj {f:Nat→Int}{i n:Nat}(h:n≤i):iW f i n=0:=by
 unfold iW;rw[show n-i=0 by omega];rfl
def nt (f:Nat→Int):Nat→Nat→Int×Int
 |_,0=>(0,0)
 |i,k+1=>if f i=0 then nt f (i+1) k else(f i,((i:Nat):Int))
def gr (f:Nat→Int)(i n:Nat):Int×Int:=nt f i (n-i)
def lz {f:Nat→Int}{i n:Nat}(h:i<n)(hf:f i=0):gr f i n=gr f (i+1) n:=by
 unfold gr;obtain⟨k,hk⟩:∃k,n-i=k+1:=⟨n-i-1,by omega⟩
 rw[hk,show n-(i+1)=k by omega];simp only[nt,hf,if_true]
def iw {f:Nat→Int}{i n:Nat}(h:i<n)(hf:f i≠0):gr f i n=(f i,((i:Nat):Int)):=by
 unfold gr;obtain⟨k,hk⟩:∃k,n-i=k+1:=⟨n-i-1,by omega⟩
 rw[hk];simp only[nt,hf,if_false]
def lx {f:Nat→Int}{i n:Nat}(h:n≤i):gr f i n=(0,0):=by
 unfold gr;rw[show n-i=0 by omega];rfl
def eL (r:Rec)(name rng:ai):Int:=if eY name=false then 4 else if name=r.name then 8 else if nF rng=false then 6 else 0
def J1 (l:List ai)(i:Nat):Bool:=bV l[i]! && !(decide (0<i)&& !Op.bytesLess l[i-1]! l[i]!)
def jl (l:List ai)(alone:Bool):Bool:=(decide (l.length≤6)&&(alone ||decide (l.length=0)))&&b8 (J1 l) 0 l.length
def gY (r:Rec)(w:bm)(alone:Bool):Int:=if eL r w.name w.range≠0 then eL r w.name w.range else if jl w.feats alone=false then 11 else 0
def my (r:Rec)(l:List bm):Int:=iW (fun i=>gY r l[i]! (decide ((l.length:Int)=1))) 0 l.length
def fJ (r:Rec)(n:aP):Int:=if n.any.length=0 then 9 else if 3<n.any.length then 3 else if my r n.any≠0 then my r n.any else
 if ml n.when'=false then 7 else if n.option≠[]∧bV n.option=false then 14 else 0
def nP (r:Rec)(b:ec):Int:=if eL r b.name b.range≠0 then eL r b.name b.range else if ml b.when'=false then 7 else 0
def Co (l:List aP)(x:ai):Bool:=l.any fun n=>decide (n.option=x)
def vC (l:List aP)(x:ai):Bool:=l.any fun n=>decide (n.any.length=1)&&decide (n.any[0]!.name=x)
def kg (r:Rec)(s:ai):Int:=if(cg s).1=2∧Co r.needs (cg s).2.1=false then 14 else if(cg s).1=3∧vC r.needs (cg s).2.1=false then 16 else 0
def iY (r:Rec)(of:List ai):Int:=iW (fun i=>kg r of[i]!) 0 of.length
def lW (r:Rec):Int×Int:=gr (fun i=>fJ r r.needs[i]!) 0 r.needs.length
def qL (r:Rec):Int×Int:=gr (fun i=>nP r r.bars[i]!) 0 r.bars.length
def yL (r:Rec):Int×Int:=gr (fun i=>iY r r.feats[i]!.of) 0 r.feats.length
def dh (r:Rec):Int×Int:=if(lW r).1≠0 then lW r else if(qL r).1≠0 then qL r else if fo r.feats=false then(11,0)else yL r
def Ij (n:Nat)(al:Bool):(decide ((6:Int)<(n:Nat)) ||(decide ((0:Int)<(n:Nat))&& !al))=!(decide (n≤6)&&(al ||decide (n=0))):=by
 rw[show decide ((6:Int)<(n:Nat))=!decide (n≤6)from by rw[←decide_not];exact decide_eq_decide.2 (by omega),show decide ((0:Int)<(n:Nat))=!decide (n=0)from by rw[←decide_not];exact decide_eq_decide.2 (by omega)];generalize decide (n≤6)=a;generalize decide (n=0)=b;cases a<;>cases b<;>cases al<;>rfl
def QL (l:List ai)(i:Nat):(!bV l[i]! ||(decide ((0:Int)<(i:Nat))&& !Op.bytesLess l[i-1]! l[i]!))=!J1 l i:=by
 unfold J1;rw[show decide ((0:Int)<(i:Nat))=decide (0<i)from decide_eq_decide.2 (by omega)];generalize bV l[i]! =a;generalize decide (0<i)=b;generalize Op.bytesLess l[i-1]! l[i]! =c;cases a<;>cases b<;>cases c<;>rfl
def wf_2 (l:List ai)(al:Bool):(b8 (fun i=>bV l[i]!) 0 l.length&&((decide (l.length≤6)&&rising l)&&(al ||decide (l.length=0))))=jl l al:=by
 have h1:b8 (J1 l) 0 l.length=(b8 (fun i=>bV l[i]!) 0 l.length&&rising l):=by
  rw[Bool.eq_iff_iff,Bool.and_eq_true];unfold rising;simp only[dS,J1,Bool.and_eq_true,Bool.not_eq_true',Bool.and_eq_false_iff,decide_eq_false_iff_not,Bool.not_eq_false'];constructor
  ·intro h;exact⟨fun j a b=>(h j a b).1,fun j a b=>((h j (by omega) b).2).resolve_left (by omega)⟩
  ·rintro⟨h1,h2⟩ j a b;exact⟨h1 j a b,by by_cases hj:0<j;exact .inr (h2 j (by omega) b);exact .inl hj⟩
 unfold jl;rw[h1];generalize b8 (fun i=>bV l[i]!) 0 l.length=a;generalize decide (l.length≤6)=b;generalize rising l=c;generalize decide (l.length=0)=d;cases a<;>cases b<;>cases c<;>cases d<;>cases al<;>rfl
def Ir (k:Int)(x:ai)(n:aP):Bool:=(decide (k=2)&&decide (n.option=x)) ||((decide (k=3)&&decide ((n.any.length:Int)=1))&&decide (n.any[0]!.name=x))
def L4 (k:Int):Int:=if k=2 then 14 else if k=3 then 16 else 0
def GN (r:Rec)(s:ai):kg r s=if r.needs.any (Ir (cg s).1 (cg s).2.1)=true then 0 else L4 (cg s).1:=by
 unfold kg L4 Co vC;generalize (cg s).1=k;generalize (cg s).2.1=x;by_cases h2:k=2
 ·subst h2;have:Ir 2 x=fun n=>decide (n.option=x):=by funext n;simp[Ir]
  rw[this];cases r.needs.any fun n=>decide (n.option=x)<;>simp
 ·by_cases h3:k=3
  ·subst h3;have:Ir 3 x=fun n=>decide (n.any.length=1)&&decide (n.any[0]!.name=x):=by
    funext n;simp only[Ir];rw[show decide ((n.any.length:Int)=1)=decide (n.any.length=1)from decide_eq_decide.2 (by omega)];simp
   rw[this];cases r.needs.any fun n=>decide (n.any.length=1)&&decide (n.any[0]!.name=x)<;>simp
  ·have:Ir k x=fun _=>false:=by funext n;simp[Ir,h2,h3]
   rw[this];simp[h2,h3]
def yy {α:Type} [Inhabited α]{c:α→Bool}{l:List α}{i:Nat}(h:i<l.length)(hc:c l[i]! =true):(l.drop i).any c=true:=by
 rw[List.drop_eq_getElem_cons h,List.any_cons];have:l[i]! =l[i]:=by simp[h]
 rw[←this,hc,Bool.true_or]
def BM {α:Type} [Inhabited α]{c:α→Bool}{l:List α}{i:Nat}(h:i<l.length)(hc:c l[i]! =false):(l.drop i).any c=(l.drop (i+1)).any c:=by
 rw[List.drop_eq_getElem_cons h,List.any_cons];have:l[i]! =l[i]:=by simp[h]
 rw[←this,hc,Bool.false_or]
def yx {α:Type}{c:α→Bool}{l:List α}{i:Nat}(h:l.length≤i):(l.drop i).any c=false:=by
 rw[List.drop_eq_nil_of_le h];rfl
def dJ:ai:=[110,101,101,100]
def fj:ai:=[97,110,121]
def ek:ai:=[119,104,101,110]
def cr:ai:=[111,112,116,105,111,110]
def fE:ai:=[98,97,114]
def bQ:ai:=[102,101,97,116,117,114,101]
def cL:ai:=[112,97,99,107,97,103,101]
def kt:ai:=[102,117,108,108]
def cV:ai:=[98,97,114,101]
def bY (l:List ai):ai:=aM [32] l++[10]
def oX (w:bm):List ai:=[fj,w.name,if w.feats.length=0 then [45]else aM [44] w.feats,if w.bare=true then cV else kt,w.range]
def gX (s:ai):ai:=if s=[]then []else bY [ek,s]
def ru (s:ai):ai:=if s=[]then []else bY [cr,s]
def tc (n:aP):ai:=bY [dJ]++(n.any.map fun w=>bY (oX w)).flatten++gX n.when'++ru n.option
def yB (b:ec):ai:=bY [fE,b.name,b.range]++gX b.when'
def qZ (f:bd):ai:=bY ([bQ,f.name]++f.of)
def pX (r:Rec):ai:=bY [cL,r.name,lv r.v]
def nN (r:Rec):ai:=pX r++(r.needs.map tc).flatten++(r.bars.map yB).flatten++(r.feats.map qZ).flatten
def bX (r:Rec):Int×Int:=if eY r.name=false then(4,0)else if iF r.v=false then(5,0)else if 8<r.needs.length∨8<r.bars.length then(3,0)else
 if(dh r).1≠0 then dh r else if 4096<(nN r).length then(3,0)else(0,0)
def nE (r:Rec):ai×Int:=if(bX r).1≠0 then([],(bX r).1)else(nN r,0)
def bm.sm (w:bm):Prop:=(w.name.length≤1048576∧w.range.length≤1048576)∧∀t∈w.feats,t.length≤1048576
def aP.sm (n:aP):Prop:=(∀w∈n.any,w.sm)∧n.when'.length≤1048576∧n.option.length≤1048576
def ec.sm (b:ec):Prop:=b.name.length≤1048576∧b.range.length≤1048576∧b.when'.length≤1048576
def gA (r:Rec):Prop:=(r.name.length≤1048576∧r.v.sm)∧(∀n∈r.needs,n.sm)∧(∀b∈r.bars,b.sm)∧nr r.feats
def AG {r:Rec}{e:Int×Int}(h:lW r=e)(hn:e.1≠0):dh r=e:=by rw[dh,if_pos (by rw[h];exact hn),h]
def vy {r:Rec}{e:Int×Int}(h0:lW r=(0,0))(h:qL r=e)(hn:e.1≠0):dh r=e:=by rw[dh,if_neg (by rw[h0];simp),if_pos (by rw[h];exact hn),h]
def AH {r:Rec}(h0:lW r=(0,0))(h1:qL r=(0,0))(h:fo r.feats=false):dh r=(11,0):=by rw[dh,if_neg (by rw[h0];simp),if_neg (by rw[h1];simp),if_pos h]
def rv {r:Rec}{e:Int×Int}(h0:lW r=(0,0))(h1:qL r=(0,0))(h:fo r.feats=true)(h2:yL r=e):dh r=e:=by rw[dh,if_neg (by rw[h0];simp),if_neg (by rw[h1];simp),if_neg (by rw[h];simp),h2]
def Ak (f:Nat→Int):∀(k i:Nat),(nt f i k).1=0→nt f i k=(0,0)
 |0,_,_=>rfl
 |k+1,i,h=>by
  simp only[nt]at h⊢;by_cases hf:f i=0
  ·rw[if_pos hf]at h⊢;exact Ak f k (i+1) h
  ·rw[if_neg hf]at h;exact absurd h hf
def AI {r:Rec}(h:(dh r).1=0):dh r=(0,0):=by
 unfold dh at h⊢;split
 ·rename_i h1;rw[if_pos h1]at h;exact absurd h h1
 ·rename_i h1;rw[if_neg h1]at h;split
  ·rename_i h2;rw[if_pos h2]at h;exact absurd h h2
  ·rename_i h2;rw[if_neg h2]at h;split
   ·rename_i h3;rw[if_pos h3]at h;cases h
   ·rename_i h3;rw[if_neg h3]at h;exact Ak _ _ _ h
def mM {r:Rec}{e:Int×Int}(h0:eY r.name=true)(h1:iF r.v=true)(h2:¬8<r.needs.length)(h3:¬8<r.bars.length)(hp:dh r=e)(hn:e.1≠0):bX r=e:=by
 rw[bX,if_neg (by simp[h0]),if_neg (by simp[h1]),if_neg (by rintro(h|h);exact h2 h;exact h3 h),if_pos (by rw[hp];exact hn),hp]
def qQ {r:Rec}(h0:eY r.name=true)(h1:iF r.v=true)(h2:¬8<r.needs.length)(h3:¬8<r.bars.length)(hp:dh r=(0,0)):bX r=if 4096<(nN r).length then(3,0)else(0,0):=by
 rw[bX,if_neg (by simp[h0]),if_neg (by simp[h1]),if_neg (by rintro(h|h);exact h2 h;exact h3 h),if_neg (by rw[hp];simp)]
def pW (r:Rec):Prop:=(eY r.name=true∧iF r.v=true)∧(r.needs.length≤8∧r.bars.length≤8)∧dh r=(0,0)
def nS (n:Nat)(l:List ai):List ai:=if l.length≤n then l else l.take (n-1)++[aM [32] (l.drop (n-1))]
def dx (n:Nat)(op:Bool)(t:ai):List ai:=if op=true then nS n (ah t 32)else ah t 32
def dd (w:ai)(n:Nat)(op:Bool)(t:ai):Option (List ai):=
 if(dx n op t)[0]! =w∧(n=0∨(dx n op t).length=n)∧[]∉dx n op t then some (dx n op t)else none
def bI (w:ai)(n:Nat)(op:Bool):List ai→Option (List ai×List ai)
 |[]=>none
 |t::r=>match dd w n op t with
  |some l=>some (l,r)
  |none=>none
def bG (ls:List ai):ai×List ai:=match bI ek 2 true ls with
 |some (l,r)=>(l[1]!,r)
 |none=>([],ls)
def js (l:List ai):Bool:=decide (l[3]! =cV) ||decide (l[3]! =kt)
def e7 (l:List ai):bm:=⟨l[1]!,l[4]!,if l[2]! =[45]then []else ah l[2]! 44,decide (l[3]! =cV)⟩
def bL:List ai→List bm×List ai
 |[]=>([],[])
 |t::r=>match dd fj 5 true t with
  |some l=>if js l=true then(e7 l::(bL r).1,(bL r).2)else([],t::r)
  |none=>([],t::r)
def mH (ls:List ai):ai×List ai:=match bI cr 2 false ls with
 |some (l,r)=>(l[1]!,r)
 |none=>([],ls)
def dA (ls:List ai):aP×List ai:=(⟨(bL ls).1,(bG (bL ls).2).1,(mH (bG (bL ls).2).2).1⟩,(mH (bG (bL ls).2).2).2)
def kL:Nat→List ai→List aP×List ai
 |0,ls=>([],ls)
 |f+1,ls=>match bI dJ 1 false ls with
  |some (_,r)=>((dA r).1::(kL f (dA r).2).1,(kL f (dA r).2).2)
  |none=>([],ls)
def nK:Nat→List ai→List ec×List ai
 |0,ls=>([],ls)
 |f+1,ls=>match bI fE 3 true ls with
  |some (l,r)=>(⟨l[1]!,l[2]!,(bG r).1⟩::(nK f (bG r).2).1,(nK f (bG r).2).2)
  |none=>([],ls)
def cA:List ai→List bd×List ai
 |[]=>([],[])
 |t::r=>match dd bQ 0 false t with
  |some l=>if 2≤l.length then(⟨l[1]!,l.drop 2⟩::(cA r).1,(cA r).2)else([],t::r)
  |none=>([],t::r)
def ik:Rec:=⟨[],dY,[],[],[]⟩
def df (ls:List ai):List aP×List ai:=kL ls.length ls
def fQ (ls:List ai):List ec×List ai:=nK ls.length ls
def pU (nm:ai)(v:b7)(r:List ai):Rec×List ai:=(⟨nm,v,(df r).1,(fQ (df r).2).1,(cA (fQ (df r).2).2).1⟩,(cA (fQ (df r).2).2).2)
def mY (ls:List ai):Option (Rec×List ai):=match bI cL 3 false ls with
 |some (l,r)=>match ee l[2]! with
  |some v=>some (pU l[1]! v r)
  |none=>none
 |none=>none
def gS {w:ai}{n:Nat}{op:Bool}{ls l r:List ai}(h:bI w n op ls=some (l,r)):r.length+1=ls.length:=by
 match ls,h with
 |t::q,h=>
  simp only[bI]at h;split at h
  ·cases h;rfl
  ·cases h
 |[],h=>cases h
def pH (ls:List ai):(bG ls).2.length≤ls.length:=by
 unfold bG;split
 ·rename_i l r h;have:=gS h;simp only;omega
 ·exact Nat.le_refl _
def Hg (ls:List ai):(mH ls).2.length≤ls.length:=by
 unfold mH;split
 ·rename_i l r h;have:=gS h;simp only;omega
 ·exact Nat.le_refl _
def tu:∀ls:List ai,(bL ls).2.length≤ls.length
 |[]=>Nat.le_refl _
 |t::r=>by
  have:=tu r;simp only[bL];split
  ·split
   ·simp only[List.length_cons];omega
   ·exact Nat.le_refl _
  ·exact Nat.le_refl _
def sk (ls:List ai):(dA ls).2.length≤ls.length:=by
 have h1:=tu ls;have h2:=pH (bL ls).2;have h3:=Hg (bG (bL ls).2).2;show(mH (bG (bL ls).2).2).2.length≤_;omega
def xI:∀(f g:Nat)(ls:List ai),ls.length≤f→ls.length≤g→kL f ls=kL g ls
 |0,0,_,_,_=>rfl
 |0,g+1,ls,h,_=>by
  have:ls=[]:=List.length_eq_zero_iff.1 (by omega);subst this;rfl
 |f+1,0,ls,_,h=>by
  have:ls=[]:=List.length_eq_zero_iff.1 (by omega);subst this;rfl
 |f+1,g+1,ls,hf,hg=>by
  simp only[kL];cases h:bI dJ 1 false ls with
  |none=>rfl
  |some p=>
   obtain⟨l,r⟩:=p;have h1:=gS h;have h2:=sk r;simp only;rw[xI f g _ (by omega) (by omega)]
def zY:∀(f g:Nat)(ls:List ai),ls.length≤f→ls.length≤g→nK f ls=nK g ls
 |0,0,_,_,_=>rfl
 |0,g+1,ls,h,_=>by
  have:ls=[]:=List.length_eq_zero_iff.1 (by omega);subst this;rfl
 |f+1,0,ls,_,h=>by
  have:ls=[]:=List.length_eq_zero_iff.1 (by omega);subst this;rfl
 |f+1,g+1,ls,hf,hg=>by
  simp only[nK];cases h:bI fE 3 true ls with
  |none=>rfl
  |some p=>
   obtain⟨l,r⟩:=p;have h1:=gS h;have h2:=pH r;simp only;rw[zY f g _ (by omega) (by omega)]
def td {ls l r:List ai}(h:bI dJ 1 false ls=some (l,r)):df ls=((dA r).1::(df (dA r).2).1,(df (dA r).2).2):=by
 have h1:=gS h;have h2:=sk r;unfold df;rw[←h1];simp only[kL,h];rw[xI r.length (dA r).2.length _ h2 (Nat.le_refl _)]
def oD {ls:List ai}(h:bI dJ 1 false ls=none):df ls=([],ls):=by
 unfold df
 match ls,h with
 |[],_=>rfl
 |t::r,h=>simp only[List.length_cons,kL,h]
def ux {ls l r:List ai}(h:bI fE 3 true ls=some (l,r)):fQ ls=(⟨l[1]!,l[2]!,(bG r).1⟩::(fQ (bG r).2).1,(fQ (bG r).2).2):=by
 have h1:=gS h;have h2:=pH r;unfold fQ;rw[←h1];simp only[nK,h];rw[zY r.length (bG r).2.length _ h2 (Nat.le_refl _)]
def p9 {ls:List ai}(h:bI fE 3 true ls=none):fQ ls=([],ls):=by
 unfold fQ
 match ls,h with
 |[],_=>rfl
 |t::r,h=>simp only[List.length_cons,nK,h]
structure fX where
 r:Rec
 st:Nat
 deriving Inhabited
def kV (t:ai)(n:Nat):Option (List ai×ai):=
 if n<(ah t 32).length∧[]∉(ah t 32).take n∧aM [32] ((ah t 32).drop n)≠[]then some ((ah t 32).take n,aM [32] ((ah t 32).drop n))else none
def rr (l:List ai)(n:Nat):Bool:=decide (l.length=n)&& !l.contains []
def ep {α:Type}(l:List α)(f:α→α):List α:=match l.getLast? with
 |some x=>l.dropLast++[f x]
 |none=>[]
def uP (l:List ai):Option fX:=if(l.length=3∧l[0]! =cL)∧l[1]! ≠[]then(match ee l[2]! with
 |some v=>some ⟨⟨l[1]!,v,[],[],[]⟩,1⟩
 |none=>none)else none
def rU (x:fX)(t:ai):Option fX:=match kV t 4 with
 |some (l,u)=>if x.st=2∧js l=true then some ⟨{x.r with needs:=ep x.r.needs fun n=>{n with any:=n.any++[⟨l[1]!,u,if l[2]! =[45]then []else ah l[2]! 44,decide (l[3]! =cV)⟩]}},2⟩else none
 |none=>none
def mw (x:fX)(t:ai):Option fX:=match kV t 1 with
 |some (_,u)=>if x.st=2 then some ⟨{x.r with needs:=ep x.r.needs fun n=>{n with when':=u}},3⟩else if x.st=5 then some ⟨{x.r with bars:=ep x.r.bars fun b=>{b with when':=u}},6⟩else none
 |none=>none
def c8 (x:fX)(t:ai):Option fX:=
 let l:=ah t 32
 if x.st=0 then uP l
 else if l[0]! =dJ then(if l.length=1∧x.st<5 then some ⟨{x.r with needs:=x.r.needs++[⟨[],[],[]⟩]},2⟩else none)
 else if l[0]! =fj then rU x t
 else if l[0]! =ek then mw x t
 else if l[0]! =cr then(if rr l 2=true∧(x.st=2∨x.st=3)then some ⟨{x.r with needs:=ep x.r.needs fun n=>{n with option:=l[1]!}},4⟩else none)
 else if l[0]! =fE then(match kV t 2 with
  |some (w,u)=>if x.st≤6 then some ⟨{x.r with bars:=x.r.bars++[⟨w[1]!,u,[]⟩]},5⟩else none
  |none=>none)
 else if l[0]! =bQ then(if 2≤l.length∧rr l l.length=true then some ⟨{x.r with feats:=x.r.feats++[⟨l[1]!,l.drop 2⟩]},7⟩else none)
 else none
def eqBb (a b:Bool):gp (D.bool a).cells (D.bool b).cells=decide (a=b):=by cases a<;>cases b<;>rfl
def bm.tp (a b:bm):decide (a=b)=(((decide (a.name=b.name)&&decide (a.range=b.range))&&decide (a.bare=b.bare))&&decide (a.feats=b.feats)):=by
 obtain⟨a1,a2,a3,a4⟩:=a;obtain⟨b1,b2,b3,b4⟩:=b;simp only[bm.mk.injEq,Bool.decide_and]
 ac_rfl
def aP.tp (a b:aP):decide (a=b)=((decide (a.when'=b.when')&&decide (a.option=b.option))&&decide (a.any=b.any)):=by
 obtain⟨a1,a2,a3⟩:=a;obtain⟨b1,b2,b3⟩:=b;simp only[aP.mk.injEq,Bool.decide_and]
 ac_rfl
def aP.Ql {a b:aP}(e1:a.when'=b.when')(e2:a.option=b.option)(e3:a.any.length=b.any.length):decide (a=b)=b8 (fun i=>decide (a.any[i]! =b.any[i]!)) 0 a.any.length:=by
 rw[aP.tp,decide_eq_true e1,decide_eq_true e2,←m3 e3];rfl
def Rec.tp (a b:Rec):decide (a=b)=((((decide (a.name=b.name)&&decide (a.v=b.v))&&decide (a.needs=b.needs))&&decide (a.bars=b.bars))&&decide (a.feats=b.feats)):=by
 obtain⟨a1,a2,a3,a4,a5⟩:=a;obtain⟨b1,b2,b3,b4,b5⟩:=b;simp only[Rec.mk.injEq,Bool.decide_and]
 ac_rfl
def bd.eq2 {a b:bd}(h1:a.name=b.name)(h2:a.of=b.of):a=b:=by
 obtain⟨a1,a2⟩:=a;obtain⟨b1,b2⟩:=b;simp only at h1 h2;subst h1;subst h2;rfl
end Go.Abs
