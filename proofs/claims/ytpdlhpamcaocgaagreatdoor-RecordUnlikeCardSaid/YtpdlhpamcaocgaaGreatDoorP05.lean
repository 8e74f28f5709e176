/- A part of the proofs of the statements: AbsZ, LAsmG, LAsmR, RData, LPlain1, LPlain2, LPlain3, RSpec1, RSpec2, RSpec3, RSpec4, RSpec5, RSpec6, RPrs, RSpec7, RSpec8, RSpec9, RSpec10, RSpec11. -/
import Derived.Test.YtpdlhpamcaocgaaGreatDoorP04
set_option linter.all false
set_option maxRecDepth 4000
section
namespace Go.Abs
variable [bW]
section
variable {P:Program} {ν:List (Nat×Nat)} {bE:List Nat} {Γ:Ctx}
def RD.re {x x':X}{σ:List (Nat×Nat)}(hw:x'.w=x.w)(hI:x'.I=x.I)(hβ:∀l l',kB 0 σ l=some l'→x'.β l'=x.β l){v:Value}{d d':D}(hv:RD ν x v d)(hd:G0 0 σ d d'):RD ν x' v d':=by
 rcases hd with⟨rfl,hn⟩|hd|hd
 ·exact hv.aM hn (fun _ h=>by rw[hI];exact h) (fun _ _=>by rw[hw])
 ·exact RD.rn (x:=x) (x':=x') hw hI hβ hv _ hd
 ·exact RD.nl (x:=x) (x':=x') hw hI hv _ hd
def ko.re {x x':X}{σ:List (Nat×Nat)}(hw:x'.w=x.w)(hI:x'.I=x.I)(hβ:∀l l',kB 0 σ l=some l'→x'.β l'=x.β l){b base tot:Nat}{b0 blk:aZ}(o2:ko ν x b base tot b0)(q3:oc 0 σ b0 blk):ko ν x' b base tot blk:=by
 cases b0 with
 |iter s p=>
  cases blk with
  |iter s' p'=>simp only[oc]at q3;obtain⟨rfl,rfl⟩:=q3;simp only[ko,hw]at o2⊢;exact o2
  |_=>simp[oc]at q3
 |row s=>
  cases blk with
  |row s'=>simp only[oc]at q3;subst q3;simp only[ko,hw]at o2⊢;exact o2
  |_=>simp[oc]at q3
 |bld o n u=>
  cases blk with
  |bld o' n' u'=>
   simp only[oc]at q3;obtain⟨q3,rfl,rfl⟩:=q3;obtain⟨p1,v,p2,p3⟩:=o2;refine⟨p1,v,by rw[hw];exact p2, ?_⟩;cases o with
   |none=>simp only at q3;subst q3;exact p3
   |some l0=>
    obtain⟨l1,q4,rfl⟩:=q3;obtain⟨g,t,p4,p5,p6⟩:=p3;exact⟨g,t,p4,p5,by rw[hβ l0 l1 q4];exact p6⟩
  |_=>simp[oc]at q3
 |buf k es=>
  cases blk with
  |iter s' p'=>simp[oc]at q3
  |row s'=>simp[oc]at q3
  |bld o' n' u'=>simp[oc]at q3
  |buf k' es'=>
   simp only[oc]at q3;obtain⟨rfl,q3⟩:=q3;obtain⟨p1,p2,cc,T,fr,p3,p4,p5,p6⟩:=o2;rw[←hw]at p3;rcases q3 with⟨rfl,hn⟩|q3|q3
   ·exact⟨p1,p2,cc,T,fr,p3,p4,p5,fun i hi=>⟨(p6 i hi).1,fun j hj=>⟨((p6 i hi).2 j hj).1,RD.re hw hI hβ ((p6 i hi).2 j hj).2 (.inl ⟨rfl,ic (bU hn i) j⟩)⟩⟩⟩
   ·obtain⟨r1,r2⟩:=iL q3;refine⟨p1,by omega,cc,T,fr,p3,p4,p5,fun i hi=>?_⟩;have hi':i<es.length:=by omega
    obtain⟨s1,s2⟩:=wB (r2 i hi');exact⟨s1.trans (p6 i hi').1,fun j hj=>⟨((p6 i hi').2 j hj).1,RD.re hw hI hβ ((p6 i hi').2 j hj).2 (.inr (.inl (s2 j (by rw[(p6 i hi').1];exact hj))))⟩⟩
   ·obtain⟨r1,r2⟩:=mz q3;refine⟨p1,by omega,cc,T,fr,p3,p4,p5,fun i hi=>?_⟩;have hi':i<es.length:=by omega
    obtain⟨s1,s2⟩:=vF (r2 i hi');exact⟨s1.trans (p6 i hi').1,fun j hj=>⟨((p6 i hi').2 j hj).1,RD.re hw hI hβ ((p6 i hi').2 j hj).2 (.inr (.inr (s2 j (by rw[(p6 i hi').1];exact hj))))⟩⟩
def Cl {lo c:Nat}{σ:List (Nat×Nat)}{l l':Nat}(h0:eU 0 c σ=true)(h:kB 0 σ l=some l'):l'<c∧(l,l')∈σ:=by
 obtain⟨h1,h2⟩:=qc h0 h;rcases h2 with⟨h2,_⟩|⟨_,h2⟩
 ·omega
 ·exact⟨h1,h2⟩
def p7 {c:Nat}:∀{σ:List (Nat×Nat)}{a b:Nat},eU 0 c σ=true→(a,b)∈σ→kB 0 σ a=some b
 |[],a,b,_,h=>by cases h
 |(a0,b0)::r,a,b,h0,h=>by
  unfold kB;simp only[eU,Bool.and_eq_true,List.all_eq_true,Bool.not_eq_true']at h0;obtain⟨_,_,p4,p5⟩:=h0;rcases List.mem_cons.1 h with h|h
  ·simp only[Prod.mk.injEq]at h;obtain⟨rfl,rfl⟩:=h;simp
  ·have:=(p4 _ h).1;simp only at this;have hne:Nat.beq a0 a=false:=by
    cases hb:Nat.beq a0 a with
    |false=>rfl
    |true=>obtain rfl:=Nat.eq_of_beq_eq_true hb;simp at this
   rw[hne];exact p7 p5 h
structure Fr (σi σo:List (Nat×Nat))(q q1:Nat)(m0 m1:List (Nat×aZ))(st st':St):Prop where
 oki:eU 0 q σi=true
 oko:eU 0 st'.nx σo=true
 nx:st.nx≤st'.nx
 lt:∀l i,(l,i)∈σi→look st.m l≠none
 io:∀i l,(i,l)∈σo→(l,i)∈σi∨st.nx≤l
 m0:∀i b,look m0 i=some b→∃l b',(l,i)∈σi∧look st.m l=some b'∧oc 0 σi b' b
 m1:∀l b,look st'.m l=some b→(∃i b1,(i,l)∈σo∧look m1 i=some b1∧oc 0 σo b1 b)∨(jL σo l=none∧(∀i,(l,i)∉σi)∧look st.m l=some b)
def HE {fid:Nat}{fn:Func}{af:aB}{K:D→St→Prop}(hΓ:Ok P ν bE Γ)(hmix:P.follows .mixedOrders=true)(hf:P.funcs[fid]? =some fn)(hc:compile P ν bE fn=some af)
  {x:X} {args:Array Value} {ds cs:List D} {st:St} {σi:List (Nat×Nat)} {q:Nat} {m0:List (Nat×aZ)} (hl:args.size=ds.length) (hargs:∀i,i<ds.length→RD ν x (args.getD i undef) (ds.getD i .any))
  (hs:dy ν x (look st.m)) (hfr:du st x) (hlen:cs.length=ds.length) (hds:∀i,i<ds.length→G0 0 σi (ds.getD i .any) (cs.getD i .any)) (hnp:cs.length=af.np)
  (oki:eU 0 q σi=true) (hlt:∀l i,(l,i)∈σi→look st.m l≠none) (hm0:∀i b,look m0 i=some b→∃l b',(l,i)∈σi∧look st.m l=some b'∧oc 0 σi b' b)
  (hw:bB (Γ.at q) af.body (fun e env st1=>e.home∧mg st1.m env af.res∧∃(σo:List (Nat×Nat)) (q1:Nat) (m1:List (Nat×aZ)) (st':St) (vd':D),Fr σi σo q q1 m0 m1 st st'∧G0 0 σo (il af env st1) vd'∧K vd' st'∧∀i,look st1.m i=look m1 i) (eK af cs) ⟨q,m0⟩):
  Calls P fid args x.w fun
   | .returned v,w'=>∃x' d st',K d st'∧x'.w=w'∧Step x x'∧RD ν x' v d∧dy ν x' (look st'.m)∧du st' x'
   |_,_=>False:=by
 obtain⟨body,c1,c2,c3,c4,c5,c6⟩:=eV hc
 let x0:X:=⟨x.w,x.I,fun i=>(jL σi i).bind x.β⟩
 have hx0:∀l i,(l,i)∈σi→x0.β i=x.β l:=fun l i h=>by simp only[x0,sU oki h,Option.bind_some]
 have hβ0:∀l i,kB 0 σi l=some i→x0.β i=x.β l:=fun l i h=>hx0 l i (Cl (lo:=0) oki h).2
 have hx0':∀i p,x0.β i=some p→∃l,(l,i)∈σi∧x.β l=some p∧i<q:=by
  intro i p h;obtain⟨l,h1,h2⟩:=Option.bind_eq_some_iff.1 (show(jL σi i).bind x.β=some p from h);exact⟨l,iF h1,h2,nv oki (iF h1)⟩
 have hs0:dy ν x0 (look m0):=by
  refine⟨fun i blk b base tot e1 e2=>?_,fun i j b base tot base' tot' e1 e2 e3 e4=>?_,hs.imm,fun i b base tot e=>?_,bW.le x _ (fun _ h=>h) (fun _ _=>rfl) hs.gd⟩
  ·obtain⟨l,b',h1,h2,h3⟩:=hm0 i blk e1;rw[hx0 l i h1]at e2;obtain⟨o1,o2⟩:=hs.own l b' b base tot h2 e2;exact⟨o1,ko.re (x:=x) (x':=x0) rfl rfl hβ0 o2 h3⟩
  ·obtain⟨l,h1,h2,_⟩:=hx0' i _ e3;obtain⟨l',h1',h2',_⟩:=hx0' j _ e4;have:=hs.inj l l' b base tot base' tot' (hlt _ _ h1) (hlt _ _ h1') h2 h2';subst this;have:=p7 oki h1;rw[p7 oki h1']at this;exact(Option.some.inj this).symm
  ·obtain⟨l,_,h2,_⟩:=hx0' i _ e;exact hs.cO l b base tot h2
 have hf0:du ⟨q,m0⟩ x0:=by
  refine⟨fun i hi=>?_,fun i hi=>?_⟩
  ·cases h:x0.β i with
   |none=>rfl
   |some p=>obtain⟨_,_,_,h4⟩:=hx0' i p h;simp only at hi;omega
  ·cases h:look m0 i with
   |none=>exact absurd h hi
   |some b=>obtain⟨l,b',h1,_⟩:=hm0 i b h;exact nv oki h1
 have hi:=rm (P:=P) (ν:=ν) (bE:=bE) (x:=x0) (ds:=cs) (st:=⟨q,m0⟩) c4 c5 c6 (args:=args) (by omega) hnp (fun i hi=>RD.re (x:=x) (x':=x0) rfl rfl hβ0 (hargs i (by omega)) (hds i (by omega))) hs0 hf0;have hcs:=oH (C:={P,ν,bE,slots:=slotsOf fn,ntmps:=fn.ntmps,vm:=D7 P fn}) (hΓ.at q) (ki fn).1 hmix x0 (fun l h=>hf0.β l h) body af.body c2 _ _ _ _ x0 hw hi (.refl _);refine calls_of_wp hf c1 (wp_mono hcs fun e a w' hp=>?_);obtain⟨e',x',env',st1,he,hxw,hst,hi',hh,hro,σo,q1,m1,st',vd',hfm,hvd,hK,hlk⟩:=hp;subst hxw;obtain⟨v,r1,r2,r3⟩:=nj hi' c3 hro
 let x2:X:=⟨x'.w,x'.I,fun l=>match jL σo l with|some i=>x'.β i|none=>x.β l⟩
 have hx2:∀i l,(i,l)∈σo→x2.β l=x'.β i:=fun i l h=>by simp only[x2,sU hfm.oko h]
 have hx2n:∀l,jL σo l=none→x2.β l=x.β l:=fun l h=>by simp only[x2,h]
 have hβ2:∀i l,kB 0 σo i=some l→x2.β l=x'.β i:=fun i l h=>hx2 i l (Cl (lo:=0) hfm.oko h).2
 have hx0s:∀l i p,(l,i)∈σi→x.β l=some p→x'.β i=some p:=fun l i p h e=>hst.β _ _ (by rw[hx0 l i h];exact e)

 have hnew:∀i p,x'.β i=some p→(∃l,(l,i)∈σi∧x.β l=some p)∨x.w.heap.size≤p.1∨∃l p',(∃j,(l,j)∈σi)∧x.β l=some p'∧p'.1=p.1:=by
  intro i p e;rcases hst.newβ i p e with h|h|⟨j,p',h1,h2⟩
  ·obtain⟨l,h3,h4,_⟩:=hx0' i p h;exact .inl ⟨l,h3,h4⟩
  ·exact .inr (.inl h)
  ·obtain⟨l,h3,h4,_⟩:=hx0' j p' h1;exact .inr (.inr ⟨l,p',⟨j,h3⟩,h4,h2⟩)
 have hstep:Step x x2:=by
  refine⟨hst.os,hst.tape,hst.output,hst.size,hst.I,hst.lG,fun l p hp=>?_,fun b hb hn=>hst.old b hb fun i p h e=>?_,fun b h=>?_,fun l p h=>?_⟩
  ·cases h:jL σo l with
   |none=>rw[hx2n l h];exact hp
   |some i=>
    have hm:=iF h;rw[hx2 i l hm];rcases hfm.io i l hm with h2|h2
    ·exact hx0s l i p h2 hp
    ·rw[hfr.β l h2]at hp;cases hp
  ·obtain⟨l,_,h2,_⟩:=hx0' i p h;exact hn l p h2 e
  ·rcases hst.newI b h with h|h|⟨i,p,h1,h2⟩
   ·exact .inl h
   ·exact .inr (.inl h)
   ·obtain⟨l,_,h3,_⟩:=hx0' i p h1;exact .inr (.inr ⟨l,p,h3,h2⟩)
  ·cases h1:jL σo l with
   |none=>rw[hx2n l h1]at h;exact .inl h
   |some i=>
    have hm:=iF h1;rw[hx2 i l hm]at h;rcases hnew i p h with⟨l',h2,h3⟩|h2|⟨l',p',_,h3,h4⟩
    ·exact .inr (.inr ⟨l',p,h3,rfl⟩)
    ·exact .inr (.inl h2)
    ·exact .inr (.inr ⟨l',p',h3,h4⟩)
 have hsim:dy ν x2 (look st'.m):=by
  refine⟨fun l blk b base tot e1 e2=>?_,fun l1 l2 b base tot base' tot' e1 e2 e3 e4=>?_,hi'.j4.imm,fun l b base tot e=>?_,bW.le x' _ (fun _ h=>h) (fun _ _=>rfl) hi'.j4.gd⟩
  ·rcases hfm.m1 l blk e1 with⟨i,b1,h1,h2,h3⟩|⟨h1,h2,h3⟩
   ·rw[hx2 i l h1]at e2;obtain⟨o1,o2⟩:=hi'.j4.own i b1 b base tot (by rw[hlk];exact h2) e2;exact⟨o1,ko.re (x:=x') (x':=x2) rfl rfl hβ2 o2 h3⟩
   ·rw[hx2n l h1]at e2;obtain⟨o1,o2⟩:=hs.own l blk b base tot h3 e2;have hlt:=hs.cO l b base tot e2;have hno:∀i p,x0.β i=some p→p.1≠b:=by
     rintro i ⟨b',base',tot'⟩ h e;simp only at e;subst e;obtain⟨l',h4,h5,_⟩:=hx0' i _ h;have:=hs.inj l' l b' base' tot' base tot (hfm.lt _ _ h4) (by rw[h3];simp) h5 e2;subst this;exact h2 _ h4
    refine⟨fun h=>?_,o2.mono hstep.le (hst.old b hlt hno)⟩;rcases hst.newI b h with h|h|⟨i,p,h4,h5⟩
    ·exact o1 h
    ·exact absurd hlt (Nat.not_lt.2 h)
    ·exact hno i p h4 h5
  ·have mix:∀l1 l2 base tot base' tot',(∃i b1,(i,l1)∈σo∧look m1 i=some b1)→jL σo l2=none→(∀i,(l2,i)∉σi)→look st.m l2≠none→x2.β l1=some (b,base,tot)→x2.β l2=some (b,base',tot')→False:=by
    rintro l1 l2 base tot base' tot' ⟨i,b1,h1,h2⟩ h3 h4 h5 e3 e4;rw[hx2 i l1 h1]at e3;rw[hx2n l2 h3]at e4;rcases hnew i _ e3 with⟨l',h6,h7⟩|h6|⟨l',⟨pb,pt,pq⟩,⟨j,h6⟩,h7,h8⟩
    ·have:=hs.inj l' l2 b base tot base' tot' (hfm.lt _ _ h6) h5 h7 e4;subst this;exact h4 _ h6
    ·have:=hs.cO l2 b base' tot' e4;simp only at h6;omega
    ·simp only at h8;subst h8;have:=hs.inj l' l2 pb pt pq base' tot' (hfm.lt _ _ h6) h5 h7 e4;subst this;exact h4 _ h6
   cases f1:look st'.m l1 with
   |none=>exact absurd f1 e1
   |some b1=>
    cases f2:look st'.m l2 with
    |none=>exact absurd f2 e2
    |some b2=>
     rcases hfm.m1 l1 b1 f1 with⟨i,c1,h1,h2,_⟩|⟨h1,h2,h3⟩<;>rcases hfm.m1 l2 b2 f2 with⟨j,c2,k1,k2,_⟩|⟨k1,k2,k3⟩
     ·rw[hx2 i l1 h1]at e3;rw[hx2 j l2 k1]at e4;have:=hi'.j4.inj i j b base tot base' tot' (by rw[hlk,h2];simp) (by rw[hlk,k2];simp) e3 e4;subst this;have:=p7 hfm.oko h1;rw[p7 hfm.oko k1]at this;exact(Option.some.inj this).symm
     ·exact(mix l1 l2 base tot base' tot' ⟨i,c1,h1,h2⟩ k1 k2 (by rw[k3];simp) e3 e4).elim
     ·exact(mix l2 l1 base' tot' base tot ⟨j,c2,k1,k2⟩ h1 h2 (by rw[h3];simp) e4 e3).elim
     ·rw[hx2n l1 h1]at e3;rw[hx2n l2 k1]at e4;exact hs.inj l1 l2 b base tot base' tot' (by rw[h3];simp) (by rw[k3];simp) e3 e4
  ·cases h1:jL σo l with
   |none=>rw[hx2n l h1]at e;exact Nat.lt_of_lt_of_le (hs.cO l b base tot e) hst.size
   |some i=>
    rw[hx2 i l (iF h1)]at e;exact hi'.j4.cO i b base tot e
 have hfr2:du st' x2:=by
  refine⟨fun l hl=>?_,fun l hl=>?_⟩
  ·cases h1:jL σo l with
   |none=>rw[hx2n l h1];exact hfr.β l (by have:=hfm.nx;omega)
   |some i=>have:=nv hfm.oko (iF h1);omega
  ·cases f1:look st'.m l with
   |none=>exact absurd f1 hl
   |some b1=>
    rcases hfm.m1 l b1 f1 with⟨i,c1,h1,_⟩|⟨_,_,h3⟩
    ·exact nv hfm.oko h1
    ·have:=hfr.m l (by rw[h3];simp);have:=hfm.nx;omega
 have hrd:=RD.re (ν:=ν) (x:=x') (x':=x2) rfl rfl hβ2 r2 hvd;rcases Ex.xN hh with h|h<;>rw[h]at he<;>subst he<;>exact⟨hi'.defers,v,r1,x2,vd',st',hK,rfl,hstep,hrd,hsim,hfr2⟩
end
end Go.Abs
end
section
namespace Go.Abs
structure NA where
 tr:List D→St→(D→St→Prop)→Prop
 mu:List D→St→Nat
 mono:∀(ds:List D) (st:St) (K K':D→St→Prop),(∀d st',K d st'→K' d st')→tr ds st K→tr ds st K'
def NA.no:NA:=⟨fun _ _ _=>False,fun _ _=>0,fun _ _ _ _ _ h=>h⟩
def ox (af:aB)(Q:D→List (Nat×aZ)→Prop):Ex→List a7→St→Prop:=fun e env st=>e.home∧mg st.m env af.res∧∃m1,(∀i,look st.m i=look m1 i)∧Q (il af env st) m1
def ei {af:aB}{Q:D→List (Nat×aZ)→Prop}{vd:D}{m1:List (Nat×aZ)}{e:Ex}{env:List a7}{st:St}(h1:e.home)(h2:mg st.m env af.res)(h3:il af env st=vd)(h4:st.m=m1)(h5:Q vd m1):ox af Q e env st:=⟨h1,h2,m1,fun i=>by rw[h4],by rw[h3];exact h5⟩
def One (vd:D)(m1:List (Nat×aZ)):D→List (Nat×aZ)→Prop:=fun d m=>d=vd∧m=m1
def oneq (vd:D)(m1:List (Nat×aZ)):One vd m1 vd m1:=⟨rfl,rfl⟩
section
variable [bW] {P:Program} {ν:List (Nat×Nat)} {bE:List Nat} {Γ:Ctx}
def Ez (P:Program)(ν:List (Nat×Nat))(Γ':Ctx)(bE:List Nat)(tr:List D→St→(D→St→Prop)→Prop)(fid:Nat):Prop:=
 ∀(ds:List D) (st:St) (K:D→St→Prop),tr ds st K→Ok P ν bE Γ'→∀(x:X) (args:Array Value),args.size=ds.length→(∀i,i<ds.length→RD ν x (args.getD i undef) (ds.getD i .any))→dy ν x (look st.m)→du st x→
  fE P x (fun v x'=>∃d st',K d st'∧Step x x'∧RD ν x' v d∧dy ν x' (look st'.m)∧du st' x') ((callFunc fid args).run P x.w)
end
end Go.Abs
end
section
namespace Go.Abs
abbrev RT:=List D→D→Prop
abbrev FT:=D→List D→D→D→Prop
abbrev TT:=List D→St→(D→St→Prop)→Prop
def yn (T:TT):Prop:=∀ds st K K',(∀d st',K d st'→K' d st')→T ds st K→T ds st K'
def xJ (A:RT→Prop):RT:=fun ds d=>∀T,A T→T ds d
def ku (A:FT→Prop):FT:=fun d ds v s=>∀T,A T→T d ds v s
def GK (T:TT):Ctx:=⟨fun _ _=>False,fun _ _=>.any,fun _=>T,fun _ _ _=>False,fun _ _ _=>.any,fun _ _ _=>.any,0⟩
def AY (C:Ctx→Prop):TT:=fun ds st K=>∀T,yn T→C (GK T)→T ds st K
def rN (C:Ctx→Prop):yn (AY C):=fun _ _ _ _ h h1 T hT hC=>hT _ _ _ _ h (h1 T hT hC)
def noR:RT:=fun _ _=>False
def NP:FT:=fun _ _ _ _=>False
def noT:TT:=fun _ _ _=>False
def um:yn noT:=fun _ _ _ _ _ h=>h.elim
structure nW where
 key:Nat
 rel:RT
 mu:List D→Nat
 relF:FT
 tr:TT
 muE:List D→St→Nat
 mono:yn tr
def NO:List D→Nat:=fun _=>0
def Fy:List D→St→Nat:=fun _ _=>0
def jT:nW:=⟨0,noR,NO,NP,noT,Fy,um⟩
def rP (k:Nat)(A:RT→Prop)(mu:List D→Nat:=NO):nW:=⟨k,xJ A,mu,NP,noT,Fy,um⟩
def rF (k:Nat)(A:FT→Prop):nW:=⟨k,noR,NO,ku A,noT,Fy,um⟩
def rG (k:Nat)(C:Ctx→Prop)(mu:List D→St→Nat:=Fy):nW:=⟨k,noR,NO,NP,AY C,mu,rN C⟩
def rFG (k:Nat)(A:FT→Prop)(C:Ctx→Prop):nW:=⟨k,noR,NO,ku A,AY C,Fy,rN C⟩
noncomputable def pick (r:D→Prop):D:=Classical.epsilon r
def ie {r:D→Prop}(h:∃d,r d):r (pick r):=Classical.epsilon_spec h
def M0 (R:RT):Prop:=∀ds d d',R ds d→R ds d'→d=d'
def tm (R:FT):Prop:=∀d ds v s v' s',R d ds v s→R d ds v' s'→v=v'∧s=s'
def Kq {A:RT→Prop}(h:A fun ds d=>A fun ds' d'=>ds'=ds→d=d'):M0 (xJ A):=fun ds d d' h1 h2=>h2 _ (h1 _ h) rfl
def Hy {A:FT→Prop}(h:A fun d ds v s=>A fun d' ds' v' s'=>d'=d→ds'=ds→v=v'∧s=s'):tm (ku A):=fun d ds v s v' s' h1 h2=>h2 _ (h1 _ h) rfl rfl
noncomputable def vl (t:List (Nat×nW)):Ctx where
 pre n ds:=∃d,(lk t n jT).rel ds d
 val n ds:=pick ((lk t n jT).rel ds)
 tr n:=(lk t n jT).tr
 fp n d ds:=∃v s,(lk t n jT).relF d ds v s
 fv n d ds:=pick fun v=>∃s,(lk t n jT).relF d ds v s
 fs n d ds:=pick fun s=>∃v,(lk t n jT).relF d ds v s
 lo:=0
def Gv (t:List (Nat×nW)):Kd:=⟨fun n=>(lk t n jT).key,fun n=>(lk t n jT).mu,fun n=>(lk t n jT).muE⟩
noncomputable abbrev under (t:List (Nat×nW))(k u:Nat):Ctx:=(vl t).under (Gv t) k u
def aK (t:List (Nat×nW))(k u n:Nat):(((vl t).under (Gv t) k u).at n).bj:=
 fun f ds st K K' h hh=>⟨hh.1,(lk t f jT).mono ds st K K' h hh.2⟩
section
variable {t:List (Nat×nW)} {n k u:Nat} {ds:List D} {d v s:D} {st:St} {K:D→St→Prop}
def dq (hD:M0 (lk t n jT).rel)(hk:(lk t n jT).key<k∨(lk t n jT).key=k∧(lk t n jT).mu ds<u)(h:(lk t n jT).rel ds d):(under t k u).pre n ds∧(under t k u).val n ds=d:=
 ⟨⟨hk,d,h⟩,hD _ _ _ (ie ⟨d,h⟩) h⟩
def okf (hD:tm (lk t n jT).relF)(hk:(lk t n jT).key<k)(h:(lk t n jT).relF d ds v s):(under t k u).fp n d ds∧(under t k u).fv n d ds=v∧(under t k u).fs n d ds=s:=by
 refine⟨⟨.inl hk,v,s,h⟩, ?_, ?_⟩
 ·obtain⟨s',h'⟩:=ie (r:=fun v=>∃s,(lk t n jT).relF d ds v s) ⟨v,s,h⟩;exact(hD _ _ _ _ _ _ h' h).1
 ·obtain⟨v',h'⟩:=ie (r:=fun s=>∃v,(lk t n jT).relF d ds v s) ⟨s,v,h⟩;exact(hD _ _ _ _ _ _ h' h).2
def A8 (hk:(lk t n jT).key<k∨(lk t n jT).key=k∧(lk t n jT).muE ds st<u)(h:(lk t n jT).tr ds st K):(under t k u).tr n ds st K:=⟨hk,h⟩
end
section
variable [bW] {P:Program} {ν:List (Nat×Nat)} {bE:List Nat} {Γ:Ctx} {t:List (Nat×nW)} {fid n key:Nat}
def BB (P:Program)(ν:List (Nat×Nat))(bE:List Nat)(Γ:Ctx)(fid:Nat)(ds:List D)(d:D):Prop:=Ok P ν bE Γ→∀(x:X)(args:Array Value),args.size=ds.length→(∀i,i<ds.length→RD ν x (args.getD i undef) (ds.getD i .any))→aI ds=true→
  (∀b,x.I b→b<x.w.heap.size)→bW.gd x→fE P x (fun v x'=>jD x x'∧RD ν x' v d) ((callFunc fid args).run P x.w)
def vE (P:Program)(ν:List (Nat×Nat))(bE:List Nat)(Γ:Ctx)(fid:Nat)(d:D)(ds:List D)(vd new:D):Prop:=Ok P ν bE Γ→∀(x:X)(f:Nat→Option aZ)(args:Array Value)(l k:Nat),args.size=ds.length+1→
   RD ν x (args.getD 0 undef) (.ptr l k 0 0)→(∀i,i<ds.length→RD ν x (args.getD (i+1) undef) (ds.getD i .any))→dy ν x f→f l=some (.buf k [d])→d.aM=true→aI ds=true→
   fE P x (fun v x'=>Step x x'∧RD ν x' v vd∧dy ν x' (fun l'=>if l'=l then some (.buf k [new])else f l')∧x'.β=x.β) ((callFunc fid args).run P x.w)
def my (P:Program)(ν:List (Nat×Nat))(bE:List Nat)(Γ:Ctx)(fid:Nat)(ds:List D)(st:St)(K:D→St→Prop):Prop:=Ok P ν bE Γ→∀(x:X)(args:Array Value),args.size=ds.length→(∀i,i<ds.length→RD ν x (args.getD i undef) (ds.getD i .any))→dy ν x (look st.m)→du st x→
  fE P x (fun v x'=>∃d st',K d st'∧Step x x'∧RD ν x' v d∧dy ν x' (look st'.m)∧du st' x') ((callFunc fid args).run P x.w)
structure LD (P:Program)(ν:List (Nat×Nat))(bE:List Nat)(t:List (Nat×nW))(fid n:Nat):Prop where
 p:∀ds d,(lk t n jT).rel ds d→BB P ν bE (under t (lk t n jT).key ((lk t n jT).mu ds)) fid ds d
 f:tm (lk t n jT).relF∧∀d ds v s,(lk t n jT).relF d ds v s→vE P ν bE (under t (lk t n jT).key ((lk t n jT).mu (d::ds))) fid d ds v s
 g:∀ds st K,(lk t n jT).tr ds st K→my P ν bE (under t (lk t n jT).key ((lk t n jT).muE ds st)) fid ds st K
def okA (hsm:∀fid n,c8 ν fid=some n→n<1000000)(hB:∀t,bE.contains (1000000000+t)=true→t=bW.tB)(h:∀fid n,c8 ν fid=some n→LD P ν bE t fid n):Ok P ν bE (vl t):=by
 refine NQ (Gv t) hsm hB (fun fid n hn ds hp hok=>(h fid n hn).p ds _ (ie hp) hok) (fun fid n hn _ d ds hp hok=>?_) (fun fid n hn ds st K htr hok=>(h fid n hn).g ds st K htr hok);obtain⟨v,s,hr⟩:=hp;obtain⟨hD,hf⟩:=(h fid n hn).f;have h2:(vl t).fv n d ds=v∧(vl t).fs n d ds=s:=by
  constructor
  ·obtain⟨s',h'⟩:=ie (r:=fun v=>∃s,(lk t n jT).relF d ds v s) ⟨v,s,hr⟩;exact(hD _ _ _ _ _ _ h' hr).1
  ·obtain⟨v',h'⟩:=ie (r:=fun s=>∃v,(lk t n jT).relF d ds v s) ⟨s,v,hr⟩;exact(hD _ _ _ _ _ _ h' hr).2
 rw[h2.1,h2.2];exact hf d ds v s hr hok
def B8 {Γ:D→List D→Ctx}:tm NP∧∀d ds v s,NP d ds v s→vE P ν bE (Γ d ds) fid d ds v s:=⟨fun _ _ _ _ _ _ h=>h.elim,fun _ _ _ _ h=>h.elim⟩
def bF {A:RT→Prop}{mu:List D→Nat}(hr:lk t n jT=rP key A mu)(h:A fun ds d=>BB P ν bE (under t key (mu ds)) fid ds d):LD P ν bE t fid n:=by
 refine⟨?_, ?_, ?_⟩<;>rw[hr]
 ·exact fun ds d hd=>hd (fun ds d=>BB P ν bE (under t key (mu ds)) fid ds d) h
 ·exact B8
 ·exact fun _ _ _ h=>h.elim
def KZ {A:FT→Prop}(hr:lk t n jT=rF key A)(hD:tm (ku A))(h:A fun d ds v s=>vE P ν bE (under t key 0) fid d ds v s):LD P ν bE t fid n:=by
 refine⟨?_, ?_, ?_⟩<;>rw[hr]
 ·exact fun _ _ h=>h.elim
 ·exact⟨hD,fun d ds v s hd=>hd _ h⟩
 ·exact fun _ _ _ h=>h.elim
def vY {Γ:List D→St→Ctx}:yn fun ds st K=>my P ν bE (Γ ds st) fid ds st K:=fun ds st K K' h hg hok x args hl ha hs hf=>(hg hok x args hl ha hs hf).mono fun v x' ⟨d,st',h1,h2⟩=>⟨d,st',h _ _ h1,h2⟩
def sB {C:Ctx→Prop}{mu:List D→St→Nat}(hr:lk t n jT=rG key C mu)(h:C (GK fun ds st K=>my P ν bE (under t key (mu ds st)) fid ds st K)):LD P ν bE t fid n:=by
 refine⟨?_, ?_, ?_⟩<;>rw[hr]
 ·exact fun _ _ h=>h.elim
 ·exact B8
 ·exact fun ds st K hd=>hd (fun ds st K=>my P ν bE (under t key (mu ds st)) fid ds st K) vY h
def NR {A:FT→Prop}{C:Ctx→Prop}(hr:lk t n jT=rFG key A C)(hD:tm (ku A))(h:A fun d ds v s=>vE P ν bE (under t key 0) fid d ds v s)(h2:C (GK fun ds st K=>my P ν bE (under t key 0) fid ds st K)):LD P ν bE t fid n:=by
 refine⟨?_, ?_, ?_⟩<;>rw[hr]
 ·exact fun _ _ h=>h.elim
 ·exact⟨hD,fun d ds v s hd=>hd _ h⟩
 ·exact fun ds st K hd=>hd _ vY h2
def Ev (P:Program)(ν:List (Nat×Nat))(bE:List Nat)(fid:Nat)(af:aB):Prop:=(P.funcs[fid]?).map (fun f=>(compile P ν bE f,f.name== "runtime.NumGoroutine"))=some (some af,false)
def Ev.split {af:aB}(h:Ev P ν bE fid af):∃fn,P.funcs[fid]? =some fn∧compile P ν bE fn=some af∧(fn.name== "runtime.NumGoroutine")=false:=by
 unfold Ev at h;cases hf:P.funcs[fid]? with
 |none=>rw[hf]at h;cases h
 |some fn=>
  rw[hf]at h;have h2:=Option.some.inj h;exact⟨fn,rfl,congrArg Prod.fst h2,congrArg Prod.snd h2⟩
def aY {af:aB}{ds:List D}{d:D}(hmix:P.follows .mixedOrders=true)(hC:Ev P ν bE fid af)(h1:ds.length=af.np)(h2:bB (Γ.at 0) af.body (Ke af d) (eK af ds) ⟨0,[]⟩):BB P ν bE Γ fid ds d:=by
 intro hok x args hl hargs hnl himm hgd;obtain⟨fn,hf,hc,hn⟩:=hC.split;obtain⟨body,c1,_⟩:=eV hc;exact .inr ⟨fid,args,eH hf hn (by rw[c1];rfl) args x.w,HF hok hmix hf hc hl hargs hnl himm hgd h1 h2⟩
def yY {af:aB}{d:D}{ds:List D}{vd new:D}(k0:Nat)(hmix:P.follows .mixedOrders=true)(hC:Ev P ν bE fid af)(h1:ds.length+1=af.np)(hk:d.cells.length=k0)
  (h2:bB (Γ.at 1) af.body (CI af k0 vd new) (eK af (.ptr 0 k0 0 0::ds)) ⟨1,[(0,.buf k0 [d])]⟩):vE P ν bE Γ fid d ds vd new:=by
 intro hok x f args l k hl h0 hargs hs hfl hd hnl;obtain⟨fn,hf,hc,hn⟩:=hC.split;obtain⟨body,c1,_⟩:=eV hc;have hkk:k=k0:=by
  generalize args.getD 0 undef=v0 at h0;cases h0 with
  |ptr _ _ _ _ b base tot at_ hβ hat=>
   obtain⟨p1,p2,c,T,fr,p3,p4,p5,p6⟩:=(hs.own l _ b base tot hfl hβ).2;have:=(p6 0 (by simp)).1;simp only[List.getD_cons_zero]at this;omega
 subst hkk;exact .inr ⟨fid,args,eH hf hn (by rw[c1];rfl) args x.w,HD hok hmix hf hc hl h0 hargs hs hfl hd hnl h1 h2⟩
def HO {k l:Nat}{d:D}{ds:List D}{vd new:D}{st:St}{K:D→St→Prop}(h:vE P ν bE Γ fid d ds vd new)(hl:look st.m l=some (.buf k [d]))(hd:d.aM=true)(hnl:aI ds=true)(hK:K vd ⟨st.nx,bT st.m l (.buf k [new])⟩):
  my P ν bE Γ fid (.ptr l k 0 0::ds) st K:=by
 intro hok x args hl2 hargs hs hf;refine(h hok x (look st.m) args l k (by simpa using hl2) (hargs 0 (by simp)) (fun i hi=>hargs (i+1) (by simpa using hi)) hs hl hd hnl).mono ?_;rintro v x' ⟨h1,h2,h3,h4⟩;have e:(fun l'=>if l'=l then some (.buf k [new])else look st.m l')=look (bT st.m l (.buf k [new])):=by
  funext l';rw[br]
 refine⟨vd,_,hK,h1,h2,e▸h3,fun l' hl'=>by rw[h4];exact hf.β l' hl',fun l' hl'=>?_⟩;rw[br]at hl';split at hl'
 ·rename_i e;subst e;exact hf.m _ (by rw[hl];simp)
 ·exact hf.m _ hl'
def yZ {af:aB}{ds:List D}{st:St}{K:D→St→Prop}{σi:List (Nat×Nat)}{q:Nat}{m0:List (Nat×aZ)}{cs:List D}{Q:D→List (Nat×aZ)→Prop}(hmono:∀q,(Γ.at q).bj)(hmix:P.follows .mixedOrders=true)(hC:Ev P ν bE fid af)
  (h1:cs.length=ds.length) (h2:∀i,i<ds.length→G0 0 σi (ds.getD i .any) (cs.getD i .any)) (h3:cs.length=af.np)
  (h4:eU 0 q σi=true) (h5:∀l i,(l,i)∈σi→look st.m l≠none) (h6:∀i b,look m0 i=some b→∃l b',(l,i)∈σi∧look st.m l=some b'∧oc 0 σi b' b)
  (h7:bB (Γ.at q) af.body (ox af Q) (eK af cs) ⟨q,m0⟩) (h8:∀d m1,Q d m1→∃(σo:List (Nat×Nat)) (q1:Nat) (st':St) (vd':D),Fr σi σo q q1 m0 m1 st st'∧G0 0 σo d vd'∧K vd' st'):my P ν bE Γ fid ds st K:=by
 intro hok x args hl hargs hs hfr;obtain⟨fn,hf,hc,hn⟩:=hC.split;obtain⟨body,c1,_⟩:=eV hc;refine .inr ⟨fid,args,eH hf hn (by rw[c1];rfl) args x.w, ?_⟩;refine Calls.mono (HE (K:=K) hok hmix hf hc hl hargs hs hfr h1 h2 h3 h4 h5 h6 (dW (hmono q) _ _ _ _ _ (fun e env st1 h=>?_) h7)) fun e w' he=>?_
 ·obtain⟨g1,g2,m1,g3,g4⟩:=h;obtain⟨σo,q1,st',vd',k1,k2,k3⟩:=h8 _ _ g4;exact⟨g1,g2,σo,q1,m1,st',vd',k1,k2,k3,g3⟩
 ·match e,he with
  | .returned v,he=>
   obtain⟨x',d,st',g0,g1,g2,g3,g4,g5⟩:=he;exact⟨x',g1,d,st',g0,g2,g3,g4,g5⟩
end
end Go.Abs
end
section
namespace Go.Abs
structure aT where
 name:ah
 range:ah
 feats:List ah
 bare:Bool
 deriving Inhabited,DecidableEq
def aT.D (x:aT):D:=.agg [.str x.name,.str x.range,.sl 1 (x.feats.map D.str),.bool x.bare]
structure aR where
 any:List aT
 when':ah
 option:ah
 deriving Inhabited,DecidableEq
def aR.D (x:aR):D:=.agg [.sl 4 (x.any.map aT.D),.str x.when',.str x.option]
structure ee where
 name:ah
 range:ah
 when':ah
 deriving Inhabited,DecidableEq
def ee.D (x:ee):D:=.agg [.str x.name,.str x.range,.str x.when']
structure aU where
 name:ah
 of:List ah
 deriving Inhabited,DecidableEq
def aU.D (x:aU):D:=.agg [.str x.name,.sl 1 (x.of.map D.str)]
structure Rec where
 name:ah
 v:df
 needs:List aR
 bars:List ee
 feats:List aU
 deriving Inhabited,DecidableEq
def Rec.D (x:Rec):D:=.agg [.str x.name,.int .i64 x.v.major,.int .i64 x.v.minor,.int .i64 x.v.patch,.str x.v.pre,.str x.v.build,.sl 3 (x.needs.map aR.D),.sl 3 (x.bars.map ee.D),.sl 2 (x.feats.map aU.D)]
structure b6 where
 op:Int
 parts:Int
 v:df
 deriving Inhabited,DecidableEq
def b6.D (x:b6):D:=.agg [.int .i64 x.op,.int .i64 x.parts,.int .i64 x.v.major,.int .i64 x.v.minor,.int .i64 x.v.patch,.str x.v.pre,.str x.v.build]
structure Nd where
 op:Int
 a:Int
 b:Int
 key:Int
 text:ah
 deriving Inhabited,DecidableEq
def Nd.D (x:Nd):D:=.agg [.int .i64 x.op,.int .i64 x.a,.int .i64 x.b,.int .i64 x.key,.str x.text]
def ee.eq (a b:ee):eL (ee.D a).cells (ee.D b).cells=decide (a=b):=by
 obtain⟨a1,a2,a3⟩:=a;obtain⟨b1,b2,b3⟩:=b;simp only[ee.D,D.cells,eL,pO,ee.mk.injEq,Bool.and_true];simp only[Bool.decide_and]
def aT.same {a b:aT}(e1:a.name=b.name)(e2:a.range=b.range)(e3:a.bare=b.bare):decide (a=b)=decide (a.feats=b.feats):=by
 obtain⟨a1,a2,a3,a4⟩:=a;obtain⟨b1,b2,b3,b4⟩:=b;simp only at e1 e2 e3;subst e1;subst e2;subst e3;simp
def rising (l:List ah):Bool:=cd (fun i=>Op.bytesLess l[i-1]! l[i]!) 1 l.length
def cb (s:ah):Int×ah×ah:=
 if bI s=true then(1,s,[])
 else if s.length>0∧at8 s 0=63∧bI (s.drop 1)=true then(2,s.drop 1,[])
 else if(ai s 47).length=2∧ea (ai s 47)[0]! =true∧bI (ai s 47)[1]! =true then(3,(ai s 47)[0]!,(ai s 47)[1]!)
 else(0,[],[])
def findF (l:List aU)(nm:ah)(i:Nat):Int:=match(l.drop i).findIdx? (fun x=>decide (x.name=nm))with
 |some k=>((i+k:Nat):Int)
 |none=>-1
def E0 {l:List aU}{nm:ah}{i:Nat}(h:i<l.length)(he:l[i]!.name=nm):findF l nm i=(i:Nat):=by
 unfold findF;rw[List.drop_eq_getElem_cons h,List.findIdx?_cons];have:l[i].name=nm:=by simpa[h]using he
 simp[this]
def E1 {l:List aU}{nm:ah}{i:Nat}(h:i<l.length)(he:¬l[i]!.name=nm):findF l nm i=findF l nm (i+1):=by
 unfold findF;have:¬l[i].name=nm:=by simpa[h]using he
 rw[List.drop_eq_getElem_cons h,List.findIdx?_cons];simp only[this,decide_false,Bool.false_eq_true,if_false];cases(l.drop (i+1)).findIdx? (fun x=>decide (x.name=nm))with
 |none=>rfl
 |some k=>simp only[Option.map_some];congr 1;omega
def C3 {l:List aU}{nm:ah}{i:Nat}(h:l.length≤i):findF l nm i=-1:=by
 unfold findF;rw[List.drop_eq_nil_of_le h];rfl
def Ji:ah:=[100,101,102,97,117,108,116]
def LJ (l:List aU)(nm:ah):Bool:=decide (nm=Ji) ||decide (0≤findF l nm 0)
def iR (l:List aU)(s:ah):Bool:=!(decide ((cb s).1=0) ||(decide ((cb s).1=1)&& !LJ l (cb s).2.1))
def ub (l:List aU)(of:List ah):Bool:=decide (of.length≤6)&&rising of&&cd (fun i=>iR l of[i]!) 0 of.length
def kp (l:List aU)(i:Nat):Bool:=bI l[i]!.name&& !(decide (0<i)&& !Op.bytesLess l[i-1]!.name l[i]!.name)&&ub l l[i]!.of
def fF (l:List aU):Bool:=decide (l.length≤8)&&cd (kp l) 0 l.length
def aU.sm (x:aU):Prop:=x.name.length≤1048576∧x.of.length≤1048576∧∀t∈x.of,t.length≤1048576
def sR (l:List aU):Prop:=∀x∈l,x.sm
def v7 (b:ah):∀(l:List ah)(i:Nat),(aG b (l.take i)).length≤(aG b l).length
 |[],i=>by simp
 |[t],0=>by simp[aG]
 |[t],i+1=>by simp
 |t::u::r,0=>by simp[aG]
 |t::u::r,1=>by simp[aG]
 |t::u::r,i+2=>by
  have:=v7 b (u::r) (i+1);simp only[List.take_succ_cons,aG,List.length_append]at this⊢;omega
def oR (b t:ah):∀(l:List ah),l≠[]→aG b (l++[t])=aG b l++b++t
 |[],h=>absurd rfl h
 |[u],_=>by simp[aG]
 |u::v::r,_=>by
  have:=oR b t (v::r) (by simp);simp only[List.cons_append,aG]at this⊢;rw[this];simp
def oS (b:ah)(l:List ah)(i:Nat)(h:i<l.length):aG b (l.take (i+1))=(if 0<i then aG b (l.take i)++b else [])++l[i]! :=by
 have e:l.take (i+1)=l.take i++[l[i]!]:=by
  rw[List.take_add_one,List.getElem?_eq_getElem h];simp[h]
 rw[e];by_cases h0:0<i
 ·rw[if_pos h0,oR _ _ _ (by intro hn;have:=congrArg List.length hn;simp only[List.length_take,List.length_nil]at this;omega)]
 ·obtain rfl:i=0:=by omega
  simp[aG]
end Go.Abs
namespace Go.Abs
def HZ {s:ah}(h0:bI s=true):cb s=(1,s,[]):=by simp only[cb,if_pos h0]
def H0 {s:ah}(h0:bI s=false)(h:(0<(s.length:Int)∧at8 s 0=63)∧bI (s.drop 1)=true):cb s=(2,s.drop 1,[]):=by
 simp only[cb,h0,Bool.false_eq_true,if_false];rw[if_pos ⟨by omega,h.1.2,h.2⟩]
def y7 {s:ah}(h:(¬0<(s.length:Int)∨¬at8 s 0=63)∨bI (s.drop 1)=false):¬(s.length>0∧at8 s 0=63∧bI (s.drop 1)=true):=by
 rintro⟨h1,h2,h3⟩;rcases h with(h|h)|h
 ·omega
 ·exact h h2
 ·rw[h3]at h;cases h
def H2 {s:ah}(h0:bI s=false)(h:(¬0<(s.length:Int)∨¬at8 s 0=63)∨bI (s.drop 1)=false)(h2:(((ai s 47).length:Int)=2∧ea (ai s 47)[0]! =true)∧bI (ai s 47)[1]! =true):cb s=((3:Int),(ai s 47)[0]!,(ai s 47)[1]!):=by
 simp only[cb,h0,Bool.false_eq_true,if_false];rw[if_neg (y7 h),if_pos ⟨by omega,h2.1.2,h2.2⟩]
def HY {s:ah}(h0:bI s=false)(h:(¬0<(s.length:Int)∨¬at8 s 0=63)∨bI (s.drop 1)=false)(h2:(¬((ai s 47).length:Int)=2∨ea (ai s 47)[0]! =false)∨bI (ai s 47)[1]! =false):cb s=(0,[],[]):=by
 simp only[cb,h0,Bool.false_eq_true,if_false];rw[if_neg (y7 h),if_neg];rintro⟨g1,g2,g3⟩;rcases h2 with(h2|h2)|h2
 ·omega
 ·rw[g2]at h2;cases h2
 ·rw[g3]at h2;cases h2
end Go.Abs
end
namespace Go.Abs
def pB (s:ah)(i:Nat)(h:i<s.length):at8 s i=((s[i]'h).toNat:Int):=by simp[at8,h]
def tq (p:Int→Bool)(s:ah):cd (fun i=>p (at8 s i)) 0 s.length=true↔∀c∈s,p c.toNat=true:=by
 rw[dh];constructor
 ·intro h c hc;obtain⟨i,hi,rfl⟩:=List.getElem_of_mem hc;have:=h i (by omega) hi
  rwa [pB s i hi]at this
 ·intro h j _ hj;rw[pB s j hj];exact h _ (List.getElem_mem hj)
def nq {b:Int}:∀{s cur:ah},(∀c∈s,(c.toNat:Int)≠b)→bm b s cur=[cur++s]
 |[],cur,_=>by simp[bm]
 |c::r,cur,h=>by
  simp only[bm];rw[if_neg (h c (.head _)),nq (fun d hd=>h d (.tail _ hd))];simp
def po {b:Int}{x:UInt8}(hx:(x.toNat:Int)=b)(r:ah):∀{w cur:ah},(∀c∈w,(c.toNat:Int)≠b)→bm b (w++x::r) cur=(cur++w)::bm b r []
 |[],cur,_=>by simp[bm,hx]
 |c::w,cur,h=>by
  simp only[List.cons_append,bm];rw[if_neg (h c (.head _)),po hx r (fun d hd=>h d (.tail _ hd))];simp
def fT {b:Int}{x:UInt8}(hx:(x.toNat:Int)=b):∀{ws:List ah},ws≠[]→(∀w∈ws,∀c∈w,(c.toNat:Int)≠b)→ai (aG [x] ws) b=ws
 |[],h,_=>absurd rfl h
 |[w],_,h=>by
  show bm b w []=[w];rw[nq (h w (.head _))];rfl
 |w::u::r,_,h=>by
  have ih:=fT (ws:=u::r) hx (by simp) (fun v hv=>h v (.tail _ hv));show bm b (w++[x]++aG [x] (u::r)) []=_;rw[List.append_assoc,List.singleton_append,po hx _ (h w (.head _))];rw[show bm b (aG [x] (u::r)) []=u::r from ih];rfl
def mZ {b:Int}{x:UInt8}(hx:(x.toNat:Int)=b):∀(s cur:ah),aG [x] (bm b s cur)=cur++s
 |[],cur=>by simp[bm,aG]
 |c::r,cur=>by
  simp only[bm];split
  ·rename_i h;rw[dG _ _ _ (by intro h;have:=eP b r [];rw[h]at this;simp at this),mZ hx r []];have:c=x:=UInt8.toNat_inj.1 (by omega);simp[this]
  ·rw[mZ hx r];simp
def iG {b:Int}{x:UInt8}(hx:(x.toNat:Int)=b)(s:ah):aG [x] (ai s b)=s:=by
 unfold ai;rw[mZ hx];rfl
def tL {p:UInt8→Bool}{w:ah}(h:∀c∈w,p c=false):w.findIdx? p=none:=by
 rw[List.findIdx?_eq_none_iff];exact h
def yO {p:UInt8→Bool}{w:ah}{x:UInt8}{r:ah}(h:∀c∈w,p c=false)(hx:p x=true):(w++x::r).findIdx? p=some w.length:=by
 rw[List.findIdx?_append,tL h,List.findIdx?_cons,if_pos hx];simp
def tz {b:Int}{w:ah}(h:∀c∈w,(c.toNat:Int)≠b):cL w b=([],w):=by
 unfold cL fC;rw[List.drop_zero,tL (fun c hc=>by simpa using h c hc)]
def rB {b:Int}{w r:ah}{x:UInt8}(h:∀c∈w,(c.toNat:Int)≠b)(hx:(x.toNat:Int)=b):cL (w++x::r) b=(r,w):=by
 unfold cL fC;rw[List.drop_zero,yO (fun c hc=>by simpa using h c hc) (by simpa using hx)];simp
def yJ {n:Nat}(h:n<10):aH (dg n).toNat=true:=by
 have:=vP h;simp only[aH,Bool.and_eq_true,decide_eq_true_eq];omega
def pK {Q:Nat→Prop}(h1:∀n,n<10→Q n)(h2:∀n,9<n→Q (n/10)→Q n)(n:Nat):Q n:=by
 induction n using Nat.strongRecOn with
 |ind n ih=>
  by_cases h:n<10
  ·exact h1 n h
  ·exact h2 n (by omega) (ih _ (by omega))
def dZ (n:Nat):∀c∈bS n,aH c.toNat=true:=by
 refine pK (Q:=fun n=>∀c∈bS n,aH c.toNat=true) (fun n h c hc=>?_) (fun n h ih c hc=>?_) n
 ·rw[jl h]at hc;obtain rfl:=List.mem_singleton.1 hc;exact yJ h
 ·rw[j7 h]at hc;rcases List.mem_append.1 hc with hc|hc
  ·exact ih c hc
  ·obtain rfl:=List.mem_singleton.1 hc;exact yJ (by omega)
def A7 (s:ah)(c:UInt8):ct (s++[c])=ct s*10+(c.toNat-48):=by
 simp[ct,List.foldl_append]
def zm (n:Nat):ct (bS n)=n:=by
 refine pK (Q:=fun n=>ct (bS n)=n) (fun n h=>?_) (fun n h ih=>?_) n
 ·rw[jl h];have:=vP h;simp only[ct,List.foldl_cons,List.foldl_nil];omega
 ·rw[j7 h,A7,ih];have:=vP (n:=n%10) (by omega);omega
def sO (n:Nat):bS n≠[]:=by
 refine pK (Q:=fun n=>bS n≠[]) (fun n h=>?_) (fun n h ih=>?_) n
 ·rw[jl h];simp
 ·rw[j7 h];simp
def CV (n:Nat)(h:0<n):at8 (bS n) 0≠48:=by
 refine pK (Q:=fun n=>0<n→at8 (bS n) 0≠48) (fun n h h0=>?_) (fun n h ih h0=>?_) n h
 ·rw[jl h];have:=vP h;simp only[at8,List.getD_cons_zero];omega
 ·rw[j7 h];have:=ih (by omega);have hn:=List.length_pos_iff.2 (sO (n/10));have e:at8 (bS (n/10)++[dg (n%10)]) 0=at8 (bS (n/10)) 0:=by
   simp only[at8,List.getD,List.getElem?_append_left hn]
  rw[e];exact this
def nM {n:Nat}(h:n≤9999):dL (bS n)=true:=by
 rw[xK];have h1:=List.length_pos_iff.2 (sO n);have h2:=dD 4 n (by omega) (by omega);have h3:cd (fun i=>aH (at8 (bS n) i)) 0 (bS n).length=true:=(tq aH _).2 (dZ n);rw[h3,decide_eq_true (show 1≤(bS n).length by omega),decide_eq_true h2];by_cases h10:n<10
 ·rw[jl h10];rfl
 ·rw[decide_eq_false (CV n (by omega))];simp
def qW {n:Nat}(h:n≤9999):cW (bS n)=(n:Int):=by
 rw[cW,if_pos (nM h),zm]
def jv (x:UInt8):∀(ws:List ah)(c:UInt8),c∈aG [x] ws→c=x∨∃w∈ws,c∈w
 |[],c,h=>by simp[aG]at h
 |[w],c,h=>.inr ⟨w,.head _,h⟩
 |w::u::r,c,h=>by
  rw[dG _ _ _ (by simp)]at h;simp only[List.mem_append,List.mem_singleton]at h;rcases h with(h|h)|h
  ·exact .inr ⟨w,.head _,h⟩
  ·exact .inl h
  ·rcases jv x (u::r) c h with h|⟨v,hv,hc⟩
   ·exact .inl h
   ·exact .inr ⟨v,.tail _ hv,hc⟩
def zU {s:ah}{p:Bool}(h:lX s p=true){c:UInt8}(hc:c∈s):js c.toNat=true∨c=46:=by
 simp only[lX,Bool.or_eq_true,decide_eq_true_eq,jh,Bool.and_eq_true,dh]at h;rcases h with rfl|⟨_,h⟩
 ·cases hc
 ·rw[←iG (b:=46) (x:=46) rfl s]at hc;rcases jv 46 _ c hc with rfl|⟨w,hw,hcw⟩
  ·exact .inr rfl
  ·left;obtain⟨i,hi,rfl⟩:=List.getElem_of_mem hw;have:=h i (by omega) hi;rw[show(ai s 46)[i]! =(ai s 46)[i]by simp[hi]]at this;simp only[eu,mq,Bool.and_eq_true]at this;exact(tq js _).1 this.1.2 c hcw
def yb {s:ah}{p:Bool}(h:lX s p=true){c:UInt8}(hc:c∈s):c.toNat≠43∧c.toNat≠32∧c.toNat≠10:=by
 rcases zU h hc with h|rfl
 ·simp only[js,eM,aH,Bool.or_eq_true,Bool.and_eq_true,decide_eq_true_eq]at h;omega
 ·decide
def mI {c:UInt8}(h:aH c.toNat=true):c.toNat≠46∧c.toNat≠45∧c.toNat≠43∧c.toNat≠32∧c.toNat≠10:=by
 simp only[aH,Bool.and_eq_true,decide_eq_true_eq]at h;omega
def coreS (v:df):ah:=bS v.major.toNat++[46]++bS v.minor.toNat++[46]++bS v.patch.toNat
def xq (v:df){c:UInt8}(h:c∈coreS v):c.toNat≠45∧c.toNat≠43∧c.toNat≠32∧c.toNat≠10:=by
 simp only[coreS,List.mem_append,List.mem_singleton]at h;rcases h with(((h|rfl)|h)|rfl)|h
 ·exact(mI (dZ _ c h)).2
 ·decide
 ·exact(mI (dZ _ c h)).2
 ·decide
 ·exact(mI (dZ _ c h)).2
def rr (v:df):sG v=coreS v++(if v.pre=[]then []else 45::v.pre)++(if v.build=[]then []else 43::v.build):=rfl
def I0 {v:df}(h:en v=true){c:UInt8}(hc:c∈sG v):c.toNat≠32∧c.toNat≠10:=by
 simp only[en,Bool.and_eq_true]at h;rw[rr]at hc;simp only[List.mem_append]at hc;rcases hc with(hc|hc)|hc
 ·exact(xq v hc).2.2
 ·split at hc
  ·cases hc
  ·rcases List.mem_cons.1 hc with rfl|hc
   ·decide
   ·exact(yb h.1.2 hc).2
 ·split at hc
  ·cases hc
  ·rcases List.mem_cons.1 hc with rfl|hc
   ·decide
   ·exact(yb h.2 hc).2
def Ly {v:df}(h:en v=true):kE (iN v)=some v:=by
 have h0:=h;simp only[en,pR,Bool.and_eq_true,decide_eq_true_eq]at h;obtain⟨⟨⟨⟨h1,h2⟩,h3⟩,h4⟩,h5⟩:=h;have e0:iN v=sG v:=by rw[iN,if_pos h0]

 have hcp:∀c∈coreS v++(if v.pre=[]then []else 45::v.pre),(c.toNat:Int)≠43:=fun c hc=>by
  rcases List.mem_append.1 hc with hc|hc
  ·have:=(xq v hc).2.1;omega
  ·split at hc
   ·cases hc
   ·rcases List.mem_cons.1 hc with rfl|hc
    ·decide
    ·have:=(yb h4 hc).1;omega
 have e1:cL (sG v) 43=(v.build,coreS v++(if v.pre=[]then []else 45::v.pre)):=by
  rw[rr];generalize coreS v++(if v.pre=[]then []else 45::v.pre)=q at hcp⊢;split
  ·rename_i hb;rw[List.append_nil,tz hcp,hb]
  ·exact rB hcp (by decide)
 have hc45:∀c∈coreS v,(c.toNat:Int)≠45:=fun c hc=>by have:=(xq v hc).1;omega
 have e2:cL (coreS v++(if v.pre=[]then []else 45::v.pre)) 45=(v.pre,coreS v):=by
  split
  ·rename_i hb;rw[List.append_nil,tz hc45,hb]
  ·exact rB hc45 (by decide)
 have e3:ai (coreS v) 46=[bS v.major.toNat,bS v.minor.toNat,bS v.patch.toNat]:=by
  have:=fT (b:=46) (x:=46) rfl (ws:=[bS v.major.toNat,bS v.minor.toNat,bS v.patch.toNat]) (by simp) (fun w hw c hc=>by
   have hd:aH c.toNat=true:=by
    simp only[List.mem_cons,List.not_mem_nil,or_false]at hw;rcases hw with rfl|rfl|rfl<;>exact dZ _ c hc
   have:=(mI hd).1;omega)
  rw[←this];simp[aG,coreS]
 have n1:=nM (n:=v.major.toNat) (by omega);have n2:=nM (n:=v.minor.toNat) (by omega);have n3:=nM (n:=v.patch.toNat) (by omega);have o1:=qW (n:=v.major.toNat) (by omega);have o2:=qW (n:=v.minor.toNat) (by omega);have o3:=qW (n:=v.patch.toNat) (by omega);have ev:(⟨((v.major.toNat:Nat):Int),((v.minor.toNat:Nat):Int),((v.patch.toNat:Nat):Int),v.pre,v.build⟩:df)=v:=by
  obtain⟨a,b,c,d,e⟩:=v;simp only[df.mk.injEq,and_self,and_true];simp only at h1 h2 h3;omega
 rw[e0];simp only[kE,e1,e2,e3];rw[if_pos ⟨rfl,n1,n2,n3⟩];simp only[List.getElem!_cons_zero,List.getElem!_cons_succ,o1,o2,o3,ev];rw[if_pos ⟨h0,e0⟩]
def hv (c:UInt8):Nat:=if aH c.toNat=true then c.toNat-48 else c.toNat-87
def si (s:ah):Nat:=s.foldl (fun n c=>n*16+hv c) 0
def Cy {s:ah}(h:bI s=true){c:UInt8}(hc:c∈s):vD c.toNat=true:=by
 simp only[bI,Bool.and_eq_true]at h;exact(tq vD s).1 h.2 c hc
def Cz {s:ah}(h:bI s=true){c:UInt8}(hc:c∈s):c.toNat≠32∧c.toNat≠10∧c.toNat≠45:=by
 have:=Cy h hc;simp only[vD,eM,aH,Bool.or_eq_true,Bool.and_eq_true,decide_eq_true_eq]at this;omega
def I3 {s:ah}(h:bI s=true):s≠[]:=by
 rintro rfl;simp[bI]at h
def B5 {s:ah}(h:ea s=true):s≠[]∧eM (at8 s 0)=true∧∀c∈s,c.toNat≠32∧c.toNat≠10:=by
 simp only[ea,Bool.and_eq_true,decide_eq_true_eq,dh]at h;obtain⟨⟨⟨⟨h1,h2⟩,h3⟩,h4⟩,h5⟩:=h;refine⟨by rintro rfl;simp at h1,h3,fun c hc=>?_⟩;obtain⟨i,hi,rfl⟩:=List.getElem_of_mem hc;rcases Nat.eq_zero_or_pos i with rfl|hp
 ·rw[pB s 0 hi]at h3;simp only[eM,Bool.and_eq_true,decide_eq_true_eq]at h3;omega
 ·have:=h5 i hp hi;simp only[nch,Bool.and_eq_true,Bool.or_eq_true,decide_eq_true_eq,pB s i hi,eM,aH]at this;omega
def qn.wf (x:qn):Prop:=0≤x.sum∧x.sum<18446744073709551616
def yi.wf (l:yi):Prop:=∀x∈l.lines,x.wf
end Go.Abs
section
namespace Go.Abs
def rZ {b:Int}{x:UInt8}(hx:(x.toNat:Int)=b):∀(s cur:ah),bm b s cur=match s.findIdx? (fun c=>c==x)with
  |some k=>(cur++s.take k)::bm b (s.drop (k+1)) []
  |none=>[cur++s]
 |[],cur=>by simp[bm]
 |c::r,cur=>by
  simp only[bm,List.findIdx?_cons];by_cases h:c=x
  ·subst h;rw[if_pos hx];simp
  ·have h1:¬(c.toNat:Int)=b:=fun e=>h (UInt8.toNat_inj.1 (by omega))
   have h2:(c==x)=false:=by simpa using h
   rw[if_neg h1,h2,rZ hx r (cur++[c])];cases r.findIdx? (fun c=>c==x)with
   |none=>simp
   |some k=>simp
def wL (s:ah)(x:UInt8):ai s x.toNat=if(dY s x).2.2=true then(dY s x).1::ai (dY s x).2.1 x.toNat else [s]:=by
 unfold ai dY;rw[rZ (x:=x) rfl];cases s.findIdx? (fun c=>c==x)with
 |none=>simp
 |some k=>simp
def wE {s:ah}:(((dY s 47).2.2=true∧ea (dY s 47).1=true)∧bI (dY s 47).2.1=true)↔(((ai s 47).length:Int)=2∧ea (ai s 47)[0]! =true)∧bI (ai s 47)[1]! =true:=by
 have h:=wL s 47;rw[show(((47:UInt8).toNat:Nat):Int)=47 from rfl]at h;by_cases hc:(dY s 47).2.2=true
 ·rw[if_pos hc]at h;rw[h];have hj:=iG (b:=47) (x:=47) rfl (dY s 47).2.1;constructor
  ·rintro⟨⟨_,h1⟩,h2⟩;have h3:ai (dY s 47).2.1 47=[(dY s 47).2.1]:=by
    show bm 47 _ []=_;rw[nq (fun c hc=>?_)]
    ·rfl
    ·have:=Cy h2 hc;simp only[vD,eM,aH,Bool.or_eq_true,Bool.and_eq_true,decide_eq_true_eq]at this;omega
   rw[h3];exact⟨⟨rfl,h1⟩,h2⟩
  ·rintro⟨⟨h1,h2⟩,h3⟩;refine⟨⟨hc,h2⟩, ?_⟩;generalize ai (dY s 47).2.1 47=q at hj h1 h3
   match q,h1 with
   |[y],_=>
    have:y=(dY s 47).2.1:=hj;rw[←this];exact h3
   |[],h1=>simp at h1
   |_::_::_,h1=>simp at h1;omega
 ·rw[if_neg hc]at h;rw[h];constructor
  ·rintro⟨⟨h1,_⟩,_⟩;exact absurd h1 hc
  ·rintro⟨⟨h1,_⟩,_⟩;simp at h1
def zi {s:ah}:(cY s [63]).2=true↔0<(s.length:Int)∧at8 s 0=63:=by
 match s with
 |[]=>simp[cY,List.isPrefixOf]
 |c::r=>
  have e:((c.toNat:Int)=63)↔c=63:=⟨fun h=>UInt8.toNat_inj.1 (by have:(63:UInt8).toNat=63:=rfl;omega),fun h=>by subst h;rfl⟩;simp only[cY,List.isPrefixOf,Bool.and_true,at8,List.getD_cons_zero,List.length_cons];by_cases h:c=63
  ·subst h;simp
  ·have:¬(c.toNat:Int)=63:=fun h2=>h (e.1 h2)
   have h3:((63:UInt8)==c)=false:=by simpa using fun h2=>h h2.symm
   simp[h3,this]
def wi {s:ah}(h:(cY s [63]).2=true):(cY s [63]).1=s.drop 1:=by
 unfold cY at h⊢;split at h
 ·rename_i hp;rw[if_pos hp];rfl
 ·cases h
def H4 {s:ah}(h0:bI s=false)(h:(cY s [63]).2=true∧bI (cY s [63]).1=true):cb s=(2,(cY s [63]).1,[]):=by
 rw[wi h.1]at h⊢;exact H0 h0 ⟨zi.1 h.1,h.2⟩
def BZ {s:ah}(h:(cY s [63]).2=false∨bI (cY s [63]).1=false):(¬0<(s.length:Int)∨¬at8 s 0=63)∨bI (s.drop 1)=false:=by
 by_cases hp:(cY s [63]).2=true
 ·rw[wi hp]at h;rcases h with h|h
  ·rw[hp]at h;cases h
  ·exact .inr h
 ·have:=fun h2=>hp (zi.2 h2)
  by_cases h1:0<(s.length:Int)
  ·exact .inl (.inr fun h2=>this ⟨h1,h2⟩)
  ·exact .inl (.inl h1)
def H5 {s:ah}(h0:bI s=false)(h:(cY s [63]).2=false∨bI (cY s [63]).1=false)(h2:((dY s 47).2.2=true∧ea (dY s 47).1=true)∧bI (dY s 47).2.1=true):cb s=((3:Int),(dY s 47).1,(dY s 47).2.1):=by
 have h3:=wE.1 h2;rw[H2 h0 (BZ h) h3];have hs:=wL s 47;rw[show(((47:UInt8).toNat:Nat):Int)=47 from rfl,if_pos h2.1.1]at hs;have hj:=iG (b:=47) (x:=47) rfl (dY s 47).2.1;have hl:=h3.1.1;rw[hs]at hl⊢;generalize ai (dY s 47).2.1 47=q at hj hl
 match q,hl with
 |[y],_=>
  have:y=(dY s 47).2.1:=hj;rw[←this];rfl
 |[],h1=>simp at h1
 |_::_::_,h1=>simp at h1;omega
def H3 {s:ah}(h0:bI s=false)(h:(cY s [63]).2=false∨bI (cY s [63]).1=false)(h2:((dY s 47).2.2=false∨ea (dY s 47).1=false)∨bI (dY s 47).2.1=false):cb s=(0,[],[]):=by
 refine HY h0 (BZ h) ?_;have hn:¬((((ai s 47).length:Int)=2∧ea (ai s 47)[0]! =true)∧bI (ai s 47)[1]! =true):=fun h3=>by
  obtain⟨⟨g1,g2⟩,g3⟩:=wE.2 h3;rcases h2 with(h2|h2)|h2
  ·rw[g1]at h2;cases h2
  ·rw[g2]at h2;cases h2
  ·rw[g3]at h2;cases h2
 by_cases k1:((ai s 47).length:Int)=2
 ·by_cases k2:ea (ai s 47)[0]! =true
  ·right;cases k3:bI (ai s 47)[1]! with
   |false=>rfl
   |true=>exact absurd ⟨⟨k1,k2⟩,k3⟩ hn
  ·exact .inl (.inr (by simpa using k2))
 ·exact .inl (.inl k1)
end Go.Abs
namespace Go.Abs
def CY {l:List aU}{i:Nat}(h:(!bI l[i]!.name ||(decide ((0:Int)<(i:Int))&& !Op.bytesLess l[i-1]!.name l[i]!.name) ||decide ((6:Int)<(l[i]!.of.length:Int)) ||!rising l[i]!.of)=false):
  kp l i=cd (fun j=>iR l l[i]!.of[j]!) 0 l[i]!.of.length:=by
 simp only[Bool.or_eq_false_iff,Bool.not_eq_false',decide_eq_false_iff_not]at h;obtain⟨⟨⟨h1,h2⟩,h3⟩,h4⟩:=h;have e:(decide (0<i)&& !Op.bytesLess l[i-1]!.name l[i]!.name)=false:=by
  rw[show decide (0<i)=decide ((0:Int)<(i:Int))from decide_eq_decide.2 (by omega)];exact h2
 simp only[kp,ub,h1,e,h4];rw[decide_eq_true (by omega)];rfl
def CX {l:List aU}{i:Nat}(h:(!bI l[i]!.name ||(decide ((0:Int)<(i:Int))&& !Op.bytesLess l[i-1]!.name l[i]!.name) ||decide ((6:Int)<(l[i]!.of.length:Int)) ||!rising l[i]!.of)=true):
  kp l i=false:=by
 have e:decide ((0:Int)<(i:Int))=decide (0<i):=decide_eq_decide.2 (by omega);have e6:decide ((6:Int)<(l[i]!.of.length:Int))=!decide (l[i]!.of.length≤6):=by
  by_cases h6:l[i]!.of.length≤6
  ·rw[decide_eq_true h6,decide_eq_false (by omega)];rfl
  ·rw[decide_eq_false h6,decide_eq_true (by omega)];rfl
 rw[e,e6]at h;simp only[kp,ub];revert h;generalize bI l[i]!.name=a;generalize (decide (0<i)&& !Op.bytesLess l[i-1]!.name l[i]!.name)=b;generalize decide (l[i]!.of.length≤6)=c;generalize rising l[i]!.of=d;cases a<;>cases b<;>cases c<;>cases d<;>simp
end Go.Abs
end
section
namespace Go.Abs
def bR (op:Int):ah:=if op=1 then [61]else if op=2 then [33,61]else if op=3 then [60]else if op=4 then [60,61]else if op=5 then [62]else if op=6 then [62,61]else if op=7 then [94]else if op=8 then [126]else []
def ri (op:Int):(bR op).length≤2:=by
 unfold bR;repeat' split
 all_goals decide
def qw (s w:ah):Bool:=decide (w.length≤s.length)&&decide (s.take w.length=w)
def ma (c:b6):Bool:=(decide (0<c.parts) ||decide (c.v.major=0))&&(decide (1<c.parts) ||decide (c.v.minor=0))&&(decide (2<c.parts) ||decide (c.v.patch=0))
def iQ (c:b6):Bool:=decide (1≤c.op)&&decide (c.op≤9)&&en c.v&&decide (c.v.build=[])&&decide ((if c.op=9 then 0 else 1)≤c.parts)&&decide (c.parts≤if c.op=9 then 2 else 3)&&(decide (3≤c.parts) ||decide (c.v.pre=[]))&&ma c
def b6.sm (c:b6):Prop:=c.v.sm
def yF {c:b6}(h:(decide (c.op<1) ||decide (9<c.op) ||!en c.v ||!decide (c.v.build=[]))=true):iQ c=false:=by
 unfold iQ;rw[show decide (c.op<1)=!decide (1≤c.op)by rw[←decide_not];exact decide_eq_decide.2 (by omega),show decide (9<c.op)=!decide (c.op≤9)by rw[←decide_not];exact decide_eq_decide.2 (by omega)]at h;revert h;generalize decide (1≤c.op)=a1;generalize decide (c.op≤9)=a2;generalize en c.v=a3;generalize decide (c.v.build=[])=a4;cases a1<;>cases a2<;>cases a3<;>cases a4<;>simp
def vO {c:b6}(h:(decide (c.op<1) ||decide (9<c.op) ||!en c.v ||!decide (c.v.build=[]))=false):1≤c.op∧c.op≤9∧en c.v=true∧c.v.build=[]:=by
 simp only[Bool.or_eq_false_iff,decide_eq_false_iff_not,Bool.not_eq_false',decide_eq_true_eq]at h;exact⟨by omega,by omega,h.1.2,h.2⟩
end Go.Abs
namespace Go.Abs
def ny {c:b6}(hy:1≤c.op∧c.op≤9∧en c.v=true∧c.v.build=[]){lo hi:Int}(hlo:(if c.op=9 then 0 else 1)=lo)(hhi:(if c.op=9 then 2 else 3)=hi):
  iQ c=(!(decide (c.parts<lo) ||decide (hi<c.parts) ||(decide (c.parts<3)&& !decide (c.v.pre=[])))&&ma c):=by
 obtain⟨h1,h2,h3,h4⟩:=hy;unfold iQ;rw[decide_eq_true h1,decide_eq_true h2,h3,decide_eq_true h4,hlo,hhi];rw[show decide (c.parts<lo)=!decide (lo≤c.parts)by rw[←decide_not];exact decide_eq_decide.2 (by omega),show decide (hi<c.parts)=!decide (c.parts≤hi)by rw[←decide_not];exact decide_eq_decide.2 (by omega),show decide (c.parts<3)=!decide (3≤c.parts)by rw[←decide_not];exact decide_eq_decide.2 (by omega)];generalize decide (lo≤c.parts)=a1;generalize decide (c.parts≤hi)=a2;generalize decide (3≤c.parts)=a3;generalize decide (c.v.pre=[])=a4;cases a1<;>cases a2<;>cases a3<;>cases a4<;>simp
end Go.Abs
namespace Go.Abs
def b6.iI (c:b6):List Int:=[c.v.major,c.v.minor,c.v.patch]
def dF (c:b6):Nat→ah
 |0=>[]
 |i+1=>dF c i++(if 0<i then [46]else [])++bS (c.iI[i]!).toNat
def gW (c:b6):ah:=if c.op=9 then(if 0<c.parts then [46]else [])++[42]else if c.v.pre=[]then []else 45::c.v.pre
def iD (c:b6):ah:=bR c.op++dF c c.parts.toNat++gW c
def cV (c:b6):ah:=if iQ c=true then iD c else []
def m5 {c:b6}(h:en c.v=true)(i:Nat):0≤c.iI[i]! ∧c.iI[i]! ≤9999:=by
 simp only[en,pR,Bool.and_eq_true,decide_eq_true_eq]at h
 match i with
 |0=>exact h.1.1.1.1
 |1=>exact h.1.1.1.2
 |2=>exact h.1.1.2
 |k+3=>exact(by simp[b6.iI]:0≤c.iI[k+3]! ∧c.iI[k+3]! ≤9999)
def nN {c:b6}(h:en c.v=true):∀i,(dF c i).length≤5*i
 |0=>by simp[dF]
 |i+1=>by
  have:=nN h i;have hn:=m5 h i;have:=dD 4 (c.iI[i]!).toNat (by omega) (by omega);simp only[dF,List.length_append];split
  ·simp only[List.length_singleton];omega
  ·simp only[List.length_nil];omega
def kL {c:b6}(h:iQ c=true):en c.v=true∧0≤c.parts∧c.parts≤3∧1≤c.op∧c.op≤9:=by
 simp only[iQ,Bool.and_eq_true,decide_eq_true_eq]at h;obtain⟨⟨⟨⟨⟨⟨⟨h1,h2⟩,h3⟩,h4⟩,h5⟩,h6⟩,h7⟩,h8⟩:=h;refine⟨h3, ?_, ?_,h1,h2⟩
 ·split at h5<;>omega
 ·split at h6<;>omega
end Go.Abs
namespace Go.Abs
def iM (c:b6):List ah:=(c.iI.map fun n=>bS n.toNat).take c.parts.toNat
def wx (c:b6):∀i,i≤3→aG [46] ((c.iI.map fun n=>bS n.toNat).take i)=dF c i
 |0,_=>by simp[aG,dF]
 |i+1,h=>by
  have hl:i<(c.iI.map fun n=>bS n.toNat).length:=by simp[b6.iI];omega
  have hl2:i<c.iI.length:=by show i<3;omega
  rw[oS _ _ _ hl,wx c i (by omega)];simp only[dF];have e:(c.iI.map fun n=>bS n.toNat)[i]! =bS (c.iI[i]!).toNat:=by simp[hl2]
  rw[e];split
  ·simp
  ·obtain rfl:i=0:=by omega
   simp[dF]
def zY {c:b6}(h:c.parts≤3):(iM c).length=c.parts.toNat:=by
 simp[iM,b6.iI];omega
def wQ {c:b6}(h:c.parts≤3):aG [46] (iM c)=dF c c.parts.toNat:=wx c _ (by omega)
def rq {c:b6}(h0:0≤c.parts)(h:c.parts≤3):aG [46] (iM c++[[42]])=dF c c.parts.toNat++((if 0<c.parts then [46]else [])++[42]):=by
 by_cases hp:0<c.parts
 ·rw[oR _ _ _ (by intro hn;have:=congrArg List.length hn;rw[zY h]at this;simp only[List.length_nil]at this;omega),wQ h,if_pos hp];simp
 ·have:c.parts.toNat=0:=by omega
  rw[if_neg hp,this];have e:iM c=[]:=by simp[iM,this]
  rw[e];rfl
end Go.Abs
namespace Go.Abs
def opsL:List Int:=[2,4,6,1,3,5,7,8]
def oU (s:ah)(i:Nat):Option Int:=(opsL.drop i).find? fun o=>qw s (bR o)
def iZ (s:ah):Int×ah:=match oU s 0 with
 |some o=>(o,s.drop (bR o).length)
 |none=>if 0<s.length∧at8 s (s.length-1)=42 then(9,s)else(7,s)
def Il {s:ah}{i:Nat}(h:i<8)(hb:qw s (bR opsL[i]!)=true):oU s i=some opsL[i]! :=by
 have hl:i<opsL.length:=h;unfold oU;rw[List.drop_eq_getElem_cons hl,List.find?_cons];rw[show opsL[i]! =opsL[i]by simp[hl]]at hb⊢;rw[hb]
def Im {s:ah}{i:Nat}(h:i<8)(hb:qw s (bR opsL[i]!)=false):oU s i=oU s (i+1):=by
 have hl:i<opsL.length:=h;unfold oU;rw[List.drop_eq_getElem_cons hl,List.find?_cons];rw[show opsL[i]! =opsL[i]by simp[hl]]at hb;rw[hb]
def FN {s:ah}{i:Nat}(h:8≤i):oU s i=none:=by
 unfold oU;rw[List.drop_eq_nil_of_le h];rfl
def fJ (s:ah)(i:Nat):ah×ah:=match(s.drop i).findIdx? (fun c=>c==45)with
 |some k=>(s.take (i+k),s.drop (i+k+1))
 |none=>(s,[])
def Iy {s:ah}{i:Nat}(h:i<s.length)(he:at8 s i=45):fJ s i=(s.take i,s.drop (i+1)):=by
 unfold fJ;rw[nF s i h,List.findIdx?_cons];have:s.getD i 0=45:=UInt8.toNat_inj.1 (by simp only[at8]at he;show(s.getD i 0).toNat=45;omega);rw[this];rfl
def Iz {s:ah}{i:Nat}(h:i<s.length)(he:¬at8 s i=45):fJ s i=fJ s (i+1):=by
 unfold fJ;rw[nF s i h,List.findIdx?_cons];have:(s.getD i 0==45)=false:=by
  rw[beq_eq_false_iff_ne];intro e;exact he (by simp only[at8,e];rfl)
 rw[this];simp only[Bool.false_eq_true,if_false];cases(s.drop (i+1)).findIdx? (fun c=>c==45)with
 |none=>rfl
 |some k=>simp only[Option.map_some];rw[show i+(k+1)=i+1+k by omega]
def F9 {s:ah}{i:Nat}(h:s.length≤i):fJ s i=(s,[]):=by
 unfold fJ;rw[List.drop_eq_nil_of_le h];rfl
end Go.Abs
namespace Go.Abs
def fI (l:List ah):Bool:=decide (l.length≤3)&&cd (fun i=>dL l[i]!) 0 l.length
def numV (l:List ah):df:=⟨if 0<l.length then cW l[0]! else 0,if 1<l.length then cW l[1]! else 0,if 2<l.length then cW l[2]! else 0,[],[]⟩
end Go.Abs
namespace Go.Abs
def dx:b6:=⟨0,0,ja⟩
def Jw (op:Int)(l:List ah):List ah:=if op=9 then l.take (l.length-1)else l
def oe (op:Int)(l:List ah)(pre:ah):b6:=⟨op,(l.length:Nat),{numV l with pre:=pre}⟩
def FK (s:ah)(op:Int)(l:List ah)(pre:ah):Bool:=fI l&& !(decide (cV (oe op l pre)=[]) ||(!decide (cV (oe op l pre)=s)&& !decide (cV (oe op l pre)=94::s)))
def e7 (s:ah):Option b6:=
 let o:=iZ s
 let p:=fJ o.2 0
 let l:=Jw o.1 (ai p.1 46)
 if FK s o.1 l p.2=true then some (oe o.1 l p.2)else none
def Bn (s:ah):(iZ s).2.length≤s.length:=by
 unfold iZ;split
 ·simp
 ·split<;>exact Nat.le_refl _
def zu (s:ah):(fJ s 0).1.length≤s.length∧(fJ s 0).2.length≤s.length:=by
 unfold fJ;split<;>simp<;>omega
end Go.Abs
namespace Go.Abs
def bZ (s:ah):Int×ah:=match oU s 0 with
 |some o=>(o,s.drop (bR o).length)
 |none=>(9,s)
def cS (s:ah):ah×ah:=fJ (bZ s).2 0
def cF (s:ah):List ah:=Jw (bZ s).1 (ai (cS s).1 46)
def jW (s:ah):Prop:=(bZ s).1=9→(ai (cS s).1 46)[(ai (cS s).1 46).length-1]! =[42]
instance (s:ah):Decidable (jW s):=by unfold jW;exact inferInstance
def cN (s:ah):b6:=oe (bZ s).1 (cF s) (cS s).2
def dI (s:ah):Option b6:=if jW s∧fI (cF s)=true∧iQ (cN s)=true∧cV (cN s)=s then some (cN s)else none
def B9 (l:List ah)(i:Nat):df:=⟨if 0<i then cW l[0]! else 0,if 1<i then cW l[1]! else 0,if 2<i then cW l[2]! else 0,[],[]⟩
def DT (s:ah):(bZ s).2.length≤s.length:=by
 unfold bZ;split<;>simp
def gE {s:ah}(h:¬(jW s∧fI (cF s)=true∧iQ (cN s)=true∧cV (cN s)=s)):dI s=none:=by
 unfold dI;rw[if_neg h]
end Go.Abs
namespace Go.Abs
def gQ (s:ah):Option b6:=if(dI s).isSome=true then dI s else dI (94::s)
def zX (c:b6):aZ:=.buf 1 [.str (bS c.v.major.toNat),.str (bS c.v.minor.toNat),.str (bS c.v.patch.toNat)]
def uQ (c:b6):[D.str (bS c.v.major.toNat),D.str (bS c.v.minor.toNat),D.str (bS c.v.patch.toNat)].take c.parts.toNat=(iM c).map D.str:=by
 unfold iM b6.iI;rw[List.map_take];rfl
def IW {c:b6}{m:List (Nat×aZ)}{l:Nat}(hl:look m l=some (zX c)):xV m [.sl 1 [.a]] (.own l 1 0 c.parts.toNat)=.sl 1 ((iM c).map D.str):=by
 show D.sl 1 _=_;simp only[aE,hl,zX,List.drop_zero,uQ,List.map_map];congr 1
def GJ {c:b6}{m:List (Nat×aZ)}{l:Nat}(h:c.parts≤3)(hl:look m l=some (zX c)):G4 m [.sl 1 [.a]] (.own l 1 0 c.parts.toNat):=by
 simp only[G4,JC,JB];refine⟨by simp[dC,hl,zX];omega, ?_⟩;simp only[aE,hl,zX,List.drop_zero,uQ];intro e he;obtain⟨x,_,rfl⟩:=List.mem_map.1 he;trivial
end Go.Abs
end
namespace Go.Abs
def nA {c:b6}(h:cV c≠[]):iQ c=true∧cV c=iD c:=by
 unfold cV at h⊢;split at h
 ·rename_i hb;exact⟨hb,if_pos hb⟩
 ·exact absurd rfl h
def xO {s:ah}{op:Int}{l:List ah}{pre:ah}:FK s op l pre=true↔fI l=true∧cV (oe op l pre)≠[]∧(cV (oe op l pre)=s∨cV (oe op l pre)=94::s):=by
 simp only[FK,Bool.and_eq_true,Bool.not_eq_true',Bool.or_eq_false_iff,decide_eq_false_iff_not,Bool.and_eq_false_iff,Bool.not_eq_false',decide_eq_true_eq]
def qY (c:UInt8):Prop:=c≠33∧c≠60∧c≠61∧c≠62∧c≠94∧c≠126
def mJ {c:UInt8}(h:aH c.toNat=true):qY c∧c≠42:=by
 simp only[aH,Bool.and_eq_true,decide_eq_true_eq]at h;refine⟨⟨?_, ?_, ?_, ?_, ?_, ?_⟩, ?_⟩<;>rintro rfl<;>revert h<;>decide
def zo {k:b6}:∀(i:Nat)(c:UInt8),c∈dF k i→aH c.toNat=true∨c=46
 |0,c,h=>by simp[dF]at h
 |i+1,c,h=>by
  simp only[dF,List.mem_append]at h;rcases h with(h|h)|h
  ·exact zo i c h
  ·split at h
   ·exact .inr (List.mem_singleton.1 h)
   ·cases h
  ·exact .inl (dZ _ c h)
def uq (k:b6):∀i,0<i→∃c r,dF k i=c::r∧aH c.toNat=true
 |0,h=>by omega
 |1,_=>by
  have hd:=dZ (k.iI[0]!).toNat;have hn:=sO (k.iI[0]!).toNat;simp only[dF,Nat.lt_irrefl,if_false,List.nil_append];generalize bS (k.iI[0]!).toNat=w at hd hn
  match w,hn with
  |c::r,_=>exact⟨c,r,rfl,hd c (.head _)⟩
 |i+2,_=>by
  obtain⟨c,r,h1,h2⟩:=uq k (i+1) (by omega);refine⟨c,r++(if 0<i+1 then [46]else [])++bS (k.iI[i+1]!).toNat, ?_,h2⟩;show dF k (i+1)++_++_=_;rw[h1];simp
def CO {c:b6}(h:iQ c=true)(h9:c.op≠9):0<c.parts.toNat:=by
 simp only[iQ,Bool.and_eq_true,decide_eq_true_eq]at h;have:=h.1.1.1.2;rw[if_neg h9]at this;omega
def DL {s:ah}{o:Int}(h:oU s 0=some o):1≤o∧o≤8∧∃x t,s=x::t∧¬qY x∧(x=94→o=7):=by
 have hm:=List.mem_of_find?_eq_some h;have hb:=List.find?_some h;simp only[qw,Bool.and_eq_true,decide_eq_true_eq]at hb;obtain⟨h1,h2⟩:=hb;have hne:s≠[]∨bR o=[]:=by
  by_cases e:s=[]
  ·right;subst e;simpa using h1
  ·exact .inl e
 simp only[opsL,List.drop_zero,List.mem_cons,List.not_mem_nil,or_false]at hm;have key:∀w:ah,w≠[]→s.take w.length=w→∃x t t',s=x::t∧w=x::t':=by
  intro w hw hs
  match w,hw with
  |x::t',_=>
   match s with
   |[]=>simp at hs
   |y::t=>
    simp only[List.length_cons,List.take_succ_cons,List.cons.injEq]at hs;exact⟨x,t,t',by rw[hs.1],rfl⟩
 rcases hm with rfl|rfl|rfl|rfl|rfl|rfl|rfl|rfl
 all_goals
  refine⟨by omega,by omega, ?_⟩;obtain⟨x,t,t',e1,e2⟩:=key _ (by decide) h2;have hxx:=congrArg (fun w:ah=>w.headD 0) e2;simp only[List.headD_cons]at hxx;refine⟨x,t,e1, ?_, ?_⟩
  ·rw[←hxx];unfold qY;decide
  ·rw[←hxx];decide
def ur (t:ah):oU (94::t) 0=some 7:=by
 unfold oU opsL;have hn:∀w:ah,w≠[]→w.headD 0≠94→qw (94::t) w=false:=by
  intro w hw hx
  match w,hw with
  |x::r,_=>
   unfold qw;rw[Bool.and_eq_false_iff];right;rw[decide_eq_false_iff_not];intro h;simp only[List.length_cons,List.take_succ_cons,List.cons.injEq]at h;exact hx h.1.symm
 have hy:qw (94::t) (bR 7)=true:=by
  unfold qw;rw[show bR 7=[94]by decide];simp
 simp only[List.drop_zero,List.find?_cons,hn _ (show bR 2≠[]by decide) (by decide),hn _ (show bR 4≠[]by decide) (by decide),hn _ (show bR 6≠[]by decide) (by decide),hn _ (show bR 1≠[]by decide) (by decide),
  hn _ (show bR 3≠[]by decide) (by decide),hn _ (show bR 5≠[]by decide) (by decide),hy]
def zy (t:ah):bZ (94::t)=(7,t):=by
 simp only[bZ,ur];rw[show bR 7=[94]by decide];rfl
def uM (b:Int):∀(s cur:ah),∃r l,bm b s cur=(cur++r)::l
 |[],cur=>⟨[],[],by simp[bm]⟩
 |c::s,cur=>by
  simp only[bm];split
  ·exact⟨[],_,by rw[List.append_nil]⟩
  ·obtain⟨r,l,h⟩:=uM b s (cur++[c]);exact⟨c::r,l,by rw[h];simp⟩
def D2 {x:UInt8}{t:ah}(h:¬qY x):fI (ai (fJ (x::t) 0).1 46)=false:=by
 have hx:x≠45∧x≠46∧aH x.toNat=false:=by
  refine⟨?_, ?_, ?_⟩
  ·rintro rfl;exact h (by unfold qY;decide)
  ·rintro rfl;exact h (by unfold qY;decide)
  ·cases hd:aH x.toNat with
   |false=>rfl
   |true=>exact absurd (mJ hd).1 h
 have hp:∃r,(fJ (x::t) 0).1=x::r:=by
  unfold fJ;rw[List.drop_zero,List.findIdx?_cons];rw[if_neg (by simpa using hx.1)];cases t.findIdx? (fun c=>c==45)with
  |none=>exact⟨t,rfl⟩
  |some k=>exact⟨t.take k,by simp⟩
 obtain⟨r,hr⟩:=hp;rw[hr];have h46:¬((x.toNat:Int)=46):=fun e=>hx.2.1 (UInt8.toNat_inj.1 (by show x.toNat=46;omega))
 obtain⟨q,l,hs⟩:=uM 46 r [x];have e:ai (x::r) 46=(x::q)::l:=by
  unfold ai;simp only[bm];rw[if_neg h46];simpa using hs
 rw[e];unfold fI;rw[Bool.and_eq_false_iff];right;rw[aD (by simp)];have hn:dL ((x::q)::l)[0]! =false:=by
  show dL (x::q)=false;rw[xK];rw[aD (by simp)];have:aH (at8 (x::q) 0)=false:=by simpa[at8]using hx.2.2
  rw[this];simp
 rw[hn];rfl
def Jv {s:ah}(h:iZ s=bZ s):e7 s=if FK s (bZ s).1 (cF s) (cS s).2=true then some (cN s)else none:=by
 unfold e7;simp only[h];rfl
def uG {s:ah}:dI s=if jW s∧fI (cF s)=true∧iQ (cN s)=true∧cV (cN s)=s then some (cN s)else none:=rfl
def DQ {s:ah}(h:∀c∈s,c≠45):fJ s 0=(s,[]):=by
 unfold fJ;rw[List.drop_zero,List.findIdx?_eq_none_iff.2 (fun c hc=>by simpa using h c hc)]
def wO {k:b6}(hb:iQ k=true)(h9:k.op=9):iD k=aG [46] (iM k++[[42]]):=by
 obtain⟨_,h0,h3,_,_⟩:=kL hb;rw[rq h0 h3];unfold iD gW;rw[if_pos h9,h9];rfl
def nr {k:b6}{w:ah}(h:w∈iM k++[[42]]){c:UInt8}(hc:c∈w):aH c.toNat=true∨c=42:=by
 rcases List.mem_append.1 h with h|h
 ·have:=List.mem_of_mem_take h;obtain⟨n,_,rfl⟩:=List.mem_map.1 this;exact .inl (dZ _ c hc)
 ·obtain rfl:=List.mem_singleton.1 h;exact .inr (List.mem_singleton.1 hc)
def wN {k:b6}{s:ah}(hb:iQ k=true)(h9:k.op=9)(hs:iD k=s):(0<s.length∧at8 s (s.length-1)=42)∧fJ s 0=(s,[])∧ai s 46=iM k++[[42]]:=by
 have ht:=wO hb h9;obtain⟨_,h0,h3,_,_⟩:=kL hb;rw[hs]at ht;have hch:∀c∈s,aH c.toNat=true∨c=42∨c=46:=by
  intro c hc;rw[ht]at hc;rcases jv 46 _ c hc with h|⟨w,hw,hcw⟩
  ·exact .inr (.inr h)
  ·rcases nr hw hcw with h|h
   ·exact .inl h
   ·exact .inr (.inl h)
 refine⟨?_,DQ (fun c hc=>?_), ?_⟩
 ·have he:∃q,s=q++[42]:=by
   rw[ht,rq h0 h3];exact⟨dF k k.parts.toNat++(if 0<k.parts then [46]else []),by rw[List.append_assoc]⟩
  obtain⟨q,rfl⟩:=he;simp[at8]
 ·rintro rfl;rcases hch 45 hc with h|h|h
  ·revert h;decide
  ·revert h;decide
  ·revert h;decide
 ·rw[ht];refine fT (b:=46) (x:=46) rfl (by simp) fun w hw c hc=>?_
  rcases nr hw hc with h|h
  ·have:=(mI h).1;omega
  ·rw[h];decide
def tD {k:b6}{s:ah}(hb:iQ k=true)(h7:k.op=7)(hs:iD k=94::s):(∀c∈s,c≠42)∧∃c r,s=c::r∧aH c.toNat=true:=by
 have hp:=CO hb (by omega);have e:s=dF k k.parts.toNat++gW k:=by
  unfold iD at hs;rw[h7,show bR 7=[94]by decide]at hs;simpa using hs.symm
 obtain⟨c,r,h1,h2⟩:=uq k _ hp;refine⟨fun c hc=>?_,c,r++gW k,by rw[e,h1];rfl,h2⟩;rw[e]at hc;rcases List.mem_append.1 hc with hc|hc
 ·rcases zo _ c hc with h|h
  ·exact(mJ h).2
  ·rw[h];decide
 ·unfold gW at hc;rw[if_neg (by omega)]at hc;split at hc
  ·cases hc
  ·rcases List.mem_cons.1 hc with rfl|hc
   ·decide
   ·have hv:=(kL hb).1;simp only[en,Bool.and_eq_true]at hv;rcases zU hv.1.2 hc with h|h
    ·rintro rfl;revert h;decide
    ·rw[h];decide
def sZ {s:ah}:FK s (bZ s).1 (cF s) (cS s).2=true↔fI (cF s)=true∧cV (cN s)≠[]∧(cV (cN s)=s∨cV (cN s)=94::s):=xO
def EO (s:ah):gQ s=e7 s:=by
 have hcar:bZ (94::s)=(7,s):=zy s;have hL7:cF (94::s)=ai (fJ s 0).1 46:=by
  unfold cF cS;rw[hcar];rfl
 have hK7:cN (94::s)=oe 7 (ai (fJ s 0).1 46) (fJ s 0).2:=by
  unfold cN;rw[hL7];unfold cS;rw[hcar]
 cases ho:oU s 0 with
 |some o=>
  obtain⟨o1,o8,x,t,hs,hx,hx94⟩:=DL ho;have hrw:bZ s=(o,s.drop (bR o).length):=by simp only[bZ,ho]
  have hsp:iZ s=bZ s:=by rw[hrw];simp only[iZ,ho]
  have hstar:jW s:=by
   intro h;rw[hrw]at h;simp only at h;omega
  have hcn:dI (94::s)=none:=gE fun h=>by
   have:=h.2.1;rw[hL7,hs,D2 hx]at this;cases this
  have hop:(cN s).op=o:=by show(bZ s).1=o;rw[hrw]
  rw[Jv hsp];by_cases hk:fI (cF s)=true∧cV (cN s)=s
  ·have hne:cV (cN s)≠[]:=by rw[hk.2,hs];simp
   have hb:=(nA hne).1;have hr:dI s=some (cN s):=by rw[uG,if_pos ⟨hstar,hk.1,hb,hk.2⟩]
   have hok:FK s (bZ s).1 (cF s) (cS s).2=true:=sZ.2 ⟨hk.1,hne,.inl hk.2⟩;rw[if_pos hok];unfold gQ;rw[hr];rfl
  ·have hr:dI s=none:=gE fun h=>hk ⟨h.2.1,h.2.2.2⟩
   have hok:¬FK s (bZ s).1 (cF s) (cS s).2=true:=fun h=>by
    obtain⟨h1,h2,h3⟩:=sZ.1 h;rcases h3 with h3|h3
    ·exact hk ⟨h1,h3⟩
    ·obtain⟨hb,he⟩:=nA h2;have h3':iD (cN s)=94::s:=by rw[←he];exact h3
     have h7:o=7:=by
      have hh:∃y w,bR o=y::w∧(y=94→o=7):=by
       have:o=1∨o=2∨o=3∨o=4∨o=5∨o=6∨o=7∨o=8:=by omega
       rcases this with rfl|rfl|rfl|rfl|rfl|rfl|rfl|rfl
       ·exact⟨61,[],by decide,by decide⟩
       ·exact⟨33,[61],by decide,by decide⟩
       ·exact⟨60,[],by decide,by decide⟩
       ·exact⟨60,[61],by decide,by decide⟩
       ·exact⟨62,[],by decide,by decide⟩
       ·exact⟨62,[61],by decide,by decide⟩
       ·exact⟨94,[],by decide,by decide⟩
       ·exact⟨126,[],by decide,by decide⟩
      obtain⟨y,w,e1,e2⟩:=hh;unfold iD at h3';rw[hop,e1]at h3';simp only[List.cons_append,List.cons.injEq]at h3';exact e2 h3'.1
     obtain⟨_,c,r,e1,e2⟩:=tD hb (by rw[hop];exact h7) h3';rw[hs]at e1;simp only[List.cons.injEq]at e1;rw[←e1.1]at e2;exact hx (mJ e2).1
   rw[if_neg hok];unfold gQ;rw[hr,if_neg (by simp),hcn]
 |none=>
  have hrw:bZ s=(9,s):=by simp only[bZ,ho]
  have h94:∀t,s≠94::t:=by
   rintro t rfl;rw[ur]at ho;cases ho
  have hop:(cN s).op=9:=by show(bZ s).1=9;rw[hrw]
  have hst7:jW (94::s):=by
   intro h;rw[hcar]at h;simp only at h;omega
  by_cases hl:0<s.length∧at8 s (s.length-1)=42
  ·have hsp:iZ s=bZ s:=by rw[hrw];simp only[iZ,ho,if_pos hl]
   have hcn:dI (94::s)=none:=gE fun h=>by
    obtain⟨_,h2,h3,h4⟩:=h;have he:=(nA (c:=cN (94::s)) (by rw[h4];simp)).2;rw[h4]at he;have hno:=(tD h3 (by rw[hK7];rfl) he.symm).1;have hmem:s[s.length-1]'(by omega)∈s:=List.getElem_mem _;refine hno _ hmem (UInt8.toNat_inj.1 ?_);have:=hl.2;rw[pB s _ (by omega)]at this;show _=42;omega
   rw[Jv hsp];by_cases hk:fI (cF s)=true∧cV (cN s)=s
   ·have hne:cV (cN s)≠[]:=by
     rw[hk.2];intro h;rw[h]at hl;simp at hl
    obtain⟨hb,he⟩:=nA hne;obtain⟨_,g2,g3⟩:=wN (s:=s) hb hop (he.symm.trans hk.2);have hstar:jW s:=by
     intro _;have hP:cS s=(s,[]):=by unfold cS;rw[hrw];exact g2
     rw[hP];simp only;rw[g3];simp
    have hr:dI s=some (cN s):=by rw[uG,if_pos ⟨hstar,hk.1,hb,hk.2⟩]
    have hok:FK s (bZ s).1 (cF s) (cS s).2=true:=sZ.2 ⟨hk.1,hne,.inl hk.2⟩;rw[if_pos hok];unfold gQ;rw[hr];rfl
   ·have hr:dI s=none:=gE fun h=>hk ⟨h.2.1,h.2.2.2⟩
    have hok:¬FK s (bZ s).1 (cF s) (cS s).2=true:=fun h=>by
     obtain⟨h1,h2,h3⟩:=sZ.1 h;rcases h3 with h3|h3
     ·exact hk ⟨h1,h3⟩
     ·obtain⟨hb,he⟩:=nA h2;have h3':iD (cN s)=94::s:=by rw[←he];exact h3
      have ht:=wO hb hop;rw[h3']at ht;have hm:(94:UInt8)∈aG [46] (iM (cN s)++[[42]]):=by rw[←ht];simp
      rcases jv 46 _ _ hm with h|⟨w,hw,hcw⟩
      ·revert h;decide
      ·rcases nr hw hcw with h|h
       ·revert h;decide
       ·revert h;decide
    rw[if_neg hok];unfold gQ;rw[hr,if_neg (by simp),hcn]
  ·have hsp:iZ s=(7,s):=by simp only[iZ,ho,if_neg hl]
   have hr:dI s=none:=gE fun h=>by
    obtain⟨h1,h2,h3,h4⟩:=h;have he:iD (cN s)=s:=(if_pos h3:cV (cN s)=iD (cN s)).symm.trans h4;exact hl (wN h3 hop he).1
   have h6:e7 s=if FK s 7 (ai (fJ s 0).1 46) (fJ s 0).2=true then some (cN (94::s))else none:=by
    unfold e7;simp only[hsp];rw[hK7];rfl
   have hRC:gQ s=dI (94::s):=by
    unfold gQ;rw[hr];rfl
   rw[hRC,h6,uG];by_cases hok:FK s 7 (ai (fJ s 0).1 46) (fJ s 0).2=true
   ·rw[if_pos hok];obtain⟨h1,h2,h3⟩:=xO.1 hok;obtain⟨hb,he⟩:=nA h2;rcases h3 with h3|h3
    ·exfalso;rw[he]at h3;have hh:∃w,iD (oe 7 (ai (fJ s 0).1 46) (fJ s 0).2)=94::w:=by
      unfold iD;exact⟨_,rfl⟩
     obtain⟨w,hw⟩:=hh;exact h94 w (by rw[←h3,hw])
    ·rw[if_pos ⟨hst7,by rw[hL7];exact h1,by rw[hK7];exact hb,by rw[hK7];exact h3⟩]
   ·rw[if_neg hok,if_neg];rintro⟨_,g2,g3,g4⟩;rw[hK7]at g3 g4;rw[hL7]at g2;exact hok (xO.2 ⟨g2,by rw[g4];simp,.inr g4⟩)
abbrev Alt:=List b6
abbrev xi:=List Alt
def pA (a:Alt):D:=.sl 7 (a.map b6.D)
def Aq (a:Alt):(pA a).aM=true:=rfl
def sS (l k:Nat)(es:List D)(r:List Alt):kF l k es (r.map pA)=r.map pA:=tR l k es _ (bt Aq _)
def im (r:xi):D:=.agg [.sl 1 (r.map pA)]
def lR (a:Alt):Bool:=decide (1≤a.length)&&decide (a.length≤6)&&cd (fun k=>iQ a[k]!) 0 a.length
def kq (r:xi):Bool:=decide (1≤r.length)&&decide (r.length≤6)&&cd (fun i=>lR r[i]!) 0 r.length
def qq (a:Alt):ah:=aG [44,32] (a.map cV)
def DZ (r:xi):ah:=aG [32,124,124,32] (r.map qq)
def b6.lo (c:b6):Prop:=c.v.pre.length≤1000∧c.v.build.length≤1000
def b6.lo.sm {c:b6}(h:c.lo):c.v.sm:=⟨Nat.le_trans h.1 (by decide),Nat.le_trans h.2 (by decide)⟩
def nn (r:xi):Prop:=∀a∈r,∀c∈a,c.lo
def yG {c:b6}(h:c.lo):(cV c).length≤1100:=by
 unfold cV;split
 ·rename_i hb;obtain⟨hv,h0,h3,_⟩:=kL hb;have h1:=ri c.op;have h2:=nN hv c.parts.toNat;have ht:(gW c).length≤1001:=by
   unfold gW;have:=h.1;split
   ·split<;>simp
   ·split
    ·simp
    ·simp only[List.length_cons];omega
  simp only[iD,List.length_append];omega
 ·simp
def rM (b:ah)(M:Nat):∀(l:List ah),(∀t∈l,t.length≤M)→(aG b l).length≤l.length*(M+b.length)
 |[],_=>by simp[aG]
 |[t],h=>by
  have:=h t (.head _);simp only[aG,List.length_singleton,Nat.one_mul];omega
 |t::u::r,h=>by
  have h1:=h t (.head _);have h2:=rM b M (u::r) fun x hx=>h x (.tail _ hx)
  simp only[aG,List.length_append];simp only[List.length_cons,Nat.add_mul,Nat.one_mul]at h2⊢;omega
def EA {a:Alt}(h:∀c∈a,c.lo)(hl:a.length≤6):(qq a).length≤6612:=by
 have:=rM [44,32] 1100 (a.map cV) (fun t ht=>by
  obtain⟨c,hc,rfl⟩:=List.mem_map.1 ht;exact yG (h c hc))
 simp only[List.length_map]at this;have h2:a.length*(1100+([44,32]:ah).length)≤6*1102:=Nat.mul_le_mul hl (by decide);unfold qq;omega
def EZ {r:xi}(h:kq r=true){i:Nat}(hi:i<r.length):lR r[i]! =true:=by
 simp only[kq,Bool.and_eq_true,decide_eq_true_eq]at h;exact dh.1 h.2 i (by omega) hi
def CM {a:Alt}(h:lR a=true):1≤a.length∧a.length≤6:=by
 simp only[lR,Bool.and_eq_true,decide_eq_true_eq]at h;exact h.1
def iz {α β:Type} [Inhabited α](f:α→β)(l:List α){i:Nat}(h:i<l.length):(l.map f).take (i+1)=(l.map f).take i++[f l[i]!]:=by
 rw[List.take_add_one];simp[h]
def qT (r:xi):Bool:=kq r&&decide ((DZ r).length≤96)
def wC (r:xi):ah:=if qT r=true then DZ r else []
def aN:ah→ah→List ah
 |[],cur=>[cur]
 |[c],cur=>[cur++[c]]
 |c::d::r,cur=>if c=124∧d=124 then cur::aN r []else aN (d::r) (cur++[c])
def pD:ah→ah
 |[]=>[]
 |c::r=>if c=32 then pD r else c::r
def ep (s:ah):ah:=(pD (pD s).reverse).reverse
def kI:∀s,(pD s).length≤s.length
 |[]=>Nat.le_refl _
 |c::r=>by
  unfold pD;split
  ·have:=kI r;simp only[List.length_cons];omega
  ·exact Nat.le_refl _
def vH (s:ah):(ep s).length≤s.length:=by
 have h1:=kI s;have h2:=kI (pD s).reverse;simp only[List.length_reverse]at h2;simp only[ep,List.length_reverse];omega
def lO:∀(s cur:ah),(aN s cur).length≤s.length+1∧(∀t∈aN s cur,t.length≤cur.length+s.length)
 |[],cur=>by simp[aN]
 |[c],cur=>by simp[aN]
 |c::d::r,cur=>by
  unfold aN;split
  ·have:=lO r [];refine⟨by simp only[List.length_cons];omega,fun t ht=>?_⟩;rcases List.mem_cons.1 ht with rfl|ht
   ·simp
   ·have:=this.2 t ht;simp only[List.length_nil,List.length_cons]at this⊢;omega
  ·have:=lO (d::r) (cur++[c]);refine⟨by have:=this.1;simp only[List.length_cons]at this⊢;omega,fun t ht=>?_⟩;have:=this.2 t ht;simp only[List.length_append,List.length_cons,List.length_nil]at this⊢;omega
def wOK (t:ah):Bool:=cd (fun k=>(e7 (ep (ai t 44)[k]!)).isSome) 0 (ai t 44).length
def Cm (s:ah):Bool:=cd (fun i=>wOK (aN s [])[i]!) 0 (aN s []).length
def qt (t:ah):Alt:=(ai t 44).map fun x=>(e7 (ep x)).getD dx
def kC (s:ah):xi:=(aN s []).map qt
def iY (s:ah):xi×Int:=
 if 96<s.length then([],3)else if Cm s=false then([],6)else if kq (kC s)=false then([],6)else if 96<(DZ (kC s)).length then([],3)else(kC s,0)
def nO (s:ah):Bool:=decide ((iY s).2=0)&&decide (wC (iY s).1=s)
def EN {s:ah}(h:s.length≤1000):((e7 s).getD dx).lo:=by
 unfold e7;simp only;split
 ·have h1:=Bn s;have h2:=zu (iZ s).2;exact⟨by show(fJ (iZ s).2 0).2.length≤1000;omega,by show([]:ah).length≤1000;decide⟩
 ·exact⟨by show([]:ah).length≤1000;decide,by show([]:ah).length≤1000;decide⟩
def Cn {s:ah}(h:s.length≤1000):nn (kC s):=by
 intro a ha c hc;obtain⟨t,ht,rfl⟩:=List.mem_map.1 ha;obtain⟨x,hx,rfl⟩:=List.mem_map.1 hc;have h1:=(lO s []).2 t ht;have h2:=dr t 44 hx;have h3:=vH x;simp only[List.length_nil]at h1;exact EN (by omega)
def IM {s:ah}:nn (iY s).1∧((iY s).2=0→kq (iY s).1=true):=by
 unfold iY;split
 ·exact⟨(fun a ha=>by cases ha),fun h=>by cases h⟩
 ·split
  ·exact⟨(fun a ha=>by cases ha),fun h=>by cases h⟩
  ·split
   ·exact⟨(fun a ha=>by cases ha),fun h=>by cases h⟩
   ·rename_i hf;split
    ·exact⟨(fun a ha=>by cases ha),fun h=>by cases h⟩
    ·exact⟨Cn (by omega),fun _=>by simpa using hf⟩
def Nd.eq (a b:Nd):eL (Nd.D a).cells (Nd.D b).cells=decide (a=b):=by
 obtain⟨a1,a2,a3,a4,a5⟩:=a;obtain⟨b1,b2,b3,b4,b5⟩:=b;simp only[Nd.D,D.cells,eL,pO,sQ,Nd.mk.injEq,Bool.and_true];simp only[Bool.decide_and]
def gP (n:Nd):Bool:=decide (n.key=0)&&decide (n.text=[])
def ou (n:Nd):Bool:=decide (n.op=1)&&decide (0≤n.key)&&decide (n.key<3)&&bI n.text&&decide (n.a=0)&&decide (n.b=0)
def gV (n:Nd)(i:Nat)(o:List Int):Option (List Int):=
 if ou n=true then some (o++[(i:Int)])
 else if(((n.op=2∧gP n=true)∧0<o.length)∧n.a=o[o.length-1]!)∧n.b=0 then some (o.take (o.length-1)++[(i:Int)])
 else if((((n.op=3∨n.op=4)∧gP n=true)∧1<o.length)∧n.a=o[o.length-2]!)∧n.b=o[o.length-1]! then some (o.take (o.length-2)++[(i:Int)])
 else none
def kf:List Nd→Nat→List Int→Option (List Int)
 |[],_,o=>some o
 |n::r,i,o=>match gV n i o with
  |some o'=>kf r (i+1) o'
  |none=>none
def nt (l:List Nd):Bool:=match kf l 0 []with
 |some o=>decide (l.length=0) ||decide (o.length=1)
 |none=>false
def vQ {α:Type} [Inhabited α](l:List α){i:Nat}(h:i<l.length):l.drop i=l[i]! ::l.drop (i+1):=by
 rw[List.drop_eq_getElem_cons h];simp[h]
def jQ {l:List Nd}{i:Nat}{o o':List Int}(h:i<l.length)(hs:gV l[i]! i o=some o'):kf (l.drop i) i o=kf (l.drop (i+1)) (i+1) o':=by
 rw[vQ l h];simp only[kf,hs]
def eg {l:List Nd}{i:Nat}{o:List Int}(h:i<l.length)(hs:gV l[i]! i o=none):kf (l.drop i) i o=none:=by
 rw[vQ l h];simp only[kf,hs]
def DO {l:List Nd}{i:Nat}{o:List Int}(h:l.length≤i):kf (l.drop i) i o=some o:=by
 rw[List.drop_eq_nil_of_le h];rfl
def GL {l:List Nd}(h:kf l 0 []=none):nt l=false:=by simp only[nt,h]
def fU {l:List Nd}(h:kf l 0 []=none):(true&&nt l)=false:=by rw[GL h];rfl
def yk (S:List Int):Int→List Int→Prop
 |e,[]=>e=0
 |e,t::r=>t=e-1∧0≤t∧0≤S[t.toNat]! ∧S[t.toNat]! ≤t∧yk S S[t.toNat]! r
def xo {S:List Int}{i:Nat}{v:Int}:∀{r:List Int}{e:Int},e≤i→yk S e r→yk (S.set i v) e r
 |[],e,_,h=>h
 |t::r,e,he,⟨h1,h2,h3,h4,h5⟩=>by
  have hg:(S.set i v)[t.toNat]! =S[t.toNat]! :=by
   have:i≠t.toNat:=by omega
   simp[List.getElem?_set,this]
  exact⟨h1,h2,by rw[hg];exact h3,by rw[hg];exact h4,by rw[hg];exact xo (by omega) h5⟩
def IQ {S:List Int}{i:Nat}{v:Int}(h:i<S.length):(S.set i v)[i]! =v:=by
 simp[h]
def pH {S:List Int}{i:Nat}{v:Int}{r:List Int}(h:i<S.length)(h0:0≤v)(h1:v≤i)(hc:yk S v r):yk (S.set i v) ((i+1:Nat):Int) ((i:Int)::r):=by
 have hg:(S.set i v)[((i:Nat):Int).toNat]! =v:=by rw[Int.toNat_natCast];exact IQ h
 exact⟨by omega,by omega,by rw[hg];exact h0,by rw[hg];exact h1,by rw[hg];exact xo (by omega) hc⟩
def pI {S:List Int}{i:Nat}{o:List Int}(h:yk S (i:Nat) o.reverse):(0<o.length↔1≤i)∧(1≤i→o[o.length-1]! =(i:Int) -1∧0≤S[i-1]! ∧S[i-1]! ≤(i:Int) -1∧yk S S[i-1]! (o.take (o.length-1)).reverse):=by
 rcases List.eq_nil_or_concat o with rfl|⟨p,t,rfl⟩
 ·have h:((i:Nat):Int)=0:=h;exact⟨⟨fun h=>absurd h (by simp),fun h2=>by omega⟩,fun h2=>by omega⟩
 ·rw[List.concat_eq_append,List.reverse_append,List.reverse_singleton,List.singleton_append]at h;obtain⟨h1,h2,h3,h4,h5⟩:=h;have ht:t.toNat=i-1:=by omega
  rw[ht]at h3 h4 h5;rw[List.concat_eq_append];refine⟨⟨fun _=>by omega,fun _=>by simp⟩,fun _=>⟨by simp[h1],h3,by omega, ?_⟩⟩;rw[List.take_append_of_le_length (by simp),List.take_of_length_le (by simp)];exact h5
def xp {S:List Int}{i:Nat}{o:List Int}(h:yk S (i:Nat) o.reverse):(1<o.length↔1≤i∧1≤S[i-1]!)∧(1<o.length→o[o.length-2]! =S[i-1]! -1∧0≤S[(S[i-1]! -1).toNat]! ∧S[(S[i-1]! -1).toNat]! ≤S[i-1]! -1∧yk S S[(S[i-1]! -1).toNat]! (o.take (o.length-2)).reverse):=by
 obtain⟨h1,h2⟩:=pI h;by_cases hi:1≤i
 ·obtain⟨g1,g2,g3,g4⟩:=h2 hi;have hl:=h1.2 hi;rcases List.eq_nil_or_concat o with rfl|⟨p,t,rfl⟩
  ·simp at hl
  ·rw[List.concat_eq_append]at g4⊢;rw[List.take_append_of_le_length (by simp),List.take_of_length_le (by simp)]at g4;rcases List.eq_nil_or_concat p with rfl|⟨q,u,rfl⟩
   ·have g4:S[i-1]! =0:=g4;exact⟨⟨fun h=>absurd h (by simp),fun h=>by omega⟩,fun h=>absurd h (by simp)⟩
   ·rw[List.concat_eq_append]at g4⊢;rw[List.reverse_append,List.reverse_singleton,List.singleton_append]at g4;obtain⟨k1,k2,k3,k4,k5⟩:=g4;subst k1;refine⟨⟨fun _=>⟨hi,by omega⟩,fun _=>by simp⟩,fun _=>⟨by simp,k3,k4, ?_⟩⟩;rw[List.append_assoc,List.take_append_of_le_length (by simp),List.take_of_length_le (by simp)];exact k5
 ·have:¬0<o.length:=fun h=>hi (h1.1 h)
  exact⟨⟨fun h=>by omega,fun h=>absurd h.1 hi⟩,fun h=>by omega⟩
def GM {S:List Int}{n:Nat}{o:List Int}(t1:0<o.length↔1≤n)(t2:1≤n→o[o.length-1]! =(n:Int) -1∧0≤S[n-1]! ∧S[n-1]! ≤(n:Int) -1∧yk S S[n-1]! (o.take (o.length-1)).reverse)(u1:1<o.length↔1≤n∧1≤S[n-1]!):
  (decide (n=0) ||decide (o.length=1))=(decide ((n:Nat)=(0:Int)) ||decide (S[n-1]! =0)):=by
 rw[Bool.eq_iff_iff];simp only[Bool.or_eq_true,decide_eq_true_eq];constructor
 ·rintro(h|h)
  ·left;omega
  ·by_cases hn:1≤n
   ·have:=t2 hn;right;omega
   ·left;omega
 ·rintro(h|h)
  ·left;omega
  ·by_cases hn:1≤n
   ·right;omega
   ·left;omega
def ud {n:Nd}(h:ou n=true):n.op=1:=by simp only[ou,Bool.and_eq_true,decide_eq_true_eq]at h;exact h.1.1.1.1.1
def Br {n:Nd}{i:Nat}{o:List Int}(h:ou n=true):gV n i o=some (o++[(i:Int)]):=if_pos h
def ya {n:Nd}{i:Nat}{o:List Int}(h1:n.op=1)(h:ou n=false):gV n i o=none:=by
 unfold gV;rw[if_neg (by simp[h]),if_neg (by rintro⟨⟨⟨⟨h,_⟩,_⟩,_⟩,_⟩;omega),if_neg (by rintro⟨⟨⟨⟨h|h,_⟩,_⟩,_⟩,_⟩<;>omega)]
def zT {n:Nd}{i:Nat}{o:List Int}(h1:n.op≠1)(h2:n.op≠2)(h3:n.op≠3)(h4:n.op≠4):gV n i o=none:=by
 unfold gV;rw[if_neg (fun h=>h1 (ud h)),if_neg (by rintro⟨⟨⟨⟨h,_⟩,_⟩,_⟩,_⟩;exact h2 h),if_neg (by rintro⟨⟨⟨⟨h|h,_⟩,_⟩,_⟩,_⟩;exact h3 h;exact h4 h)]
def rp {S:List Int}{n:Nd}{i:Nat}{o:List Int}(hc:yk S (i:Nat) o.reverse)(h2:n.op=2):gV n i o=if(1≤i∧n.a=(i:Int) -1∧n.b=0)∧gP n=true then some (o.take (o.length-1)++[(i:Int)])else none:=by
 obtain⟨t1,t2⟩:=pI hc;unfold gV;rw[if_neg (fun h=>by have:=ud h;omega)];by_cases hk:(1≤i∧n.a=(i:Int) -1∧n.b=0)∧gP n=true
 ·rw[if_pos hk,if_pos ⟨⟨⟨⟨h2,hk.2⟩,t1.2 hk.1.1⟩,by rw[(t2 hk.1.1).1];exact hk.1.2.1⟩,hk.1.2.2⟩]
 ·rw[if_neg hk,if_neg,if_neg (by rintro⟨⟨⟨⟨h|h,_⟩,_⟩,_⟩,_⟩<;>omega)];rintro⟨⟨⟨⟨_,g1⟩,g2⟩,g3⟩,g4⟩;have hi:=t1.1 g2;exact hk ⟨⟨hi,by rw[g3];exact(t2 hi).1,g4⟩,g1⟩
def jC {S:List Int}{n:Nd}{i:Nat}{o:List Int}(hc:yk S (i:Nat) o.reverse)(h2:n.op=3∨n.op=4):gV n i o=if(2≤i∧n.b=(i:Int) -1∧1≤S[i-1]! ∧n.a=S[i-1]! -1)∧gP n=true then some (o.take (o.length-2)++[(i:Int)])else none:=by
 obtain⟨t1,t2⟩:=pI hc;obtain⟨u1,u2⟩:=xp hc;unfold gV;rw[if_neg (fun h=>by have:=ud h;omega),if_neg (by rintro⟨⟨⟨⟨h,_⟩,_⟩,_⟩,_⟩;omega)];by_cases hk:(2≤i∧n.b=(i:Int) -1∧1≤S[i-1]! ∧n.a=S[i-1]! -1)∧gP n=true
 ·have hl:=u1.2 ⟨by omega,hk.1.2.2.1⟩;rw[if_pos hk,if_pos ⟨⟨⟨⟨h2,hk.2⟩,hl⟩,by rw[(u2 hl).1];exact hk.1.2.2.2⟩,by rw[(t2 (by omega)).1];exact hk.1.2.1⟩]
 ·rw[if_neg hk,if_neg];rintro⟨⟨⟨⟨_,g1⟩,g2⟩,g3⟩,g4⟩;obtain⟨hi,hS⟩:=u1.1 g2;obtain⟨w1,w2,w3,_⟩:=t2 hi;exact hk ⟨⟨by omega,by rw[g4];exact w1,hS,by rw[g3];exact(u2 g2).1⟩,g1⟩
def fG (l:List Nd):Prop:=∀j,j<l.length→(l[j]!.op=1→0≤l[j]!.key∧l[j]!.key<3∧l[j]!.text.length≤12)∧(l[j]!.op≠1→0≤l[j]!.a∧l[j]!.a<j)∧(l[j]!.op≠1→l[j]!.op≠2→0≤l[j]!.b∧l[j]!.b<j)
def Ba {l:List Nd}:∀(k i:Nat)(o o':List Int),i+k=l.length→(∀x∈o,0≤x∧x<(i:Int))→kf (l.drop i) i o=some o'→
  ∀j,i≤j→j<l.length→(l[j]!.op=1→0≤l[j]!.key∧l[j]!.key<3∧l[j]!.text.length≤12)∧(l[j]!.op≠1→0≤l[j]!.a∧l[j]!.a<j)∧(l[j]!.op≠1→l[j]!.op≠2→0≤l[j]!.b∧l[j]!.b<j):=by
 intro k;induction k with
 |zero=>intro i o o' h1 h2 h3 j h4 h5;omega
 |succ k ih=>
  intro i o o' h1 h2 h3 j h4 h5;have hi:i<l.length:=by omega
  cases hs:gV l[i]! i o with
  |none=>rw[eg hi hs]at h3;cases h3
  |some o2=>
   rw[jQ hi hs]at h3;have hm:∀m,0<m→m≤o.length→0≤o[o.length-m]! ∧o[o.length-m]! <(i:Int):=fun m hm1 hm2=>h2 _ (bL (by omega))
   have hsub:∀m,∀x∈o.take m++[(i:Int)],0≤x∧x<((i+1:Nat):Int):=fun m x hx=>by
    rcases List.mem_append.1 hx with hx|hx
    ·have:=h2 x (List.mem_of_mem_take hx);omega
    ·simp only[List.mem_singleton]at hx;omega
   unfold gV at hs;split at hs
   ·rename_i hl;cases hs;rcases Nat.lt_or_ge i j with hj|hj
    ·exact ih (i+1) _ o' (by omega) (by have:=hsub o.length;rwa [List.take_of_length_le (Nat.le_refl _)]at this) h3 j hj h5
    ·obtain rfl:i=j:=by omega
     simp only[ou,Bool.and_eq_true,decide_eq_true_eq]at hl;have hw:=hl.1.1.2;simp only[bI,Bool.and_eq_true,decide_eq_true_eq]at hw;exact⟨fun _=>⟨hl.1.1.1.1.2,hl.1.1.1.2,hw.1.2⟩,fun h=>absurd hl.1.1.1.1.1 h,fun h=>absurd hl.1.1.1.1.1 h⟩
   ·split at hs
    ·rename_i hl;cases hs;rcases Nat.lt_or_ge i j with hj|hj
     ·exact ih (i+1) _ o' (by omega) (hsub _) h3 j hj h5
     ·obtain rfl:i=j:=by omega
      obtain⟨⟨⟨⟨g1,g2⟩,g3⟩,g4⟩,g5⟩:=hl;have:=hm 1 (by omega) (by omega);exact⟨fun h=>by omega,fun _=>by rw[g4];exact this,fun _ h=>absurd g1 h⟩
    ·split at hs
     ·rename_i hl;cases hs;rcases Nat.lt_or_ge i j with hj|hj
      ·exact ih (i+1) _ o' (by omega) (hsub _) h3 j hj h5
      ·obtain rfl:i=j:=by omega
       obtain⟨⟨⟨⟨g1,g2⟩,g3⟩,g4⟩,g5⟩:=hl;have q1:=hm 1 (by omega) (by omega);have q2:=hm 2 (by omega) (by omega);exact⟨fun h=>by omega,fun _=>by rw[g4];exact q2,fun _ _=>by rw[g5];exact q1⟩
     ·cases hs
def uR {l:List Nd}(h:nt l=true):fG l:=by
 unfold nt at h;cases ho:kf l 0 []with
 |none=>rw[ho]at h;cases h
 |some o=>exact fun j hj=>Ba l.length 0 [] o (by omega) (by simp) ho j (Nat.zero_le _) hj
def B2 {n:Nd}(h:n.op=1):ou n=!((((decide (n.key<0) ||decide (3≤n.key)) ||!bI n.text) ||!decide (n.a=0)) ||!decide (n.b=0)):=by
 simp only[ou,h,decide_true,Bool.true_and];rw[show decide (n.key<0)=!decide (0≤n.key)from by rw[←decide_not];exact decide_eq_decide.2 (by omega),show decide (3≤n.key)=!decide (n.key<3)from by rw[←decide_not];exact decide_eq_decide.2 (by omega)];generalize decide (0≤n.key)=a;generalize decide (n.key<3)=b;generalize bI n.text=c;generalize decide (n.a=0)=d;generalize decide (n.b=0)=e;cases a<;>cases b<;>cases c<;>cases d<;>cases e<;>rfl
def te {S:List Int}{i:Nat}(h:i<S.length)(v:Int):(S.map (D.int .i64)).set (0+i) (uO ((S.map (D.int .i64)).getD (0+i) .any) 1 1 0 (.int .i64 v))=(S.set i v).map (D.int .i64):=by
 rw[Nat.zero_add,getD_map (q:=D.int .i64) h,List.map_set];rfl
abbrev Jc:=List Nd
def j3 (m:Jc):D:=.agg [.sl 5 (m.map Nd.D)]
def lW:List ah:=[[111,115],[97,114,99,104],[97,98,105]]
def xF (k:Int):ah:=if k=0 then [111,115]else if k=1 then [97,114,99,104]else [97,98,105]
def jY (s:ah)(b:Bool):ah:=if b=true then [40,32]++s++[32,41]else s
def nu (l:List Nd):Nat→Int→ah
 |0,_=>[]
 |f+1,i=>
  if l[i.toNat]!.op=1 then xF l[i.toNat]!.key++[32,61,32]++l[i.toNat]!.text
  else if l[i.toNat]!.op=2 then
   if l[l[i.toNat]!.a.toNat]!.op=1 then xF l[l[i.toNat]!.a.toNat]!.key++[32,33,61,32]++l[l[i.toNat]!.a.toNat]!.text
   else [110,111,116,32]++jY (nu l f l[i.toNat]!.a) (!decide (l[l[i.toNat]!.a.toNat]!.op=2))
  else if l[i.toNat]!.op=3 then jY (nu l f l[i.toNat]!.a) (decide (l[l[i.toNat]!.a.toNat]!.op=4))++[32,97,110,100,32]++jY (nu l f l[i.toNat]!.b) (decide (l[l[i.toNat]!.b.toNat]!.op=4) ||decide (l[l[i.toNat]!.b.toNat]!.op=3))
  else nu l f l[i.toNat]!.a++[32,111,114,32]++jY (nu l f l[i.toNat]!.b) (decide (l[l[i.toNat]!.b.toNat]!.op=4))
def kD (l:List Nd)(i:Int):ah:=nu l (i.toNat+1) i
def tj {l:List Nd}(hk:fG l):∀(f g:Nat)(i:Int),0≤i→i<l.length→i<f→i<g→nu l f i=nu l g i
 |0,_,_,_,_,h,_=>by omega
 |_,0,_,_,_,_,h=>by omega
 |f+1,g+1,i,h0,h1,h2,h3=>by
  obtain⟨k1,k2,k3⟩:=hk i.toNat (by omega);simp only[nu];by_cases e1:l[i.toNat]!.op=1
  ·rw[if_pos e1,if_pos e1]
  ·rw[if_neg e1,if_neg e1];have ka:=k2 e1;rw[tj hk f g l[i.toNat]!.a (by omega) (by omega) (by omega) (by omega)];by_cases e2:l[i.toNat]!.op=2
   ·rw[if_pos e2,if_pos e2]
   ·have kb:=k3 e1 e2;rw[tj hk f g l[i.toNat]!.b (by omega) (by omega) (by omega) (by omega)]
def IY {l:List Nd}(hk:fG l){i:Int}(h0:0≤i)(h1:i<l.length):kD l i=
  if l[i.toNat]!.op=1 then xF l[i.toNat]!.key++[32,61,32]++l[i.toNat]!.text
  else if l[i.toNat]!.op=2 then
   if l[l[i.toNat]!.a.toNat]!.op=1 then xF l[l[i.toNat]!.a.toNat]!.key++[32,33,61,32]++l[l[i.toNat]!.a.toNat]!.text
   else [110,111,116,32]++jY (kD l l[i.toNat]!.a) (!decide (l[l[i.toNat]!.a.toNat]!.op=2))
  else if l[i.toNat]!.op=3 then jY (kD l l[i.toNat]!.a) (decide (l[l[i.toNat]!.a.toNat]!.op=4))++[32,97,110,100,32]++jY (kD l l[i.toNat]!.b) (decide (l[l[i.toNat]!.b.toNat]!.op=4) ||decide (l[l[i.toNat]!.b.toNat]!.op=3))
  else kD l l[i.toNat]!.a++[32,111,114,32]++jY (kD l l[i.toNat]!.b) (decide (l[l[i.toNat]!.b.toNat]!.op=4)):=by
 obtain⟨k1,k2,k3⟩:=hk i.toNat (by omega)
 conv=>lhs;unfold kD
 simp only[nu];by_cases e1:l[i.toNat]!.op=1
 ·rw[if_pos e1,if_pos e1]
 ·rw[if_neg e1,if_neg e1];have ka:=k2 e1;rw[show nu l i.toNat l[i.toNat]!.a=kD l l[i.toNat]!.a from tj hk _ _ _ (by omega) (by omega) (by omega) (by omega)];by_cases e2:l[i.toNat]!.op=2
  ·rw[if_pos e2,if_pos e2]
  ·have kb:=k3 e1 e2;rw[show nu l i.toNat l[i.toNat]!.b=kD l l[i.toNat]!.b from tj hk _ _ _ (by omega) (by omega) (by omega) (by omega)]
def nU (s:ah)(b:Bool):(jY s b).length≤s.length+4:=by
 unfold jY;split<;>simp
def wc {k:Int}(h0:0≤k)(h3:k<3):lW[k.toNat]! =xF k:=by
 obtain rfl|rfl|rfl:k=0∨k=1∨k=2:=by omega
 ·rfl
 ·rfl
 ·rfl
def pY (k:Int):(xF k).length≤4:=by
 unfold xF;split
 ·decide
 ·split<;>decide
def uS {l:List Nd}(hk:fG l):∀(f:Nat)(i:Int),0≤i→i<l.length→(nu l f i).length+20≤20*2^(f+1)
 |0,i,_,_=>by simp[nu]
 |f+1,i,h0,h1=>by
  obtain⟨k1,k2,k3⟩:=hk i.toNat (by omega);have hp:20*2^(f+1+1)=20*2^(f+1)+20*2^(f+1):=by rw[Nat.pow_succ 2 (f+1)];omega
  have h1p:1≤2^(f+1):=Nat.one_le_two_pow;simp only[nu];by_cases e1:l[i.toNat]!.op=1
  ·rw[if_pos e1];have:=pY l[i.toNat]!.key;have:=k1 e1;simp only[List.length_append,List.length_cons,List.length_nil];omega
  ·rw[if_neg e1];have ka:=k2 e1;have la:=uS hk f l[i.toNat]!.a (by omega) (by omega);have wa:=fun b=>nU (nu l f l[i.toNat]!.a) b
   by_cases e2:l[i.toNat]!.op=2
   ·rw[if_pos e2];split
    ·rename_i e3;have:=pY l[l[i.toNat]!.a.toNat]!.key;have:=((hk l[i.toNat]!.a.toNat (by omega)).1 e3).2.2;simp only[List.length_append,List.length_cons,List.length_nil];omega
    ·have:=wa (!decide (l[l[i.toNat]!.a.toNat]!.op=2));simp only[List.length_append,List.length_cons,List.length_nil];omega
   ·rw[if_neg e2];have kb:=k3 e1 e2;have lb:=uS hk f l[i.toNat]!.b (by omega) (by omega);have wb:=fun b=>nU (nu l f l[i.toNat]!.b) b
    split
    ·have:=wa (decide (l[l[i.toNat]!.a.toNat]!.op=4));have:=wb (decide (l[l[i.toNat]!.b.toNat]!.op=4) ||decide (l[l[i.toNat]!.b.toNat]!.op=3));simp only[List.length_append,List.length_cons,List.length_nil];omega
    ·have:=wb (decide (l[l[i.toNat]!.b.toNat]!.op=4));simp only[List.length_append,List.length_cons,List.length_nil];omega
def uT {l:List Nd}(hk:fG l)(hl:l.length≤15){i:Int}(h0:0≤i)(h1:i<l.length):(kD l i).length≤1310720:=by
 have h:=uS hk (i.toNat+1) i h0 h1;have:2^(i.toNat+1+1)≤2^16:=Nat.pow_le_pow_right (by omega) (by omega);unfold kD;omega
def px (l:List Nd):ah:=if l.length=0 then []else kD l ((l.length:Int) -1)
def vu (l:List Nd):Bool:=(decide (l.length≤15)&&nt l)&&decide ((px l).length≤96)
def LO (l:List Nd):ah:=if vu l=true then px l else []
abbrev PR:=Option (Int×List ah×List Nd)
def xE (k:ah):Int:=if k=[111,115]then 0 else if k=[97,114,99,104]then 1 else if k=[97,98,105]then 2 else-1
def At (k s v:ah):Bool:=(decide (0≤xE k)&&bI v)&&(decide (s=[61]) ||decide (s=[33,61]))
def yy (k s v:ah)(r:List ah)(nd:List Nd):Int×List ah×List Nd:=
 if s=[33,61]then(((nd++[(⟨1,0,0,xE k,v⟩:Nd)]).length:Nat),r,(nd++[⟨1,0,0,xE k,v⟩])++[⟨2,(nd.length:Nat),0,0,[]⟩])
 else((nd.length:Nat),r,nd++[⟨1,0,0,xE k,v⟩])
def rz (k:ah)(w:List ah)(nd:List Nd):PR:=match w with
 |s::v::r=>if At k s v=true then some (yy k s v r nd)else none
 |_=>none
def gU (part:List ah→List Nd→PR)(wd:ah)(op:Int):Nat→Int→List ah→List Nd→PR
 |0,a,w,nd=>some (a,w,nd)
 |f+1,a,w,nd=>match w with
  |[]=>some (a,w,nd)
  |x::r=>if x=wd then(match part r nd with
    |none=>none
    |some (b,w',nd')=>gU part wd op f (nd'.length:Nat) w' (nd'++[⟨op,a,b,0,[]⟩]))
   else some (a,w,nd)
def ff (part:List ah→List Nd→PR)(wd:ah)(op:Int)(w:List ah)(nd:List Nd):PR:=match part w nd with
 |none=>none
 |some (a,w',nd')=>gU part wd op w'.length a w' nd'
def wS:ah:=[110,111,116]
def lP:ah:=[40]
def tk:ah:=[41]
def r5:ah:=[97,110,100]
def Aa:ah:=[111,114]
def oG (r:PR):PR:=match r with
 |some (a,x::w',nd')=>if x=tk then some (a,w',nd')else none
 |_=>none
def KS (r:PR):PR:=match r with
 |some (a,w',nd')=>some ((nd'.length:Nat),w',nd'++[⟨2,a,0,0,[]⟩])
 |none=>none
def nZ:Nat→List ah→List Nd→PR
 |0,_,_=>none
 |f+1,w,nd=>match w with
  |[]=>none
  |k::r=>if k=wS then KS (nZ f r nd)
   else if k=lP then oG (ff (ff (nZ f) r5 3) Aa 4 r nd)
   else rz k r nd
def PB (w:List ah)(nd:List Nd)(w':List ah)(nd':List Nd):Prop:=w'.length≤w.length∧nd'.length+2*w'.length≤nd.length+2*w.length∧w'<:+w
def sb (part:List ah→List Nd→PR):Prop:=∀w nd a w' nd',part w nd=some (a,w',nd')→PB w nd w' nd'∧w'.length<w.length
def PB.refl (w:List ah)(nd:List Nd):PB w nd w nd:=⟨Nat.le_refl _,Nat.le_refl _,List.suffix_refl _⟩
def PB.trans {w nd w' nd' w2 nd2}(h:PB w nd w' nd')(h2:PB w' nd' w2 nd2):PB w nd w2 nd2:=⟨Nat.le_trans h2.1 h.1,Nat.le_trans h2.2.1 h.2.1,h2.2.2.trans h.2.2⟩
def PB.tail {x:ah}{w:List ah}{nd:List Nd}{w':List ah}{nd':List Nd}(h:PB w nd w' nd')(n:Nd):PB (x::w) nd w' (nd'++[n]):=by
 obtain⟨h1,h2,h3⟩:=h;refine⟨by simp only[List.length_cons];omega,by simp only[List.length_append,List.length_cons,List.length_nil];omega,h3.trans (List.suffix_cons x w)⟩
def PB.zV {x:ah}{w:List ah}{nd:List Nd}{w':List ah}{nd':List Nd}(h:PB w nd w' nd'):PB (x::w) nd w' nd':=by
 obtain⟨h1,h2,h3⟩:=h;exact⟨by simp only[List.length_cons];omega,by simp only[List.length_cons];omega,h3.trans (List.suffix_cons x w)⟩
def ue {part:List ah→List Nd→PR}(hp:sb part)(wd:ah)(op:Int):∀(f:Nat)(a:Int)(w:List ah)(nd:List Nd)(a':Int)(w':List ah)(nd':List Nd),gU part wd op f a w nd=some (a',w',nd')→PB w nd w' nd'
 |0,a,w,nd,a',w',nd',h=>by simp only[gU,Option.some.injEq,Prod.mk.injEq]at h;obtain⟨rfl,rfl,rfl⟩:=h;exact .refl _ _
 |f+1,a,[],nd,a',w',nd',h=>by simp only[gU,Option.some.injEq,Prod.mk.injEq]at h;obtain⟨rfl,rfl,rfl⟩:=h;exact .refl _ _
 |f+1,a,x::r,nd,a',w',nd',h=>by
  simp only[gU]at h;by_cases hx:x=wd
  ·rw[if_pos hx]at h;cases hq:part r nd with
   |none=>rw[hq]at h;cases h
   |some t=>
    obtain⟨b,w2,nd2⟩:=t;rw[hq]at h;exact((hp _ _ _ _ _ hq).1.tail _).trans (ue hp wd op f _ _ _ _ _ _ h)
  ·rw[if_neg hx]at h;simp only[Option.some.injEq,Prod.mk.injEq]at h;obtain⟨rfl,rfl,rfl⟩:=h;exact .refl _ _
def iC {part:List ah→List Nd→PR}(hp:sb part)(wd:ah)(op:Int):sb (ff part wd op):=by
 intro w nd a w' nd' h;unfold ff at h;cases hq:part w nd with
 |none=>rw[hq]at h;cases h
 |some t=>
  obtain⟨b,w2,nd2⟩:=t;rw[hq]at h;obtain⟨h1,h2⟩:=hp _ _ _ _ _ hq;have:=ue hp wd op _ _ _ _ _ _ _ h;exact⟨h1.trans this,Nat.lt_of_le_of_lt this.1 h2⟩
def oy {k:ah}{w:List ah}{nd:List Nd}{a:Int}{w':List ah}{nd':List Nd}(h:rz k w nd=some (a,w',nd')):PB w nd w' nd':=by
 match w,h with
 |s::v::r,h=>
  simp only[rz]at h;split at h
  ·simp only[Option.some.injEq]at h;unfold yy at h;have hs:r<:+s::v::r:=(List.suffix_cons v r).trans (List.suffix_cons s _);split at h<;>(simp only[Prod.mk.injEq]at h;obtain⟨rfl,rfl,rfl⟩:=h;exact⟨by simp only[List.length_cons];omega,by simp only[List.length_append,List.length_cons,List.length_nil];omega,hs⟩)
  ·cases h
 |[_],h=>cases h
 |[],h=>cases h
def hH:∀f,sb (nZ f)
 |0=>fun w nd a w' nd' h=>by cases h
 |f+1=>by
  intro w nd a w' nd' h
  match w,h with
  |[],h=>cases h
  |k::r,h=>
   simp only[nZ]at h;split at h
   ·cases hq:nZ f r nd with
    |none=>rw[hq]at h;cases h
    |some t=>
     obtain⟨b,w2,nd2⟩:=t;rw[hq]at h;simp only[KS,Option.some.injEq,Prod.mk.injEq]at h;obtain⟨rfl,rfl,rfl⟩:=h;obtain⟨h1,h2⟩:=hH f _ _ _ _ _ hq;exact⟨h1.tail _,by simp only[List.length_cons];omega⟩
   ·split at h
    ·cases hq:ff (ff (nZ f) r5 3) Aa 4 r nd with
     |none=>rw[hq]at h;cases h
     |some t=>
      obtain⟨b,w2,nd2⟩:=t;rw[hq]at h;obtain⟨h1,h2⟩:=iC (iC (hH f) _ _) _ _ _ _ _ _ _ hq
      match w2,h,h1,h2 with
      |[],h,_,_=>cases h
      |x::w3,h,h1,h2=>
       simp only[oG]at h;split at h
       ·simp only[Option.some.injEq,Prod.mk.injEq]at h;obtain⟨rfl,rfl,rfl⟩:=h;exact⟨(h1.trans (PB.refl _ _).zV).zV,by simp only[List.length_cons]at h2⊢;omega⟩
       ·cases h
    ·exact⟨(oy h).zV,by have:=(oy h).1;simp only[List.length_cons];omega⟩
def zh {p p':List ah→List Nd→PR}(hp:sb p)(wd:ah)(op:Int){u:Nat}(h:∀w nd,w.length<u→p w nd=p' w nd):∀(f:Nat)(a:Int)(w:List ah)(nd:List Nd),w.length≤u→gU p wd op f a w nd=gU p' wd op f a w nd
 |0,a,w,nd,hu=>rfl
 |f+1,a,[],nd,hu=>rfl
 |f+1,a,x::r,nd,hu=>by
  simp only[List.length_cons]at hu;simp only[gU];split
  ·rw[←h r nd (by omega)];cases hq:p r nd with
   |none=>rfl
   |some t=>
    obtain⟨b,w2,nd2⟩:=t;have:=hp _ _ _ _ _ hq;exact zh hp wd op h f _ _ _ (by omega)
  ·rfl
def nw {p p':List ah→List Nd→PR}(hp:sb p)(wd:ah)(op:Int){u:Nat}(h:∀w nd,w.length<u→p w nd=p' w nd):∀w nd,w.length<u→ff p wd op w nd=ff p' wd op w nd:=by
 intro w nd hu;unfold ff;rw[←h w nd hu];cases hq:p w nd with
 |none=>rfl
 |some t=>
  obtain⟨b,w2,nd2⟩:=t;have:=hp _ _ _ _ _ hq;exact zh hp wd op h _ _ _ _ (by omega)
def BP:∀(u f g:Nat)(w:List ah)(nd:List Nd),w.length<u→w.length≤f→w.length≤g→nZ f w nd=nZ g w nd
 |0,_,_,_,_,h,_,_=>absurd h (Nat.not_lt_zero _)
 |u+1,f,g,[],nd,hu,hf,hg=>by cases f<;>cases g<;>rfl
 |u+1,0,_,_::_,_,_,h,_=>by simp at h
 |u+1,_,0,_::_,_,_,_,h=>by simp at h
 |u+1,f+1,g+1,k::r,nd,hu,hf,hg=>by
  simp only[List.length_cons]at hu hf hg;have ih:∀w nd,w.length<r.length+1→nZ f w nd=nZ g w nd:=fun w nd h=>BP u f g w nd (by omega) (by omega) (by omega)
  simp only[nZ];rw[ih r nd (by omega),nw (iC (hH f) _ _) Aa 4 (nw (hH f) r5 3 ih) r nd (by omega)]
def lB (w:List ah)(nd:List Nd):PR:=nZ w.length w nd
def pF:List ah→List Nd→PR:=ff lB r5 3
def jH:List ah→List Nd→PR:=ff pF Aa 4
def vR:sb lB:=fun w nd a w' nd' h=>hH _ w nd a w' nd' h
def AA:sb pF:=iC vR _ _
def xu (k:ah)(r:List ah)(nd:List Nd):lB (k::r) nd=if k=wS then KS (lB r nd)else if k=lP then oG (jH r nd)else rz k r nd:=by
 show nZ (r.length+1) (k::r) nd=_;simp only[nZ];have ih:∀w nd,w.length<r.length+1→nZ r.length w nd=lB w nd:=fun w nd h=>BP (r.length+1) _ _ w nd h (by omega) (Nat.le_refl _)
 rw[show nZ r.length r nd=lB r nd from rfl,nw (iC (hH _) _ _) Aa 4 (nw (hH _) r5 3 ih) r nd (by omega)];rfl
def wh {part:List ah→List Nd→PR}{wd:ah}{op:Int}{f:Nat}{a:Int}{nd:List Nd}:gU part wd op f a [] nd=some (a,[],nd):=by cases f<;>rfl
def Fw {part:List ah→List Nd→PR}{wd:ah}{op:Int}{f:Nat}{a:Int}{w:List ah}{nd:List Nd}(h:w.head? ≠some wd):gU part wd op f a w nd=some (a,w,nd):=by
 cases f with
 |zero=>rfl
 |succ f=>match w,h with
  |[],_=>rfl
  |x::r,h=>simp only[gU];rw[if_neg (by rintro rfl;exact h rfl)]
def uf {part:List ah→List Nd→PR}(hp:sb part){wd:ah}{op:Int}:∀(f g:Nat)(a:Int)(w:List ah)(nd:List Nd),w.length≤f→w.length≤g→gU part wd op f a w nd=gU part wd op g a w nd
 |_,_,a,[],nd,_,_=>by rw[wh,wh]
 |0,_,_,_::_,_,h,_=>by simp at h
 |_,0,_,_::_,_,_,h=>by simp at h
 |f+1,g+1,a,x::r,nd,hf,hg=>by
  simp only[List.length_cons]at hf hg;simp only[gU];split
  ·cases hq:part r nd with
   |none=>rfl
   |some t=>
    obtain⟨b,w2,nd2⟩:=t;have:=hp _ _ _ _ _ hq;exact uf hp f g _ _ _ (by omega) (by omega)
  ·rfl
def B3 (part:List ah→List Nd→PR)(wd:ah)(op:Int)(a:Int)(w:List ah)(nd:List Nd):PR:=gU part wd op w.length a w nd
def Dv {part:List ah→List Nd→PR}(hp:sb part){wd:ah}{op:Int}{a:Int}{r:List ah}{nd:List Nd}:B3 part wd op a (wd::r) nd=match part r nd with
  |none=>none
  |some (b,w',nd')=>B3 part wd op (nd'.length:Nat) w' (nd'++[⟨op,a,b,0,[]⟩]):=by
 show gU part wd op (r.length+1) a (wd::r) nd=_;simp only[gU,if_true];cases hq:part r nd with
 |none=>rfl
 |some t=>
  obtain⟨b,w2,nd2⟩:=t;have:=hp _ _ _ _ _ hq;exact uf hp _ _ _ _ _ (by omega) (Nat.le_refl _)
structure PO where
 a:Int
 w:List ah
 nd:List Nd
 bad:Bool
def dR (R:PR)(w:List ah)(nd:List Nd)(o:PO):Prop:=(R=some (o.a,o.w,o.nd)∧o.bad=false∨R=none∧o.bad=true)∧PB w nd o.w o.nd
def A3 (s:ah):Option (List Nd):=match jH (ai s 32) []with
 |some (_,[],nd)=>if vu nd=true then some nd else none
 |_=>none
def lK (s:ah):List Nd×Int:=if 96<s.length then([],3)else if s=[]then([],0)else match A3 s with
 |some nd=>(nd,0)
 |none=>([],7)
def lJ (s:ah):Bool:=decide ((lK s).2=0)&&decide (LO (lK s).1=s)
abbrev Ao:=List ah→D→Bool→D
def eo:Ao:=fun w X b=>.agg [.sl 1 (w.map D.str),X,.bool b]
def qp (Γ:Ctx)(k:Nat)(ob:Ao)(n:Nat)(Wo:List D)(w:List ah)(nd:List Nd)(b:Bool)(P:PO→Prop)(V:PO→D):Prop:=
 ∀(nx lp ln:Nat) (m:List (Nat×aZ)) (K:D→St→Prop),look m lp=some (.buf k [ob w (.own ln 5 0 nd.length) b])→look m ln=some (.buf 5 (nd.map Nd.D))→lp<nx→ln<nx→
  (∀o,P o→K (V o) ⟨nx+1,(nx,.buf 5 (o.nd.map Nd.D))::bT (bO m ln) lp (.buf k [ob o.w (.own nx 5 0 o.nd.length) o.bad])⟩)→Γ.tr n (.ptr lp k 0 0::Wo) ⟨nx,m⟩ K
def Ny (Γ:Ctx)(k:Nat)(ob:Ao)(n:Nat)(Wo:List D)(w:List ah)(nd:List Nd)(b:Bool)(P:PO→Prop)(V:PO→D):Prop:=
 ∀(nx lp ln:Nat) (m:List (Nat×aZ)) (K:D→St→Prop),look m lp=some (.buf k [ob w (.own ln 5 0 nd.length) b])→look m ln=some (.buf 5 (nd.map Nd.D))→lp<nx→ln<nx→
  (∀o,P o→K (V o) ⟨nx,bT m lp (.buf k [ob o.w (.own ln 5 0 nd.length) o.bad])⟩)→Γ.tr n (.ptr lp k 0 0::Wo) ⟨nx,m⟩ K
def Ap (k:Nat)(ob:Ao)(P:PO→Prop)(V:PO→D):D→List (Nat×aZ)→Prop:=fun d m=>∃(o:PO)(j:Nat),2≤j∧P o∧d=V o∧look m 0=some (.buf k [ob o.w (.own j 5 0 o.nd.length) o.bad])∧look m j=some (.buf 5 (o.nd.map Nd.D))
def Jd (k:Nat)(ob:Ao)(nd:List Nd)(P:PO→Prop)(V:PO→D):D→List (Nat×aZ)→Prop:=fun d m=>∃(o:PO),P o∧d=V o∧look m 0=some (.buf k [ob o.w (.own 1 5 0 nd.length) o.bad])∧look m 1=some (.buf 5 (nd.map Nd.D))
def Va:PO→D:=fun o=>.int .i64 o.a
def KM {m:List (Nat×aZ)}(x:Nd):G4 m [.a,.a,.a,.a,.a] (Nd.D x):=⟨rfl,rfl,rfl,rfl,rfl,rfl⟩
def FI {m:List (Nat×aZ)}{lp ln:Nat}{w:List ah}{nd:List Nd}{b:Bool}(h1:look m lp=some (.buf 3 [eo w (.own ln 5 0 nd.length) b]))(h2:look m ln=some (.buf 5 (nd.map Nd.D))):
  gD m [[.pt [.sl 1 [.a],.sl 5 [.a,.a,.a,.a,.a],.a]]] [.ptr lp 3 0 0]:=by
 refine⟨⟨by simp[dC,h1], ?_⟩,trivial⟩;intro e he;simp only[aE,h1,List.mem_singleton]at he;subst he;refine⟨rfl,⟨by simp[dC,h2], ?_⟩,rfl,rfl⟩;simp only[aE,h2,List.drop_zero,aL];intro e he;obtain⟨x,_,rfl⟩:=List.mem_map.1 he;exact KM x
def bM (w:List ah):ah:=w.headD []
def aS (w:List ah):List ah:=if bM w=[]then w else w.drop 1
def bV (w:List ah)(b:Bool):Bool:=if bM w=[]then true else b
def nS {w:List ah}{x:ah}(hx:x≠[])(h:bM w=x):∃r,w=x::r:=by
 match w,h with
 |[],h=>exact absurd h.symm hx
 |y::r,h=>exact⟨r,by rw[show y=x from h]⟩
def GG {w:List ah}(h:¬bM w=[]):1≤w.length:=by
 match w,h with
 |[],h=>exact absurd rfl h
 |_::_,_=>simp
def fP {x:ah}{r:List ah}(hx:x≠[]):aS (x::r)=r:=if_neg hx
def fO {x:ah}{r:List ah}{b:Bool}(hx:x≠[]):bV (x::r) b=b:=if_neg hx
def D5 (w:List ah):aS w<:+w:=by
 unfold aS;split
 ·exact List.suffix_refl _
 ·exact List.drop_suffix 1 w
def lj (w:List ah)(nd:List Nd):PB w nd (aS w) nd:=by
 have h:=D5 w;have:=h.length_le;exact⟨this,by omega,h⟩
def zW {w:List ah}{b:Bool}(h:bV w b=false):b=false∧bM w≠[]∧w=bM w::aS w:=by
 unfold bV at h;split at h
 ·cases h
 ·rename_i hs;refine⟨h,hs, ?_⟩
  match w,hs with
  |x::r,hs=>rw[fP (x:=x) (r:=r) hs];rfl
def jE (b:Bool)(k:ah)(w:List ah)(nd:List Nd):PR:=if b=true then none else rz k w nd
def Fp {j:Nat}{k:ah}(hj:j<3)(h:lW[j]! =k):xE k=(j:Nat):=by
 obtain rfl|rfl|rfl:j=0∨j=1∨j=2:=by omega
 all_goals (subst h;rfl)
def Dl {k:ah}(h:0≤xE k):∃j,j<3∧lW[j]! =k∧xE k=(j:Nat):=by
 unfold xE at h⊢;by_cases h1:k=[111,115]
 ·exact⟨0,by omega,h1.symm,by rw[if_pos h1];rfl⟩
 ·by_cases h2:k=[97,114,99,104]
  ·exact⟨1,by omega,h2.symm,by rw[if_neg h1,if_pos h2];rfl⟩
  ·by_cases h3:k=[97,98,105]
   ·exact⟨2,by omega,h3.symm,by rw[if_neg h1,if_neg h2,if_pos h3];rfl⟩
   ·rw[if_neg h1,if_neg h2,if_neg h3]at h;omega
def AO (j:Nat)(k s v:ah)(bad:Bool):Bool:=!(((!decide (lW[j]! =k) ||bad) ||(!decide (s=[61])&& !decide (s=[33,61]))) ||!bI v)
def Ff {j:Nat}{k:ah}{w:List ah}{nd:List Nd}{b:Bool}(hj:j<3)(h:AO j k (bM w) (bM (aS w)) (bV (aS w) (bV w b))=true):
  jE b k w nd=some (yy k (bM w) (bM (aS w)) (aS (aS w)) nd)∧xE k=(j:Nat)∧bV (aS w) (bV w b)=false:=by
 have h0:=h;simp only[AO,Bool.not_or,Bool.and_eq_true,Bool.not_not,decide_eq_true_eq,Bool.not_eq_true',Bool.not_and,Bool.or_eq_true]at h;obtain⟨⟨⟨h1,h2⟩,h3⟩,h4⟩:=h;have hk:=Fp hj h1;obtain⟨g1,g2,g3⟩:=zW h2;obtain⟨g4,g5,g6⟩:=zW g1;refine⟨?_,hk,h2⟩;unfold jE;rw[g4,if_neg (by simp)]
 conv=>lhs;rw[g6,g3]
 simp only[rz];rw[if_pos];simp only[At,Bool.and_eq_true,Bool.or_eq_true,decide_eq_true_eq];exact⟨⟨by omega,h4⟩,h3⟩
def HT {k:ah}{w:List ah}{nd:List Nd}{b:Bool}(h:∀j,j<3→AO j k (bM w) (bM (aS w)) (bV (aS w) (bV w b))=false):jE b k w nd=none:=by
 unfold jE;split
 ·rfl
 ·rename_i hb
  match w with
  |[]=>rfl
  |[_]=>rfl
  |s::v::r=>
   simp only[rz];rw[if_neg];intro ha;simp only[At,Bool.and_eq_true,Bool.or_eq_true,decide_eq_true_eq]at ha;obtain⟨⟨h1,h2⟩,h3⟩:=ha;obtain⟨j,hj,hj2,_⟩:=Dl h1;have hs:s≠[]:=by rintro rfl;rcases h3 with h|h<;>cases h
   have hv:v≠[]:=by rintro rfl;cases h2
   have:=h j hj;rw[fP hs,fO hs,fO hv]at this;simp only[Bool.not_eq_true]at hb;subst hb;revert this;simp only[AO,bM,List.headD_cons,hj2,h2,decide_true];rcases h3 with rfl|rfl<;>simp
def BG (w:List ah)(nd:List Nd):PB w nd (aS (aS w)) nd:=(lj w nd).trans (lj _ nd)
def tt {b:Bool}{k:ah}{w:List ah}{nd:List Nd}{a:Int}{w':List ah}{nd':List Nd}(h:jE b k w nd=some (a,w',nd')):PB w nd w' nd':=by
 unfold jE at h;split at h
 ·cases h
 ·exact oy h
def EX {w:List ah}{nd:List Nd}(h1:bM w≠wS)(h2:bM w≠lP):lB w nd=jE (bV w false) (bM w) (aS w) nd:=by
 match w with
 |[]=>rfl
 |k::r=>
  have h1:k≠wS:=h1;have h2:k≠lP:=h2;rw[xu,if_neg h1,if_neg h2];by_cases hk:k=[]
  ·subst hk;show rz [] r nd=none
   match r with
   |[]=>rfl
   |[_]=>rfl
   |s::v::r=>rfl
  ·rw[fP hk,fO hk];rfl
def EL {R:PR}{o:PO}{w:List ah}{nd:List Nd}(h:dR R w nd o)(hs:bM o.w≠tk):oG R=none:=by
 rcases h.1 with⟨h1,_⟩|⟨h1,_⟩
 ·rw[h1]
  match ho:o.w,hs with
  |[],_=>rfl
  |x::r,hs=>simp only[oG];exact if_neg hs
 ·rw[h1];rfl
def dR.pb {R:PR}{o:PO}{w:List ah}{nd:List Nd}(h:dR R w nd o):PB w nd o.w o.nd:=h.2
def It {r:List ah}{nd:List Nd}{o:PO}(h:dR (lB r nd) r nd o):dR (lB (wS::r) nd) (wS::r) nd ⟨(o.nd.length:Nat),o.w,o.nd++[⟨2,o.a,0,0,[]⟩],o.bad⟩:=by
 refine⟨?_,h.2.tail _⟩;rw[xu,if_pos rfl];rcases h.1 with⟨h1,h2⟩|⟨h1,h2⟩
 ·left;rw[h1];exact⟨rfl,h2⟩
 ·right;rw[h1];exact⟨rfl,h2⟩
def yL (r:List ah)(nd:List Nd):lB (lP::r) nd=oG (jH r nd):=by rw[xu,if_neg (by decide),if_pos rfl]
def zr {r:List ah}{nd:List Nd}{o:PO}(h:dR (jH r nd) r nd o)(hs:¬bM o.w=tk):dR (lB (lP::r) nd) (lP::r) nd ⟨o.a,aS o.w,o.nd,true⟩:=
 ⟨.inr ⟨by rw[yL,EL h hs],rfl⟩,h.2.zV.trans (lj _ _)⟩
def F3 {r:List ah}{nd:List Nd}{o:PO}(h:dR (jH r nd) r nd o)(hs:bM o.w=tk):dR (lB (lP::r) nd) (lP::r) nd ⟨o.a,aS o.w,o.nd,bV o.w o.bad⟩:=by
 refine⟨?_,h.2.zV.trans (lj _ _)⟩;obtain⟨q,hq⟩:=nS (by decide) hs;rw[yL,hq,fP (by decide),fO (by decide)];rcases h.1 with⟨h1,h2⟩|⟨h1,h2⟩
 ·left;rw[h1,hq];exact⟨by simp only[oG,if_true],h2⟩
 ·right;rw[h1];exact⟨rfl,h2⟩
def F2 {w:List ah}{nd:List Nd}{o:PO}(hf:lB w nd=jE (bV w false) (bM w) (aS w) nd)(h:dR (jE (bV w false) (bM w) (aS w) nd) (aS w) nd o):dR (lB w nd) w nd o:=
 ⟨by rw[hf];exact h.1,(lj w nd).trans h.2⟩
def KL {s:ah}{o:PO}(h:dR (jH (ai s 32) []) (ai s 32) [] o)(hc:((o.bad ||decide ((0:Int)<(o.w.length:Nat))) ||!vu o.nd)=true):A3 s=none:=by
 unfold A3;rcases h.1 with⟨h1,h2⟩|⟨h1,h2⟩
 ·rw[h1]
  match hw:o.w with
  |[]=>
   simp only[h2,hw,List.length_nil,Bool.false_or]at hc;have:vu o.nd=false:=by simpa using hc
   simp only[this,Bool.false_eq_true,if_false]
  |x::r=>rfl
 ·rw[h1]
def Ig {s:ah}{o:PO}(h:dR (jH (ai s 32) []) (ai s 32) [] o)(hc:((o.bad ||decide ((0:Int)<(o.w.length:Nat))) ||!vu o.nd)=false):A3 s=some o.nd:=by
 simp only[Bool.or_eq_false_iff,decide_eq_false_iff_not,Bool.not_eq_false']at hc;unfold A3;rcases h.1 with⟨h1,h2⟩|⟨h1,h2⟩
 ·rw[h1]
  match hw:o.w with
  |[]=>simp only[hc.2,if_true]
  |x::r=>exact absurd hc.1.2 (by rw[hw];simp)
 ·rw[h2]at hc;exact absurd hc.1.1 (by simp)
def Ie {s:ah}{nd:List Nd}(h1:¬96<s.length)(h2:¬s=[])(h:A3 s=some nd):lK s=(nd,0):=by simp only[lK,h,if_neg h1,if_neg h2]
def Ic {s:ah}(h1:¬96<s.length)(h2:¬s=[])(h:A3 s=none):lK s=([],7):=by simp only[lK,h,if_neg h1,if_neg h2]
def GZ (part:List ah→List Nd→PR)(wd:ah)(op:Int)(R:PR)(w:List ah)(nd:List Nd)(o:PO):Prop:=(o.bad=false∧R=B3 part wd op o.a o.w o.nd∨o.bad=true∧R=none)∧PB w nd o.w o.nd
def GZ.first {part:List ah→List Nd→PR}{wd:ah}{op:Int}{w:List ah}{nd:List Nd}{o:PO}(h:dR (part w nd) w nd o):GZ part wd op (ff part wd op w nd) w nd o:=by
 refine⟨?_,h.2⟩;rcases h.1 with⟨h1,h2⟩|⟨h1,h2⟩
 ·left;refine⟨h2, ?_⟩;unfold ff;rw[h1];rfl
 ·right;refine⟨h2, ?_⟩;unfold ff;rw[h1]
def GZ.next {part:List ah→List Nd→PR}(hp:sb part){wd:ah}{op:Int}{R:PR}{w:List ah}{nd:List Nd}{a:Int}{r:List ah}{nd1:List Nd}{o:PO}(h:GZ part wd op R w nd ⟨a,wd::r,nd1,false⟩)(h2:dR (part r nd1) r nd1 o):
  GZ part wd op R w nd ⟨(o.nd.length:Nat),o.w,o.nd++[⟨op,a,o.a,0,[]⟩],o.bad⟩:=by
 refine⟨?_,h.2.trans (h2.2.tail _)⟩;rcases h.1 with⟨_,h1⟩|⟨h1,_⟩
 ·rw[Dv hp]at h1;rcases h2.1 with⟨g1,g2⟩|⟨g1,g2⟩
  ·left;exact⟨g2,by rw[h1,g1]⟩
  ·right;exact⟨g2,by rw[h1,g1]⟩
 ·cases h1
def GZ.last {part:List ah→List Nd→PR}{wd:ah}{op:Int}{R:PR}{w:List ah}{nd:List Nd}{o:PO}(h:GZ part wd op R w nd o)(hx:o.bad=true∨o.w.head? ≠some wd):dR R w nd o:=by
 refine⟨?_,h.2⟩;rcases h.1 with⟨h1,h2⟩|⟨h1,h2⟩
 ·left;refine⟨?_,h1⟩;rw[h2];unfold B3;rw[Fw];rcases hx with hx|hx
  ·rw[h1]at hx;cases hx
  ·exact hx
 ·right;exact⟨h2,h1⟩
def PB.IV {w w':List ah}{nd nd':List Nd}{W:List ah}(h:PB w nd w' nd')(hW:w<:+W):w'<:+W:=h.2.2.trans hW
def qJ (f:Nat→Int):Nat→Nat→Int
 |_,0=>0
 |i,k+1=>if f i=0 then qJ f (i+1) k else f i
def gy (f:Nat→Int)(i n:Nat):Int:=qJ f i (n-i)
def qI {f:Nat→Int}{i n:Nat}(h:i<n)(hf:f i=0):gy f i n=gy f (i+1) n:=by
 unfold gy;obtain⟨k,hk⟩:∃k,n-i=k+1:=⟨n-i-1,by omega⟩
 rw[hk,show n-(i+1)=k by omega];simp only[qJ,hf,if_true]
def tM {f:Nat→Int}{i n:Nat}(h:i<n)(hf:f i≠0):gy f i n=f i:=by
 unfold gy;obtain⟨k,hk⟩:∃k,n-i=k+1:=⟨n-i-1,by omega⟩
 rw[hk];simp only[qJ,hf,if_false]
def qH {f:Nat→Int}{i n:Nat}(h:n≤i):gy f i n=0:=by
 unfold gy;rw[show n-i=0 by omega];rfl
def lD (f:Nat→Int):Nat→Nat→Int×Int
 |_,0=>(0,0)
 |i,k+1=>if f i=0 then lD f (i+1) k else(f i,((i:Nat):Int))
def fg (f:Nat→Int)(i n:Nat):Int×Int:=lD f i (n-i)
def nH {f:Nat→Int}{i n:Nat}(h:i<n)(hf:f i=0):fg f i n=fg f (i+1) n:=by
 unfold fg;obtain⟨k,hk⟩:∃k,n-i=k+1:=⟨n-i-1,by omega⟩
 rw[hk,show n-(i+1)=k by omega];simp only[lD,hf,if_true]
def lC {f:Nat→Int}{i n:Nat}(h:i<n)(hf:f i≠0):fg f i n=(f i,((i:Nat):Int)):=by
 unfold fg;obtain⟨k,hk⟩:∃k,n-i=k+1:=⟨n-i-1,by omega⟩
 rw[hk];simp only[lD,hf,if_false]
def nG {f:Nat→Int}{i n:Nat}(h:n≤i):fg f i n=(0,0):=by
 unfold fg;rw[show n-i=0 by omega];rfl
def iP (r:Rec)(name rng:ah):Int:=if ea name=false then 4 else if name=r.name then 8 else if nO rng=false then 6 else 0
def LA (l:List ah)(i:Nat):Bool:=bI l[i]! && !(decide (0<i)&& !Op.bytesLess l[i-1]! l[i]!)
def kl (l:List ah)(alone:Bool):Bool:=(decide (l.length≤6)&&(alone ||decide (l.length=0)))&&cd (LA l) 0 l.length
def jX (r:Rec)(w:aT)(alone:Bool):Int:=if iP r w.name w.range≠0 then iP r w.name w.range else if kl w.feats alone=false then 11 else 0
def lQ (r:Rec)(l:List aT):Int:=gy (fun i=>jX r l[i]! (decide ((l.length:Int)=1))) 0 l.length
def jf (r:Rec)(n:aR):Int:=if n.any.length=0 then 9 else if 3<n.any.length then 3 else if lQ r n.any≠0 then lQ r n.any else
 if lJ n.when'=false then 7 else if n.option≠[]∧bI n.option=false then 14 else 0
def tu (r:Rec)(b:ee):Int:=if iP r b.name b.range≠0 then iP r b.name b.range else if lJ b.when'=false then 7 else 0
def Ir (l:List aR)(x:ah):Bool:=l.any fun n=>decide (n.option=x)
def Cb (l:List aR)(x:ah):Bool:=l.any fun n=>decide (n.any.length=1)&&decide (n.any[0]!.name=x)
def je (r:Rec)(s:ah):Int:=if(cb s).1=2∧Ir r.needs (cb s).2.1=false then 14 else if(cb s).1=3∧Cb r.needs (cb s).2.1=false then 16 else 0
def oQ (r:Rec)(of:List ah):Int:=gy (fun i=>je r of[i]!) 0 of.length
def jP (r:Rec):Int×Int:=fg (fun i=>jf r r.needs[i]!) 0 r.needs.length
def rA (r:Rec):Int×Int:=fg (fun i=>tu r r.bars[i]!) 0 r.bars.length
def qG (r:Rec):Int×Int:=fg (fun i=>oQ r r.feats[i]!.of) 0 r.feats.length
def eA (r:Rec):Int×Int:=if(jP r).1≠0 then jP r else if(rA r).1≠0 then rA r else if fF r.feats=false then(11,0)else qG r
def GQ (n:Nat)(al:Bool):(decide ((6:Int)<(n:Nat)) ||(decide ((0:Int)<(n:Nat))&& !al))=!(decide (n≤6)&&(al ||decide (n=0))):=by
 rw[show decide ((6:Int)<(n:Nat))=!decide (n≤6)from by rw[←decide_not];exact decide_eq_decide.2 (by omega),show decide ((0:Int)<(n:Nat))=!decide (n=0)from by rw[←decide_not];exact decide_eq_decide.2 (by omega)];generalize decide (n≤6)=a;generalize decide (n=0)=b;cases a<;>cases b<;>cases al<;>rfl
def Oe (l:List ah)(i:Nat):(!bI l[i]! ||(decide ((0:Int)<(i:Nat))&& !Op.bytesLess l[i-1]! l[i]!))=!LA l i:=by
 unfold LA;rw[show decide ((0:Int)<(i:Nat))=decide (0<i)from decide_eq_decide.2 (by omega)];generalize bI l[i]! =a;generalize decide (0<i)=b;generalize Op.bytesLess l[i-1]! l[i]! =c;cases a<;>cases b<;>cases c<;>rfl
def G1 (k:Int)(x:ah)(n:aR):Bool:=(decide (k=2)&&decide (n.option=x)) ||((decide (k=3)&&decide ((n.any.length:Int)=1))&&decide (n.any[0]!.name=x))
def KG (k:Int):Int:=if k=2 then 14 else if k=3 then 16 else 0
def Fm (r:Rec)(s:ah):je r s=if r.needs.any (G1 (cb s).1 (cb s).2.1)=true then 0 else KG (cb s).1:=by
 unfold je KG Ir Cb;generalize (cb s).1=k;generalize (cb s).2.1=x;by_cases h2:k=2
 ·subst h2;have:G1 2 x=fun n=>decide (n.option=x):=by funext n;simp[G1]
  rw[this];cases r.needs.any fun n=>decide (n.option=x)<;>simp
 ·by_cases h3:k=3
  ·subst h3;have:G1 3 x=fun n=>decide (n.any.length=1)&&decide (n.any[0]!.name=x):=by
    funext n;simp only[G1];rw[show decide ((n.any.length:Int)=1)=decide (n.any.length=1)from decide_eq_decide.2 (by omega)];simp
   rw[this];cases r.needs.any fun n=>decide (n.any.length=1)&&decide (n.any[0]!.name=x)<;>simp
  ·have:G1 k x=fun _=>false:=by funext n;simp[G1,h2,h3]
   rw[this];simp[h2,h3]
def Ho {α:Type} [Inhabited α]{c:α→Bool}{l:List α}{i:Nat}(h:i<l.length)(hc:c l[i]! =true):(l.drop i).any c=true:=by
 rw[List.drop_eq_getElem_cons h,List.any_cons];have:l[i]! =l[i]:=by simp[h]
 rw[←this,hc,Bool.true_or]
def Ki {α:Type} [Inhabited α]{c:α→Bool}{l:List α}{i:Nat}(h:i<l.length)(hc:c l[i]! =false):(l.drop i).any c=(l.drop (i+1)).any c:=by
 rw[List.drop_eq_getElem_cons h,List.any_cons];have:l[i]! =l[i]:=by simp[h]
 rw[←this,hc,Bool.false_or]
def Hn {α:Type}{c:α→Bool}{l:List α}{i:Nat}(h:l.length≤i):(l.drop i).any c=false:=by
 rw[List.drop_eq_nil_of_le h];rfl
def ed:ah:=[110,101,101,100]
def gO:ah:=[97,110,121]
def fe:ah:=[119,104,101,110]
def cM:ah:=[111,112,116,105,111,110]
def eQ:ah:=[98,97,114]
def bD:ah:=[102,101,97,116,117,114,101]
def cT:ah:=[112,97,99,107,97,103,101]
def gX:ah:=[102,117,108,108]
def ew:ah:=[98,97,114,101]
def bz (l:List ah):ah:=aG [32] l++[10]
def fX (w:aT):List ah:=[gO,w.name,if w.feats.length=0 then [45]else aG [44] w.feats,if w.bare=true then ew else gX,w.range]
def fW (s:ah):ah:=if s=[]then []else bz [fe,s]
def sA (s:ah):ah:=if s=[]then []else bz [cM,s]
def kU (n:aR):ah:=bz [ed]++(n.any.map fun w=>bz (fX w)).flatten++fW n.when'++sA n.option
def qv (b:ee):ah:=bz [eQ,b.name,b.range]++fW b.when'
def om (f:aU):ah:=bz ([bD,f.name]++f.of)
def mX (r:Rec):ah:=bz [cT,r.name,iN r.v]
def dJ (r:Rec):ah:=mX r++(r.needs.map kU).flatten++(r.bars.map qv).flatten++(r.feats.map om).flatten
def cg (r:Rec):Int×Int:=if ea r.name=false then(4,0)else if en r.v=false then(5,0)else if 8<r.needs.length∨8<r.bars.length then(3,0)else
 if(eA r).1≠0 then eA r else if 4096<(dJ r).length then(3,0)else(0,0)
def jS (r:Rec):ah×Int:=if(cg r).1≠0 then([],(cg r).1)else(dJ r,0)
def aT.sm (w:aT):Prop:=(w.name.length≤1048576∧w.range.length≤1048576)∧∀t∈w.feats,t.length≤1048576
def aR.sm (n:aR):Prop:=(∀w∈n.any,w.sm)∧n.when'.length≤1048576∧n.option.length≤1048576
def ee.sm (b:ee):Prop:=b.name.length≤1048576∧b.range.length≤1048576∧b.when'.length≤1048576
def kg (r:Rec):Prop:=(r.name.length≤1048576∧r.v.sm)∧(∀n∈r.needs,n.sm)∧(∀b∈r.bars,b.sm)∧sR r.feats
def F5 {r:Rec}{e:Int×Int}(h:jP r=e)(hn:e.1≠0):eA r=e:=by rw[eA,if_pos (by rw[h];exact hn),h]
def zt {r:Rec}{e:Int×Int}(h0:jP r=(0,0))(h:rA r=e)(hn:e.1≠0):eA r=e:=by rw[eA,if_neg (by rw[h0];simp),if_pos (by rw[h];exact hn),h]
def F6 {r:Rec}(h0:jP r=(0,0))(h1:rA r=(0,0))(h:fF r.feats=false):eA r=(11,0):=by rw[eA,if_neg (by rw[h0];simp),if_neg (by rw[h1];simp),if_pos h]
def ux {r:Rec}{e:Int×Int}(h0:jP r=(0,0))(h1:rA r=(0,0))(h:fF r.feats=true)(h2:qG r=e):eA r=e:=by rw[eA,if_neg (by rw[h0];simp),if_neg (by rw[h1];simp),if_neg (by rw[h];simp),h2]
def yP (f:Nat→Int):∀(k i:Nat),(lD f i k).1=0→lD f i k=(0,0)
 |0,_,_=>rfl
 |k+1,i,h=>by
  simp only[lD]at h⊢;by_cases hf:f i=0
  ·rw[if_pos hf]at h⊢;exact yP f k (i+1) h
  ·rw[if_neg hf]at h;exact absurd h hf
def F7 {r:Rec}(h:(eA r).1=0):eA r=(0,0):=by
 unfold eA at h⊢;split
 ·rename_i h1;rw[if_pos h1]at h;exact absurd h h1
 ·rename_i h1;rw[if_neg h1]at h;split
  ·rename_i h2;rw[if_pos h2]at h;exact absurd h h2
  ·rename_i h2;rw[if_neg h2]at h;split
   ·rename_i h3;rw[if_pos h3]at h;cases h
   ·rename_i h3;rw[if_neg h3]at h;exact yP _ _ _ h
def mF {r:Rec}{e:Int×Int}(h0:ea r.name=true)(h1:en r.v=true)(h2:¬8<r.needs.length)(h3:¬8<r.bars.length)(hp:eA r=e)(hn:e.1≠0):cg r=e:=by
 rw[cg,if_neg (by simp[h0]),if_neg (by simp[h1]),if_neg (by rintro(h|h);exact h2 h;exact h3 h),if_pos (by rw[hp];exact hn),hp]
def tE {r:Rec}(h0:ea r.name=true)(h1:en r.v=true)(h2:¬8<r.needs.length)(h3:¬8<r.bars.length)(hp:eA r=(0,0)):cg r=if 4096<(dJ r).length then(3,0)else(0,0):=by
 rw[cg,if_neg (by simp[h0]),if_neg (by simp[h1]),if_neg (by rintro(h|h);exact h2 h;exact h3 h),if_neg (by rw[hp];simp)]
def tY (r:Rec):Prop:=(ea r.name=true∧en r.v=true)∧(r.needs.length≤8∧r.bars.length≤8)∧eA r=(0,0)
def mG (n:Nat)(l:List ah):List ah:=if l.length≤n then l else l.take (n-1)++[aG [32] (l.drop (n-1))]
def cl (n:Nat)(op:Bool)(t:ah):List ah:=if op=true then mG n (ai t 32)else ai t 32
def eE (w:ah)(n:Nat)(op:Bool)(t:ah):Option (List ah):=
 if(cl n op t)[0]! =w∧(n=0∨(cl n op t).length=n)∧[]∉cl n op t then some (cl n op t)else none
def bg (w:ah)(n:Nat)(op:Bool):List ah→Option (List ah×List ah)
 |[]=>none
 |t::r=>match eE w n op t with
  |some l=>some (l,r)
  |none=>none
def bp (ls:List ah):ah×List ah:=match bg fe 2 true ls with
 |some (l,r)=>(l[1]!,r)
 |none=>([],ls)
def pV (l:List ah):Bool:=decide (l[3]! =ew) ||decide (l[3]! =gX)
def eR (l:List ah):aT:=⟨l[1]!,l[4]!,if l[2]! =[45]then []else ai l[2]! 44,decide (l[3]! =ew)⟩
def bP:List ah→List aT×List ah
 |[]=>([],[])
 |t::r=>match eE gO 5 true t with
  |some l=>if pV l=true then(eR l::(bP r).1,(bP r).2)else([],t::r)
  |none=>([],t::r)
def oV (ls:List ah):ah×List ah:=match bg cM 2 false ls with
 |some (l,r)=>(l[1]!,r)
 |none=>([],ls)
def cX (ls:List ah):aR×List ah:=(⟨(bP ls).1,(bp (bP ls).2).1,(oV (bp (bP ls).2).2).1⟩,(oV (bp (bP ls).2).2).2)
def iW:Nat→List ah→List aR×List ah
 |0,ls=>([],ls)
 |f+1,ls=>match bg ed 1 false ls with
  |some (_,r)=>((cX r).1::(iW f (cX r).2).1,(iW f (cX r).2).2)
  |none=>([],ls)
def lS:Nat→List ah→List ee×List ah
 |0,ls=>([],ls)
 |f+1,ls=>match bg eQ 3 true ls with
  |some (l,r)=>(⟨l[1]!,l[2]!,(bp r).1⟩::(lS f (bp r).2).1,(lS f (bp r).2).2)
  |none=>([],ls)
def dk:List ah→List aU×List ah
 |[]=>([],[])
 |t::r=>match eE bD 0 false t with
  |some l=>if 2≤l.length then(⟨l[1]!,l.drop 2⟩::(dk r).1,(dk r).2)else([],t::r)
  |none=>([],t::r)
def n6:Rec:=⟨[],ja,[],[],[]⟩
def ez (ls:List ah):List aR×List ah:=iW ls.length ls
def jF (ls:List ah):List ee×List ah:=lS ls.length ls
def od (nm:ah)(v:df)(r:List ah):Rec×List ah:=(⟨nm,v,(ez r).1,(jF (ez r).2).1,(dk (jF (ez r).2).2).1⟩,(dk (jF (ez r).2).2).2)
def pc (ls:List ah):Option (Rec×List ah):=match bg cT 3 false ls with
 |some (l,r)=>match kE l[2]! with
  |some v=>some (od l[1]! v r)
  |none=>none
 |none=>none
def ib {w:ah}{n:Nat}{op:Bool}{ls l r:List ah}(h:bg w n op ls=some (l,r)):r.length+1=ls.length:=by
 match ls,h with
 |t::q,h=>
  simp only[bg]at h;split at h
  ·cases h;rfl
  ·cases h
 |[],h=>cases h
def ru (ls:List ah):(bp ls).2.length≤ls.length:=by
 unfold bp;split
 ·rename_i l r h;have:=ib h;simp only;omega
 ·exact Nat.le_refl _
def FV (ls:List ah):(oV ls).2.length≤ls.length:=by
 unfold oV;split
 ·rename_i l r h;have:=ib h;simp only;omega
 ·exact Nat.le_refl _
def r6:∀ls:List ah,(bP ls).2.length≤ls.length
 |[]=>Nat.le_refl _
 |t::r=>by
  have:=r6 r;simp only[bP];split
  ·split
   ·simp only[List.length_cons];omega
   ·exact Nat.le_refl _
  ·exact Nat.le_refl _
def wj (ls:List ah):(cX ls).2.length≤ls.length:=by
 have h1:=r6 ls;have h2:=ru (bP ls).2;have h3:=FV (bp (bP ls).2).2;show(oV (bp (bP ls).2).2).2.length≤_;omega
def wm:∀(f g:Nat)(ls:List ah),ls.length≤f→ls.length≤g→iW f ls=iW g ls
 |0,0,_,_,_=>rfl
 |0,g+1,ls,h,_=>by
  have:ls=[]:=List.length_eq_zero_iff.1 (by omega);subst this;rfl
 |f+1,0,ls,_,h=>by
  have:ls=[]:=List.length_eq_zero_iff.1 (by omega);subst this;rfl
 |f+1,g+1,ls,hf,hg=>by
  simp only[iW];cases h:bg ed 1 false ls with
  |none=>rfl
  |some p=>
   obtain⟨l,r⟩:=p;have h1:=ib h;have h2:=wj r;simp only;rw[wm f g _ (by omega) (by omega)]
def yB:∀(f g:Nat)(ls:List ah),ls.length≤f→ls.length≤g→lS f ls=lS g ls
 |0,0,_,_,_=>rfl
 |0,g+1,ls,h,_=>by
  have:ls=[]:=List.length_eq_zero_iff.1 (by omega);subst this;rfl
 |f+1,0,ls,_,h=>by
  have:ls=[]:=List.length_eq_zero_iff.1 (by omega);subst this;rfl
 |f+1,g+1,ls,hf,hg=>by
  simp only[lS];cases h:bg eQ 3 true ls with
  |none=>rfl
  |some p=>
   obtain⟨l,r⟩:=p;have h1:=ib h;have h2:=ru r;simp only;rw[yB f g _ (by omega) (by omega)]
def rQ {ls l r:List ah}(h:bg ed 1 false ls=some (l,r)):ez ls=((cX r).1::(ez (cX r).2).1,(ez (cX r).2).2):=by
 have h1:=ib h;have h2:=wj r;unfold ez;rw[←h1];simp only[iW,h];rw[wm r.length (cX r).2.length _ h2 (Nat.le_refl _)]
def rO {ls:List ah}(h:bg ed 1 false ls=none):ez ls=([],ls):=by
 unfold ez
 match ls,h with
 |[],_=>rfl
 |t::r,h=>simp only[List.length_cons,iW,h]
def tx {ls l r:List ah}(h:bg eQ 3 true ls=some (l,r)):jF ls=(⟨l[1]!,l[2]!,(bp r).1⟩::(jF (bp r).2).1,(jF (bp r).2).2):=by
 have h1:=ib h;have h2:=ru r;unfold jF;rw[←h1];simp only[lS,h];rw[yB r.length (bp r).2.length _ h2 (Nat.le_refl _)]
def tw {ls:List ah}(h:bg eQ 3 true ls=none):jF ls=([],ls):=by
 unfold jF
 match ls,h with
 |[],_=>rfl
 |t::r,h=>simp only[List.length_cons,lS,h]
structure RdS where
 r:Rec
 st:Nat
 deriving Inhabited
def ND (a b:Bool):eL (D.bool a).cells (D.bool b).cells=decide (a=b):=by cases a<;>cases b<;>rfl
def aT.zN (a b:aT):decide (a=b)=(((decide (a.name=b.name)&&decide (a.range=b.range))&&decide (a.bare=b.bare))&&decide (a.feats=b.feats)):=by
 obtain⟨a1,a2,a3,a4⟩:=a;obtain⟨b1,b2,b3,b4⟩:=b;simp only[aT.mk.injEq,Bool.decide_and]
 ac_rfl
def aR.zN (a b:aR):decide (a=b)=((decide (a.when'=b.when')&&decide (a.option=b.option))&&decide (a.any=b.any)):=by
 obtain⟨a1,a2,a3⟩:=a;obtain⟨b1,b2,b3⟩:=b;simp only[aR.mk.injEq,Bool.decide_and]
 ac_rfl
def Rec.zN (a b:Rec):decide (a=b)=((((decide (a.name=b.name)&&decide (a.v=b.v))&&decide (a.needs=b.needs))&&decide (a.bars=b.bars))&&decide (a.feats=b.feats)):=by
 obtain⟨a1,a2,a3,a4,a5⟩:=a;obtain⟨b1,b2,b3,b4,b5⟩:=b;simp only[Rec.mk.injEq,Bool.decide_and]
 ac_rfl
def tN {f:Nat→Int}:∀{k i:Nat},qJ f i k=0→∀j,i≤j→j<i+k→f j=0
 |0,i,_,j,h1,h2=>absurd h2 (by omega)
 |k+1,i,h,j,h1,h2=>by
  simp only[qJ]at h;by_cases hf:f i=0
  ·rw[if_pos hf]at h;by_cases hj:j=i
   ·rw[hj];exact hf
   ·exact tN h j (by omega) (by omega)
  ·rw[if_neg hf]at h;exact absurd h hf
def AJ {f:Nat→Int}{n:Nat}(h:gy f 0 n=0)(j:Nat)(hj:j<n):f j=0:=tN h j (by omega) (by omega)
def tO {f:Nat→Int}:∀{k i:Nat},(lD f i k).1=0→∀j,i≤j→j<i+k→f j=0
 |0,i,_,j,h1,h2=>absurd h2 (by omega)
 |k+1,i,h,j,h1,h2=>by
  simp only[lD]at h;by_cases hf:f i=0
  ·rw[if_pos hf]at h;by_cases hj:j=i
   ·rw[hj];exact hf
   ·exact tO h j (by omega) (by omega)
  ·rw[if_neg hf]at h;exact absurd h hf
def AI {f:Nat→Int}{n:Nat}(h:(fg f 0 n).1=0)(j:Nat)(hj:j<n):f j=0:=tO h j (by omega) (by omega)
def aT.fit (w:aT):Prop:=w.sm∧(w.feats.length≤6∧∀t∈w.feats,t.length≤12)
def aR.fit (n:aR):Prop:=(n.any.length≤3∧∀w∈n.any,w.fit)∧n.when'.length≤1048576∧n.option.length≤1048576
def aU.fit (x:aU):Prop:=x.sm∧x.of.length≤6
structure Rec.fit (r:Rec):Prop where
 nm:r.name.length≤1048576
 v:r.v.sm
 ns:r.needs.length≤8
 n:∀x∈r.needs,x.fit
 bs:r.bars.length≤8
 b:∀x∈r.bars,x.sm
 fs:r.feats.length≤8
 f:∀x∈r.feats,x.fit
def sW {α:Type} [Inhabited α]{l:List α}{x:α}(h:x∈l):∃i,i<l.length∧l[i]! =x:=by
 obtain⟨i,hi,e⟩:=List.mem_iff_getElem.1 h;exact⟨i,hi,by rw[←e];simp[hi]⟩
def GS {r:Rec}{w:aT}{al:Bool}(h:jX r w al=0)(hs:w.sm):w.fit:=by
 refine⟨hs, ?_⟩;unfold jX at h;split at h
 ·rename_i h1;exact absurd h h1
 ·split at h
  ·cases h
  ·rename_i h2;simp only[kl,Bool.not_eq_false,Bool.and_eq_true,decide_eq_true_eq,dh]at h2;refine⟨h2.1.1,fun t ht=>?_⟩;obtain⟨i,hi,rfl⟩:=sW ht;have:=h2.2 i (by omega) hi;simp only[LA,bI,Bool.and_eq_true,decide_eq_true_eq]at this;exact this.1.1.2
def FE {r:Rec}{n:aR}(h:jf r n=0)(hs:n.sm):n.fit:=by
 unfold jf at h;split at h
 ·cases h
 split at h
 ·cases h
 rename_i h1 h2;split at h
 ·rename_i h3;exact absurd h h3
 rename_i h3;refine⟨⟨by omega,fun w hw=>?_⟩,hs.2⟩;obtain⟨i,hi,rfl⟩:=sW hw;exact GS (AJ (Classical.not_not.1 h3) i hi) (hs.1 _ hw)
def Df {r:Rec}(h:tY r∧kg r):r.fit:=by
 obtain⟨⟨_,⟨h1,h2⟩,hp⟩,⟨s1,s2⟩,s3,s4,s5⟩:=h;have h0:(jP r).1=0∧fF r.feats=true:=by
  unfold eA at hp;split at hp
  ·rename_i h;rw[hp]at h;exact absurd rfl h
  split at hp
  ·rename_i h;rw[hp]at h;exact absurd rfl h
  split at hp
  ·cases hp
  rename_i a b c;exact⟨Classical.not_not.1 a,by simpa using c⟩
 obtain⟨h3,h4⟩:=h0;simp only[fF,Bool.and_eq_true,decide_eq_true_eq,dh]at h4;refine⟨s1,s2,h1,fun x hx=>?_,h2,s4,h4.1,fun x hx=>⟨s5 x hx, ?_⟩⟩
 ·obtain⟨i,hi,rfl⟩:=sW hx;exact FE (AI h3 i hi) (s3 _ hx)
 ·obtain⟨i,hi,rfl⟩:=sW hx;have:=h4.2 i (by omega) hi;simp only[kp,ub,Bool.and_eq_true,decide_eq_true_eq]at this;exact this.2.1.1
def ju (x:UInt8)(B:Nat):∀l:List ah,(∀t∈l,t.length≤B)→(aG [x] l).length≤l.length*(B+1)
 |[],_=>by simp[aG]
 |[t],h=>by have:=h t (.head _);simp only[aG,List.length_cons,List.length_nil];omega
 |t::u::r,h=>by
  have h1:=h t (.head _);have h2:=ju x B (u::r) fun y hy=>h y (.tail _ hy)
  simp only[aG,List.length_append,List.length_cons,List.length_nil,Nat.succ_mul]at h2⊢;omega
def Bu {w:aT}(h:w.fit):(aG [44] w.feats).length≤6291462:=by
 have h1:=ju 44 1048576 w.feats h.1.2;have h2:=Nat.mul_le_mul_right (1048576+1) h.2.1;omega
def yg {w:aT}(h:w.fit):(aG [44] w.feats).length≤78:=by
 have h1:=ju 44 12 w.feats h.2.2;have h2:=Nat.mul_le_mul_right (12+1) h.2.1;omega
def ji (w:aT):ah:=bz (fX w)
def wX {w:aT}(h:w.fit):(ji w).length≤8400000:=by
 have h1:=Bu h;have h2:=h.1.1;simp only[ji,bz,fX,aG,List.length_append,List.length_cons,List.length_nil];split<;>split<;>simp only[gO,ew,gX,List.length_append,List.length_cons,List.length_nil]<;>omega
def nT {s:ah}(h:s.length≤1048576):(fW s).length≤1048590:=by
 unfold fW;split
 ·simp
 ·simp only[bz,aG,fe,List.length_append,List.length_cons,List.length_nil];omega
def FY {s:ah}(h:s.length≤1048576):(sA s).length≤1048590:=by
 unfold sA;split
 ·simp
 ·simp only[bz,aG,cM,List.length_append,List.length_cons,List.length_nil];omega
def pT {α:Type}(q:α→ah)(B:Nat){l:List α}(h:∀x∈l,(q x).length≤B)(i:Nat):(((l.take i).map q).flatten).length≤i*B:=by
 have h1:=mP q B (l.take i) fun x hx=>h x (List.mem_of_mem_take hx)
 have h2:=Nat.mul_le_mul_right B (List.length_take_le i l);omega
def nI {α:Type} [Inhabited α](q:α→ah){l:List α}{i:Nat}(h:i<l.length):((l.take (i+1)).map q).flatten=((l.take i).map q).flatten++q l[i]! :=by
 rw[List.take_add_one,List.getElem?_eq_getElem h,List.map_append,List.flatten_append];simp[h]
def DG {n:aR}(h:n.fit):(kU n).length≤27400000:=by
 have h1:=mP ji 8400000 n.any fun w hw=>wX (h.1.2 w hw)
 have h2:=Nat.mul_le_mul_right 8400000 h.1.1;have h3:=nT h.2.1;have h4:=FY h.2.2;have h5:(bz [ed]).length=5:=rfl;unfold ji at h1;simp only[kU,List.length_append];omega
def EI {b:ee}(h:b.sm):(qv b).length≤3145800:=by
 have h1:=nT h.2.2;have h2:=h.1;have h3:=h.2.1;simp only[qv,bz,aG,eQ,List.length_append,List.length_cons,List.length_nil];omega
def C0 {x:aU}(h:x.fit):(om x).length≤8400000:=by
 have h1:=ju 32 1048576 ([bD,x.name]++x.of) (by
  intro t ht;simp only[List.cons_append,List.nil_append,List.mem_cons]at ht;rcases ht with rfl|rfl|ht
  ·simp[bD]
  ·exact h.1.1
  ·exact h.1.2.2 _ ht)
 have h2:=h.2;have h3:([bD,x.name]++x.of).length≤8:=by simp only[List.length_append,List.length_cons,List.length_nil];omega
 have h4:=Nat.mul_le_mul_right (1048576+1) h3;simp only[om,bz,List.length_append,List.length_cons,List.length_nil]at h1 h4⊢;omega
def Dh {r:Rec}(h1:r.name.length≤1048576)(h2:r.v.sm):(mX r).length≤3145800:=by
 have h3:=zZ r.v h2;simp only[mX,bz,aG,cT,List.length_append,List.length_cons,List.length_nil];omega
def cy (n:aR)(j:Nat):ah:=bz [ed]++((n.any.take j).map ji).flatten
def lL {n:aR}{j:Nat}(h:j<n.any.length):cy n (j+1)=cy n j++ji n.any[j]! :=by simp only[cy,nI ji h,List.append_assoc]
def DE {n:aR}{j:Nat}(h:n.any.length≤j):kU n=cy n j++fW n.when'++sA n.option:=by
 rw[cy,List.take_of_length_le h];rfl
def DF {n:aR}(h:n.fit)(j:Nat)(hj:j≤3):(cy n j).length≤25200005:=by
 have h1:=pT ji 8400000 (fun w hw=>wX (h.1.2 w hw)) j;have h2:=Nat.mul_le_mul_right 8400000 hj;have h5:(bz [ed]).length=5:=rfl;simp only[cy,List.length_append];omega
def iA (r:Rec)(i:Nat):ah:=mX r++((r.needs.take i).map kU).flatten
def vi (r:Rec)(i:Nat):ah:=iA r r.needs.length++((r.bars.take i).map qv).flatten
def yd (r:Rec)(i:Nat):ah:=vi r r.bars.length++((r.feats.take i).map om).flatten
def Jy (r:Rec):iA r 0=mX r:=by simp[iA]
def Jz (r:Rec):vi r 0=iA r r.needs.length:=by simp[vi]
def JA (r:Rec):yd r 0=vi r r.bars.length:=by simp[yd]
def Cv (r:Rec):yd r r.feats.length=dJ r:=by simp only[yd,vi,iA,List.take_length,dJ]
def ll {r:Rec}{i:Nat}(h:i<r.needs.length):iA r (i+1)=iA r i++kU r.needs[i]! :=by simp only[iA,nI kU h,List.append_assoc]
def GN {r:Rec}{i:Nat}(h:i<r.bars.length):vi r (i+1)=vi r i++qv r.bars[i]! :=by simp only[vi,nI qv h,List.append_assoc]
def GO {r:Rec}{i:Nat}(h:i<r.feats.length):yd r (i+1)=yd r i++om r.feats[i]! :=by simp only[yd,nI om h,List.append_assoc]
def Ct {r:Rec}(h:r.fit)(i:Nat)(hi:i≤r.needs.length):(iA r i).length≤222400000:=by
 have a0:=Dh h.nm h.v;have a1:=pT kU 27400000 (fun x hx=>DG (h.n x hx)) i;have b1:=Nat.mul_le_mul_right 27400000 (Nat.le_trans hi h.ns);simp only[iA,List.length_append];omega
def Cu {r:Rec}(h:r.fit)(i:Nat)(hi:i≤r.bars.length):(vi r i).length≤247600000:=by
 have a0:=Ct h r.needs.length (Nat.le_refl _);have a1:=pT qv 3145800 (fun x hx=>EI (h.b x hx)) i;have b1:=Nat.mul_le_mul_right 3145800 (Nat.le_trans hi h.bs);simp only[vi,List.length_append];omega
def IX {r:Rec}(h:r.fit)(i:Nat)(hi:i≤r.feats.length):(yd r i).length≤314800000:=by
 have a0:=Cu h r.bars.length (Nat.le_refl _);have a1:=pT om 8400000 (fun x hx=>C0 (h.f x hx)) i;have b1:=Nat.mul_le_mul_right 8400000 (Nat.le_trans hi h.fs);simp only[yd,List.length_append];omega
def yE {r:Rec}(h:(cg r).1=0):tY r:=by
 unfold cg at h;split at h
 ·cases h
 split at h
 ·cases h
 split at h
 ·cases h
 rename_i a b c;split at h
 ·rename_i d;exact absurd h d
 rename_i d;exact⟨⟨by simpa using a,by simpa using b⟩,⟨by omega,by omega⟩,F7 (Classical.not_not.1 d)⟩
end Go.Abs
