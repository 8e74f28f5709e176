/- A part of the proofs of the statements: AbsZ, LAsmG, LAsmR, RData, LPlain1, LPlain2, LPlain3, RSpec1, RSpec2, RSpec3, RSpec4, RSpec5, RSpec6, RPrs, RSpec7, RSpec8, RSpec9, RSpec10, RSpec11. -/
import Derived.Test.YtpdlhpamcaocgaaGreatDoorP04
set_option linter.all false
set_option maxRecDepth 4000
section
namespace Go.Abs
variable [bU]
section
variable {P:Program} {ν:List (Nat×Nat)} {bA:List Nat} {Γ:Ctx}
def RD.re {x x':X}{σ:List (Nat×Nat)}(hw:x'.w=x.w)(hI:x'.I=x.I)(hβ:∀l l',kG 0 σ l=some l'→x'.β l'=x.β l){v:Value}{d d':D}(hv:RD ν x v d)(hd:Hb 0 σ d d'):RD ν x' v d':=by
 rcases hd with⟨rfl,hn⟩|hd|hd
 ·exact hv.aK hn (fun _ h=>by rw[hI];exact h) (fun _ _=>by rw[hw])
 ·exact RD.rn (x:=x) (x':=x') hw hI hβ hv _ hd
 ·exact RD.nl (x:=x) (x':=x') hw hI hv _ hd
def kt.re {x x':X}{σ:List (Nat×Nat)}(hw:x'.w=x.w)(hI:x'.I=x.I)(hβ:∀l l',kG 0 σ l=some l'→x'.β l'=x.β l){b base tot:Nat}{b0 blk:aV}(o2:kt ν x b base tot b0)(q3:n9 0 σ b0 blk):kt ν x' b base tot blk:=by
 cases b0 with
 |iter s p=>
  cases blk with
  |iter s' p'=>simp only[n9]at q3;obtain⟨rfl,rfl⟩:=q3;simp only[kt,hw]at o2⊢;exact o2
  |_=>simp[n9]at q3
 |row s=>
  cases blk with
  |row s'=>simp only[n9]at q3;subst q3;simp only[kt,hw]at o2⊢;exact o2
  |_=>simp[n9]at q3
 |bld o n u=>
  cases blk with
  |bld o' n' u'=>
   simp only[n9]at q3;obtain⟨q3,rfl,rfl⟩:=q3;obtain⟨p1,v,p2,p3⟩:=o2;refine⟨p1,v,by rw[hw];exact p2, ?_⟩;cases o with
   |none=>simp only at q3;subst q3;exact p3
   |some l0=>
    obtain⟨l1,q4,rfl⟩:=q3;obtain⟨g,t,p4,p5,p6⟩:=p3;exact⟨g,t,p4,p5,by rw[hβ l0 l1 q4];exact p6⟩
  |_=>simp[n9]at q3
 |buf k es=>
  cases blk with
  |iter s' p'=>simp[n9]at q3
  |row s'=>simp[n9]at q3
  |bld o' n' u'=>simp[n9]at q3
  |buf k' es'=>
   simp only[n9]at q3;obtain⟨rfl,q3⟩:=q3;obtain⟨p1,p2,cc,T,fr,p3,p4,p5,p6⟩:=o2;rw[←hw]at p3;rcases q3 with⟨rfl,hn⟩|q3|q3
   ·exact⟨p1,p2,cc,T,fr,p3,p4,p5,fun i hi=>⟨(p6 i hi).1,fun j hj=>⟨((p6 i hi).2 j hj).1,RD.re hw hI hβ ((p6 i hi).2 j hj).2 (.inl ⟨rfl,iA (bS hn i) j⟩)⟩⟩⟩
   ·obtain⟨r1,r2⟩:=iX q3;refine⟨p1,by omega,cc,T,fr,p3,p4,p5,fun i hi=>?_⟩;have hi':i<es.length:=by omega
    obtain⟨s1,s2⟩:=wB (r2 i hi');exact⟨s1.trans (p6 i hi').1,fun j hj=>⟨((p6 i hi').2 j hj).1,RD.re hw hI hβ ((p6 i hi').2 j hj).2 (.inr (.inl (s2 j (by rw[(p6 i hi').1];exact hj))))⟩⟩
   ·obtain⟨r1,r2⟩:=mA q3;refine⟨p1,by omega,cc,T,fr,p3,p4,p5,fun i hi=>?_⟩;have hi':i<es.length:=by omega
    obtain⟨s1,s2⟩:=vF (r2 i hi');exact⟨s1.trans (p6 i hi').1,fun j hj=>⟨((p6 i hi').2 j hj).1,RD.re hw hI hβ ((p6 i hi').2 j hj).2 (.inr (.inr (s2 j (by rw[(p6 i hi').1];exact hj))))⟩⟩
def Cm {lo c:Nat}{σ:List (Nat×Nat)}{l l':Nat}(h0:eW 0 c σ=true)(h:kG 0 σ l=some l'):l'<c∧(l,l')∈σ:=by
 obtain⟨h1,h2⟩:=qd h0 h;rcases h2 with⟨h2,_⟩|⟨_,h2⟩
 ·omega
 ·exact⟨h1,h2⟩
def pZ {c:Nat}:∀{σ:List (Nat×Nat)}{a b:Nat},eW 0 c σ=true→(a,b)∈σ→kG 0 σ a=some b
 |[],a,b,_,h=>by cases h
 |(a0,b0)::r,a,b,h0,h=>by
  unfold kG;simp only[eW,Bool.and_eq_true,List.all_eq_true,Bool.not_eq_true']at h0;obtain⟨_,_,p4,p5⟩:=h0;rcases List.mem_cons.1 h with h|h
  ·simp only[Prod.mk.injEq]at h;obtain⟨rfl,rfl⟩:=h;simp
  ·have:=(p4 _ h).1;simp only at this;have hne:Nat.beq a0 a=false:=by
    cases hb:Nat.beq a0 a with
    |false=>rfl
    |true=>obtain rfl:=Nat.eq_of_beq_eq_true hb;simp at this
   rw[hne];exact pZ p5 h
structure Fr (σi σo:List (Nat×Nat))(q q1:Nat)(m0 m1:List (Nat×aV))(st st':St):Prop where
 oki:eW 0 q σi=true
 oko:eW 0 st'.nx σo=true
 nx:st.nx≤st'.nx
 lt:∀l i,(l,i)∈σi→look st.m l≠none
 io:∀i l,(i,l)∈σo→(l,i)∈σi∨st.nx≤l
 m0:∀i b,look m0 i=some b→∃l b',(l,i)∈σi∧look st.m l=some b'∧n9 0 σi b' b
 m1:∀l b,look st'.m l=some b→(∃i b1,(i,l)∈σo∧look m1 i=some b1∧n9 0 σo b1 b)∨(jU σo l=none∧(∀i,(l,i)∉σi)∧look st.m l=some b)
def HO {fid:Nat}{fn:Func}{af:aB}{K:D→St→Prop}(hΓ:Ok P ν bA Γ)(hmix:P.follows .mixedOrders=true)(hf:P.funcs[fid]? =some fn)(hc:compile P ν bA fn=some af)
  {x:X} {args:Array Value} {ds cs:List D} {st:St} {σi:List (Nat×Nat)} {q:Nat} {m0:List (Nat×aV)} (hl:args.size=ds.length) (hargs:∀i,i<ds.length→RD ν x (args.getD i undef) (ds.getD i .any))
  (hs:dz ν x (look st.m)) (hfr:du st x) (hlen:cs.length=ds.length) (hds:∀i,i<ds.length→Hb 0 σi (ds.getD i .any) (cs.getD i .any)) (hnp:cs.length=af.np)
  (oki:eW 0 q σi=true) (hlt:∀l i,(l,i)∈σi→look st.m l≠none) (hm0:∀i b,look m0 i=some b→∃l b',(l,i)∈σi∧look st.m l=some b'∧n9 0 σi b' b)
  (hw:bB (Γ.at q) af.body (fun e env st1=>e.home∧mn st1.m env af.res∧∃(σo:List (Nat×Nat)) (q1:Nat) (m1:List (Nat×aV)) (st':St) (vd':D),Fr σi σo q q1 m0 m1 st st'∧Hb 0 σo (iF af env st1) vd'∧K vd' st'∧∀i,look st1.m i=look m1 i) (eL af cs) ⟨q,m0⟩):
  Calls P fid args x.w fun
   | .returned v,w'=>∃x' d st',K d st'∧x'.w=w'∧Step x x'∧RD ν x' v d∧dz ν x' (look st'.m)∧du st' x'
   |_,_=>False:=by
 obtain⟨body,c1,c2,c3,c4,c5,c6⟩:=eY hc
 let x0:X:=⟨x.w,x.I,fun i=>(jU σi i).bind x.β⟩
 have hx0:∀l i,(l,i)∈σi→x0.β i=x.β l:=fun l i h=>by simp only[x0,sT oki h,Option.bind_some]
 have hβ0:∀l i,kG 0 σi l=some i→x0.β i=x.β l:=fun l i h=>hx0 l i (Cm (lo:=0) oki h).2
 have hx0':∀i p,x0.β i=some p→∃l,(l,i)∈σi∧x.β l=some p∧i<q:=by
  intro i p h;obtain⟨l,h1,h2⟩:=Option.bind_eq_some_iff.1 (show(jU σi i).bind x.β=some p from h);exact⟨l,iR h1,h2,nA oki (iR h1)⟩
 have hs0:dz ν x0 (look m0):=by
  refine⟨fun i blk b base tot e1 e2=>?_,fun i j b base tot base' tot' e1 e2 e3 e4=>?_,hs.imm,fun i b base tot e=>?_,bU.le x _ (fun _ h=>h) (fun _ _=>rfl) hs.gd⟩
  ·obtain⟨l,b',h1,h2,h3⟩:=hm0 i blk e1;rw[hx0 l i h1]at e2;obtain⟨o1,o2⟩:=hs.own l b' b base tot h2 e2;exact⟨o1,kt.re (x:=x) (x':=x0) rfl rfl hβ0 o2 h3⟩
  ·obtain⟨l,h1,h2,_⟩:=hx0' i _ e3;obtain⟨l',h1',h2',_⟩:=hx0' j _ e4;have:=hs.inj l l' b base tot base' tot' (hlt _ _ h1) (hlt _ _ h1') h2 h2';subst this;have:=pZ oki h1;rw[pZ oki h1']at this;exact(Option.some.inj this).symm
  ·obtain⟨l,_,h2,_⟩:=hx0' i _ e;exact hs.cM l b base tot h2
 have hf0:du ⟨q,m0⟩ x0:=by
  refine⟨fun i hi=>?_,fun i hi=>?_⟩
  ·cases h:x0.β i with
   |none=>rfl
   |some p=>obtain⟨_,_,_,h4⟩:=hx0' i p h;simp only at hi;omega
  ·cases h:look m0 i with
   |none=>exact absurd h hi
   |some b=>obtain⟨l,b',h1,_⟩:=hm0 i b h;exact nA oki h1
 have hi:=rp (P:=P) (ν:=ν) (bA:=bA) (x:=x0) (ds:=cs) (st:=⟨q,m0⟩) c4 c5 c6 (args:=args) (by omega) hnp (fun i hi=>RD.re (x:=x) (x':=x0) rfl rfl hβ0 (hargs i (by omega)) (hds i (by omega))) hs0 hf0;have hcs:=oF (C:={P,ν,bA,slots:=slotsOf fn,ntmps:=fn.ntmps,vm:=Ed P fn}) (hΓ.at q) (ko fn).1 hmix x0 (fun l h=>hf0.β l h) body af.body c2 _ _ _ _ x0 hw hi (.refl _);refine calls_of_wp hf c1 (wp_mono hcs fun e a w' hp=>?_);obtain⟨e',x',env',st1,he,hxw,hst,hi',hh,hro,σo,q1,m1,st',vd',hfm,hvd,hK,hlk⟩:=hp;subst hxw;obtain⟨v,r1,r2,r3⟩:=nq hi' c3 hro
 let x2:X:=⟨x'.w,x'.I,fun l=>match jU σo l with|some i=>x'.β i|none=>x.β l⟩
 have hx2:∀i l,(i,l)∈σo→x2.β l=x'.β i:=fun i l h=>by simp only[x2,sT hfm.oko h]
 have hx2n:∀l,jU σo l=none→x2.β l=x.β l:=fun l h=>by simp only[x2,h]
 have hβ2:∀i l,kG 0 σo i=some l→x2.β l=x'.β i:=fun i l h=>hx2 i l (Cm (lo:=0) hfm.oko h).2
 have hx0s:∀l i p,(l,i)∈σi→x.β l=some p→x'.β i=some p:=fun l i p h e=>hst.β _ _ (by rw[hx0 l i h];exact e)

 have hnew:∀i p,x'.β i=some p→(∃l,(l,i)∈σi∧x.β l=some p)∨x.w.heap.size≤p.1∨∃l p',(∃j,(l,j)∈σi)∧x.β l=some p'∧p'.1=p.1:=by
  intro i p e;rcases hst.newβ i p e with h|h|⟨j,p',h1,h2⟩
  ·obtain⟨l,h3,h4,_⟩:=hx0' i p h;exact .inl ⟨l,h3,h4⟩
  ·exact .inr (.inl h)
  ·obtain⟨l,h3,h4,_⟩:=hx0' j p' h1;exact .inr (.inr ⟨l,p',⟨j,h3⟩,h4,h2⟩)
 have hstep:Step x x2:=by
  refine⟨hst.os,hst.tape,hst.output,hst.size,hst.I,hst.lJ,fun l p hp=>?_,fun b hb hn=>hst.old b hb fun i p h e=>?_,fun b h=>?_,fun l p h=>?_⟩
  ·cases h:jU σo l with
   |none=>rw[hx2n l h];exact hp
   |some i=>
    have hm:=iR h;rw[hx2 i l hm];rcases hfm.io i l hm with h2|h2
    ·exact hx0s l i p h2 hp
    ·rw[hfr.β l h2]at hp;cases hp
  ·obtain⟨l,_,h2,_⟩:=hx0' i p h;exact hn l p h2 e
  ·rcases hst.newI b h with h|h|⟨i,p,h1,h2⟩
   ·exact .inl h
   ·exact .inr (.inl h)
   ·obtain⟨l,_,h3,_⟩:=hx0' i p h1;exact .inr (.inr ⟨l,p,h3,h2⟩)
  ·cases h1:jU σo l with
   |none=>rw[hx2n l h1]at h;exact .inl h
   |some i=>
    have hm:=iR h1;rw[hx2 i l hm]at h;rcases hnew i p h with⟨l',h2,h3⟩|h2|⟨l',p',_,h3,h4⟩
    ·exact .inr (.inr ⟨l',p,h3,rfl⟩)
    ·exact .inr (.inl h2)
    ·exact .inr (.inr ⟨l',p',h3,h4⟩)
 have hsim:dz ν x2 (look st'.m):=by
  refine⟨fun l blk b base tot e1 e2=>?_,fun l1 l2 b base tot base' tot' e1 e2 e3 e4=>?_,hi'.j9.imm,fun l b base tot e=>?_,bU.le x' _ (fun _ h=>h) (fun _ _=>rfl) hi'.j9.gd⟩
  ·rcases hfm.m1 l blk e1 with⟨i,b1,h1,h2,h3⟩|⟨h1,h2,h3⟩
   ·rw[hx2 i l h1]at e2;obtain⟨o1,o2⟩:=hi'.j9.own i b1 b base tot (by rw[hlk];exact h2) e2;exact⟨o1,kt.re (x:=x') (x':=x2) rfl rfl hβ2 o2 h3⟩
   ·rw[hx2n l h1]at e2;obtain⟨o1,o2⟩:=hs.own l blk b base tot h3 e2;have hlt:=hs.cM l b base tot e2;have hno:∀i p,x0.β i=some p→p.1≠b:=by
     rintro i ⟨b',base',tot'⟩ h e;simp only at e;subst e;obtain⟨l',h4,h5,_⟩:=hx0' i _ h;have:=hs.inj l' l b' base' tot' base tot (hfm.lt _ _ h4) (by rw[h3];simp) h5 e2;subst this;exact h2 _ h4
    refine⟨fun h=>?_,o2.mono hstep.le (hst.old b hlt hno)⟩;rcases hst.newI b h with h|h|⟨i,p,h4,h5⟩
    ·exact o1 h
    ·exact absurd hlt (Nat.not_lt.2 h)
    ·exact hno i p h4 h5
  ·have mix:∀l1 l2 base tot base' tot',(∃i b1,(i,l1)∈σo∧look m1 i=some b1)→jU σo l2=none→(∀i,(l2,i)∉σi)→look st.m l2≠none→x2.β l1=some (b,base,tot)→x2.β l2=some (b,base',tot')→False:=by
    rintro l1 l2 base tot base' tot' ⟨i,b1,h1,h2⟩ h3 h4 h5 e3 e4;rw[hx2 i l1 h1]at e3;rw[hx2n l2 h3]at e4;rcases hnew i _ e3 with⟨l',h6,h7⟩|h6|⟨l',⟨pb,pt,pq⟩,⟨j,h6⟩,h7,h8⟩
    ·have:=hs.inj l' l2 b base tot base' tot' (hfm.lt _ _ h6) h5 h7 e4;subst this;exact h4 _ h6
    ·have:=hs.cM l2 b base' tot' e4;simp only at h6;omega
    ·simp only at h8;subst h8;have:=hs.inj l' l2 pb pt pq base' tot' (hfm.lt _ _ h6) h5 h7 e4;subst this;exact h4 _ h6
   cases f1:look st'.m l1 with
   |none=>exact absurd f1 e1
   |some b1=>
    cases f2:look st'.m l2 with
    |none=>exact absurd f2 e2
    |some b2=>
     rcases hfm.m1 l1 b1 f1 with⟨i,c1,h1,h2,_⟩|⟨h1,h2,h3⟩<;>rcases hfm.m1 l2 b2 f2 with⟨j,c2,k1,k2,_⟩|⟨k1,k2,k3⟩
     ·rw[hx2 i l1 h1]at e3;rw[hx2 j l2 k1]at e4;have:=hi'.j9.inj i j b base tot base' tot' (by rw[hlk,h2];simp) (by rw[hlk,k2];simp) e3 e4;subst this;have:=pZ hfm.oko h1;rw[pZ hfm.oko k1]at this;exact(Option.some.inj this).symm
     ·exact(mix l1 l2 base tot base' tot' ⟨i,c1,h1,h2⟩ k1 k2 (by rw[k3];simp) e3 e4).elim
     ·exact(mix l2 l1 base' tot' base tot ⟨j,c2,k1,k2⟩ h1 h2 (by rw[h3];simp) e4 e3).elim
     ·rw[hx2n l1 h1]at e3;rw[hx2n l2 k1]at e4;exact hs.inj l1 l2 b base tot base' tot' (by rw[h3];simp) (by rw[k3];simp) e3 e4
  ·cases h1:jU σo l with
   |none=>rw[hx2n l h1]at e;exact Nat.lt_of_lt_of_le (hs.cM l b base tot e) hst.size
   |some i=>
    rw[hx2 i l (iR h1)]at e;exact hi'.j9.cM i b base tot e
 have hfr2:du st' x2:=by
  refine⟨fun l hl=>?_,fun l hl=>?_⟩
  ·cases h1:jU σo l with
   |none=>rw[hx2n l h1];exact hfr.β l (by have:=hfm.nx;omega)
   |some i=>have:=nA hfm.oko (iR h1);omega
  ·cases f1:look st'.m l with
   |none=>exact absurd f1 hl
   |some b1=>
    rcases hfm.m1 l b1 f1 with⟨i,c1,h1,_⟩|⟨_,_,h3⟩
    ·exact nA hfm.oko h1
    ·have:=hfr.m l (by rw[h3];simp);have:=hfm.nx;omega
 have hrd:=RD.re (ν:=ν) (x:=x') (x':=x2) rfl rfl hβ2 r2 hvd;rcases Ex.xP hh with h|h<;>rw[h]at he<;>subst he<;>exact⟨hi'.defers,v,r1,x2,vd',st',hK,rfl,hstep,hrd,hsim,hfr2⟩
end
end Go.Abs
end
section
namespace Go.Abs
structure NA where
 tr:List D→St→(D→St→Prop)→Prop
 mu:List D→St→Nat
 mono:∀(ds:List D) (st:St) (K K':D→St→Prop),(∀d st',K d st'→K' d st')→tr ds st K→tr ds st K'
def NA.no:NA:=⟨fun _ _ _=>False,fun _ _=>0,fun _ _ _ _ _ h=>h⟩
def ov (af:aB)(Q:D→List (Nat×aV)→Prop):Ex→List aW→St→Prop:=fun e env st=>e.home∧mn st.m env af.res∧∃m1,(∀i,look st.m i=look m1 i)∧Q (iF af env st) m1
def ei {af:aB}{Q:D→List (Nat×aV)→Prop}{vd:D}{m1:List (Nat×aV)}{e:Ex}{env:List aW}{st:St}(h1:e.home)(h2:mn st.m env af.res)(h3:iF af env st=vd)(h4:st.m=m1)(h5:Q vd m1):ov af Q e env st:=⟨h1,h2,m1,fun i=>by rw[h4],by rw[h3];exact h5⟩
def One (vd:D)(m1:List (Nat×aV)):D→List (Nat×aV)→Prop:=fun d m=>d=vd∧m=m1
def oneq (vd:D)(m1:List (Nat×aV)):One vd m1 vd m1:=⟨rfl,rfl⟩
section
variable [bU] {P:Program} {ν:List (Nat×Nat)} {bA:List Nat} {Γ:Ctx}
def ED (P:Program)(ν:List (Nat×Nat))(Γ':Ctx)(bA:List Nat)(tr:List D→St→(D→St→Prop)→Prop)(fid:Nat):Prop:=
 ∀(ds:List D) (st:St) (K:D→St→Prop),tr ds st K→Ok P ν bA Γ'→∀(x:X) (args:Array Value),args.size=ds.length→(∀i,i<ds.length→RD ν x (args.getD i undef) (ds.getD i .any))→dz ν x (look st.m)→du st x→
  fK P x (fun v x'=>∃d st',K d st'∧Step x x'∧RD ν x' v d∧dz ν x' (look st'.m)∧du st' x') ((callFunc fid args).run P x.w)
end
end Go.Abs
end
section
namespace Go.Abs
abbrev RT:=List D→D→Prop
abbrev FT:=D→List D→D→D→Prop
abbrev TT:=List D→St→(D→St→Prop)→Prop
def yo (T:TT):Prop:=∀ds st K K',(∀d st',K d st'→K' d st')→T ds st K→T ds st K'
def xM (A:RT→Prop):RT:=fun ds d=>∀T,A T→T ds d
def kD (A:FT→Prop):FT:=fun d ds v s=>∀T,A T→T d ds v s
def GU (T:TT):Ctx:=⟨fun _ _=>False,fun _ _=>.any,fun _=>T,fun _ _ _=>False,fun _ _ _=>.any,fun _ _ _=>.any,0⟩
def A0 (C:Ctx→Prop):TT:=fun ds st K=>∀T,yo T→C (GU T)→T ds st K
def rQ (C:Ctx→Prop):yo (A0 C):=fun _ _ _ _ h h1 T hT hC=>hT _ _ _ _ h (h1 T hT hC)
def noR:RT:=fun _ _=>False
def NQ:FT:=fun _ _ _ _=>False
def noT:TT:=fun _ _ _=>False
def uo:yo noT:=fun _ _ _ _ _ h=>h.elim
structure n4 where
 key:Nat
 rel:RT
 mu:List D→Nat
 relF:FT
 tr:TT
 muE:List D→St→Nat
 mono:yo tr
def NP:List D→Nat:=fun _=>0
def FE:List D→St→Nat:=fun _ _=>0
def j4:n4:=⟨0,noR,NP,NQ,noT,FE,uo⟩
def rP (k:Nat)(A:RT→Prop)(mu:List D→Nat:=NP):n4:=⟨k,xM A,mu,NQ,noT,FE,uo⟩
def rF (k:Nat)(A:FT→Prop):n4:=⟨k,noR,NP,kD A,noT,FE,uo⟩
def rG (k:Nat)(C:Ctx→Prop)(mu:List D→St→Nat:=FE):n4:=⟨k,noR,NP,NQ,A0 C,mu,rQ C⟩
def rFG (k:Nat)(A:FT→Prop)(C:Ctx→Prop):n4:=⟨k,noR,NP,kD A,A0 C,FE,rQ C⟩
noncomputable def pick (r:D→Prop):D:=Classical.epsilon r
def iB {r:D→Prop}(h:∃d,r d):r (pick r):=Classical.epsilon_spec h
def M0 (R:RT):Prop:=∀ds d d',R ds d→R ds d'→d=d'
def tk (R:FT):Prop:=∀d ds v s v' s',R d ds v s→R d ds v' s'→v=v'∧s=s'
def Kz {A:RT→Prop}(h:A fun ds d=>A fun ds' d'=>ds'=ds→d=d'):M0 (xM A):=fun ds d d' h1 h2=>h2 _ (h1 _ h) rfl
def HI {A:FT→Prop}(h:A fun d ds v s=>A fun d' ds' v' s'=>d'=d→ds'=ds→v=v'∧s=s'):tk (kD A):=fun d ds v s v' s' h1 h2=>h2 _ (h1 _ h) rfl rfl
noncomputable def vl (t:List (Nat×n4)):Ctx where
 pre n ds:=∃d,(lk t n j4).rel ds d
 val n ds:=pick ((lk t n j4).rel ds)
 tr n:=(lk t n j4).tr
 fp n d ds:=∃v s,(lk t n j4).relF d ds v s
 fv n d ds:=pick fun v=>∃s,(lk t n j4).relF d ds v s
 fs n d ds:=pick fun s=>∃v,(lk t n j4).relF d ds v s
 lo:=0
def GC (t:List (Nat×n4)):Km:=⟨fun n=>(lk t n j4).key,fun n=>(lk t n j4).mu,fun n=>(lk t n j4).muE⟩
noncomputable abbrev under (t:List (Nat×n4))(k u:Nat):Ctx:=(vl t).under (GC t) k u
def aO (t:List (Nat×n4))(k u n:Nat):(((vl t).under (GC t) k u).at n).br:=
 fun f ds st K K' h hh=>⟨hh.1,(lk t f j4).mono ds st K K' h hh.2⟩
section
variable {t:List (Nat×n4)} {n k u:Nat} {ds:List D} {d v s:D} {st:St} {K:D→St→Prop}
def dL (hD:M0 (lk t n j4).rel)(hk:(lk t n j4).key<k∨(lk t n j4).key=k∧(lk t n j4).mu ds<u)(h:(lk t n j4).rel ds d):(under t k u).pre n ds∧(under t k u).val n ds=d:=
 ⟨⟨hk,d,h⟩,hD _ _ _ (iB ⟨d,h⟩) h⟩
def okf (hD:tk (lk t n j4).relF)(hk:(lk t n j4).key<k)(h:(lk t n j4).relF d ds v s):(under t k u).fp n d ds∧(under t k u).fv n d ds=v∧(under t k u).fs n d ds=s:=by
 refine⟨⟨.inl hk,v,s,h⟩, ?_, ?_⟩
 ·obtain⟨s',h'⟩:=iB (r:=fun v=>∃s,(lk t n j4).relF d ds v s) ⟨v,s,h⟩;exact(hD _ _ _ _ _ _ h' h).1
 ·obtain⟨v',h'⟩:=iB (r:=fun s=>∃v,(lk t n j4).relF d ds v s) ⟨s,v,h⟩;exact(hD _ _ _ _ _ _ h' h).2
def Bb (hk:(lk t n j4).key<k∨(lk t n j4).key=k∧(lk t n j4).muE ds st<u)(h:(lk t n j4).tr ds st K):(under t k u).tr n ds st K:=⟨hk,h⟩
end
section
variable [bU] {P:Program} {ν:List (Nat×Nat)} {bA:List Nat} {Γ:Ctx} {t:List (Nat×n4)} {fid n key:Nat}
def BD (P:Program)(ν:List (Nat×Nat))(bA:List Nat)(Γ:Ctx)(fid:Nat)(ds:List D)(d:D):Prop:=Ok P ν bA Γ→∀(x:X)(args:Array Value),args.size=ds.length→(∀i,i<ds.length→RD ν x (args.getD i undef) (ds.getD i .any))→aH ds=true→
  (∀b,x.I b→b<x.w.heap.size)→bU.gd x→fK P x (fun v x'=>jN x x'∧RD ν x' v d) ((callFunc fid args).run P x.w)
def vE (P:Program)(ν:List (Nat×Nat))(bA:List Nat)(Γ:Ctx)(fid:Nat)(d:D)(ds:List D)(vd new:D):Prop:=Ok P ν bA Γ→∀(x:X)(f:Nat→Option aV)(args:Array Value)(l k:Nat),args.size=ds.length+1→
   RD ν x (args.getD 0 undef) (.ptr l k 0 0)→(∀i,i<ds.length→RD ν x (args.getD (i+1) undef) (ds.getD i .any))→dz ν x f→f l=some (.buf k [d])→d.aK=true→aH ds=true→
   fK P x (fun v x'=>Step x x'∧RD ν x' v vd∧dz ν x' (fun l'=>if l'=l then some (.buf k [new])else f l')∧x'.β=x.β) ((callFunc fid args).run P x.w)
def mz (P:Program)(ν:List (Nat×Nat))(bA:List Nat)(Γ:Ctx)(fid:Nat)(ds:List D)(st:St)(K:D→St→Prop):Prop:=Ok P ν bA Γ→∀(x:X)(args:Array Value),args.size=ds.length→(∀i,i<ds.length→RD ν x (args.getD i undef) (ds.getD i .any))→dz ν x (look st.m)→du st x→
  fK P x (fun v x'=>∃d st',K d st'∧Step x x'∧RD ν x' v d∧dz ν x' (look st'.m)∧du st' x') ((callFunc fid args).run P x.w)
structure LN (P:Program)(ν:List (Nat×Nat))(bA:List Nat)(t:List (Nat×n4))(fid n:Nat):Prop where
 p:∀ds d,(lk t n j4).rel ds d→BD P ν bA (under t (lk t n j4).key ((lk t n j4).mu ds)) fid ds d
 f:tk (lk t n j4).relF∧∀d ds v s,(lk t n j4).relF d ds v s→vE P ν bA (under t (lk t n j4).key ((lk t n j4).mu (d::ds))) fid d ds v s
 g:∀ds st K,(lk t n j4).tr ds st K→mz P ν bA (under t (lk t n j4).key ((lk t n j4).muE ds st)) fid ds st K
def okA (hsm:∀fid n,c9 ν fid=some n→n<1000000)(hB:∀t,bA.contains (1000000000+t)=true→t=bU.tB)(h:∀fid n,c9 ν fid=some n→LN P ν bA t fid n):Ok P ν bA (vl t):=by
 refine NR (GC t) hsm hB (fun fid n hn ds hp hok=>(h fid n hn).p ds _ (iB hp) hok) (fun fid n hn _ d ds hp hok=>?_) (fun fid n hn ds st K htr hok=>(h fid n hn).g ds st K htr hok);obtain⟨v,s,hr⟩:=hp;obtain⟨hD,hf⟩:=(h fid n hn).f;have h2:(vl t).fv n d ds=v∧(vl t).fs n d ds=s:=by
  constructor
  ·obtain⟨s',h'⟩:=iB (r:=fun v=>∃s,(lk t n j4).relF d ds v s) ⟨v,s,hr⟩;exact(hD _ _ _ _ _ _ h' hr).1
  ·obtain⟨v',h'⟩:=iB (r:=fun s=>∃v,(lk t n j4).relF d ds v s) ⟨s,v,hr⟩;exact(hD _ _ _ _ _ _ h' hr).2
 rw[h2.1,h2.2];exact hf d ds v s hr hok
def Ca {Γ:D→List D→Ctx}:tk NQ∧∀d ds v s,NQ d ds v s→vE P ν bA (Γ d ds) fid d ds v s:=⟨fun _ _ _ _ _ _ h=>h.elim,fun _ _ _ _ h=>h.elim⟩
def bH {A:RT→Prop}{mu:List D→Nat}(hr:lk t n j4=rP key A mu)(h:A fun ds d=>BD P ν bA (under t key (mu ds)) fid ds d):LN P ν bA t fid n:=by
 refine⟨?_, ?_, ?_⟩<;>rw[hr]
 ·exact fun ds d hd=>hd (fun ds d=>BD P ν bA (under t key (mu ds)) fid ds d) h
 ·exact Ca
 ·exact fun _ _ _ h=>h.elim
def K8 {A:FT→Prop}(hr:lk t n j4=rF key A)(hD:tk (kD A))(h:A fun d ds v s=>vE P ν bA (under t key 0) fid d ds v s):LN P ν bA t fid n:=by
 refine⟨?_, ?_, ?_⟩<;>rw[hr]
 ·exact fun _ _ h=>h.elim
 ·exact⟨hD,fun d ds v s hd=>hd _ h⟩
 ·exact fun _ _ _ h=>h.elim
def vZ {Γ:List D→St→Ctx}:yo fun ds st K=>mz P ν bA (Γ ds st) fid ds st K:=fun ds st K K' h hg hok x args hl ha hs hf=>(hg hok x args hl ha hs hf).mono fun v x' ⟨d,st',h1,h2⟩=>⟨d,st',h _ _ h1,h2⟩
def sA {C:Ctx→Prop}{mu:List D→St→Nat}(hr:lk t n j4=rG key C mu)(h:C (GU fun ds st K=>mz P ν bA (under t key (mu ds st)) fid ds st K)):LN P ν bA t fid n:=by
 refine⟨?_, ?_, ?_⟩<;>rw[hr]
 ·exact fun _ _ h=>h.elim
 ·exact Ca
 ·exact fun ds st K hd=>hd (fun ds st K=>mz P ν bA (under t key (mu ds st)) fid ds st K) vZ h
def NS {A:FT→Prop}{C:Ctx→Prop}(hr:lk t n j4=rFG key A C)(hD:tk (kD A))(h:A fun d ds v s=>vE P ν bA (under t key 0) fid d ds v s)(h2:C (GU fun ds st K=>mz P ν bA (under t key 0) fid ds st K)):LN P ν bA t fid n:=by
 refine⟨?_, ?_, ?_⟩<;>rw[hr]
 ·exact fun _ _ h=>h.elim
 ·exact⟨hD,fun d ds v s hd=>hd _ h⟩
 ·exact fun ds st K hd=>hd _ vZ h2
def Ez (P:Program)(ν:List (Nat×Nat))(bA:List Nat)(fid:Nat)(af:aB):Prop:=(P.funcs[fid]?).map (fun f=>(compile P ν bA f,f.name== "runtime.NumGoroutine"))=some (some af,false)
def Ez.split {af:aB}(h:Ez P ν bA fid af):∃fn,P.funcs[fid]? =some fn∧compile P ν bA fn=some af∧(fn.name== "runtime.NumGoroutine")=false:=by
 unfold Ez at h;cases hf:P.funcs[fid]? with
 |none=>rw[hf]at h;cases h
 |some fn=>
  rw[hf]at h;have h2:=Option.some.inj h;exact⟨fn,rfl,congrArg Prod.fst h2,congrArg Prod.snd h2⟩
def aX {af:aB}{ds:List D}{d:D}(hmix:P.follows .mixedOrders=true)(hC:Ez P ν bA fid af)(h1:ds.length=af.np)(h2:bB (Γ.at 0) af.body (Kn af d) (eL af ds) ⟨0,[]⟩):BD P ν bA Γ fid ds d:=by
 intro hok x args hl hargs hnl himm hgd;obtain⟨fn,hf,hc,hn⟩:=hC.split;obtain⟨body,c1,_⟩:=eY hc;exact .inr ⟨fid,args,eI hf hn (by rw[c1];rfl) args x.w,HP hok hmix hf hc hl hargs hnl himm hgd h1 h2⟩
def y5 {af:aB}{d:D}{ds:List D}{vd new:D}(k0:Nat)(hmix:P.follows .mixedOrders=true)(hC:Ez P ν bA fid af)(h1:ds.length+1=af.np)(hk:d.cells.length=k0)
  (h2:bB (Γ.at 1) af.body (CL af k0 vd new) (eL af (.ptr 0 k0 0 0::ds)) ⟨1,[(0,.buf k0 [d])]⟩):vE P ν bA Γ fid d ds vd new:=by
 intro hok x f args l k hl h0 hargs hs hfl hd hnl;obtain⟨fn,hf,hc,hn⟩:=hC.split;obtain⟨body,c1,_⟩:=eY hc;have hkk:k=k0:=by
  generalize args.getD 0 undef=v0 at h0;cases h0 with
  |ptr _ _ _ _ b base tot at_ hβ hat=>
   obtain⟨p1,p2,c,T,fr,p3,p4,p5,p6⟩:=(hs.own l _ b base tot hfl hβ).2;have:=(p6 0 (by simp)).1;simp only[List.getD_cons_zero]at this;omega
 subst hkk;exact .inr ⟨fid,args,eI hf hn (by rw[c1];rfl) args x.w,HN hok hmix hf hc hl h0 hargs hs hfl hd hnl h1 h2⟩
def HX {k l:Nat}{d:D}{ds:List D}{vd new:D}{st:St}{K:D→St→Prop}(h:vE P ν bA Γ fid d ds vd new)(hl:look st.m l=some (.buf k [d]))(hd:d.aK=true)(hnl:aH ds=true)(hK:K vd ⟨st.nx,bR st.m l (.buf k [new])⟩):
  mz P ν bA Γ fid (.ptr l k 0 0::ds) st K:=by
 intro hok x args hl2 hargs hs hf;refine(h hok x (look st.m) args l k (by simpa using hl2) (hargs 0 (by simp)) (fun i hi=>hargs (i+1) (by simpa using hi)) hs hl hd hnl).mono ?_;rintro v x' ⟨h1,h2,h3,h4⟩;have e:(fun l'=>if l'=l then some (.buf k [new])else look st.m l')=look (bR st.m l (.buf k [new])):=by
  funext l';rw[bo]
 refine⟨vd,_,hK,h1,h2,e▸h3,fun l' hl'=>by rw[h4];exact hf.β l' hl',fun l' hl'=>?_⟩;rw[bo]at hl';split at hl'
 ·rename_i e;subst e;exact hf.m _ (by rw[hl];simp)
 ·exact hf.m _ hl'
def y6 {af:aB}{ds:List D}{st:St}{K:D→St→Prop}{σi:List (Nat×Nat)}{q:Nat}{m0:List (Nat×aV)}{cs:List D}{Q:D→List (Nat×aV)→Prop}(hmono:∀q,(Γ.at q).br)(hmix:P.follows .mixedOrders=true)(hC:Ez P ν bA fid af)
  (h1:cs.length=ds.length) (h2:∀i,i<ds.length→Hb 0 σi (ds.getD i .any) (cs.getD i .any)) (h3:cs.length=af.np)
  (h4:eW 0 q σi=true) (h5:∀l i,(l,i)∈σi→look st.m l≠none) (h6:∀i b,look m0 i=some b→∃l b',(l,i)∈σi∧look st.m l=some b'∧n9 0 σi b' b)
  (h7:bB (Γ.at q) af.body (ov af Q) (eL af cs) ⟨q,m0⟩) (h8:∀d m1,Q d m1→∃(σo:List (Nat×Nat)) (q1:Nat) (st':St) (vd':D),Fr σi σo q q1 m0 m1 st st'∧Hb 0 σo d vd'∧K vd' st'):mz P ν bA Γ fid ds st K:=by
 intro hok x args hl hargs hs hfr;obtain⟨fn,hf,hc,hn⟩:=hC.split;obtain⟨body,c1,_⟩:=eY hc;refine .inr ⟨fid,args,eI hf hn (by rw[c1];rfl) args x.w, ?_⟩;refine Calls.mono (HO (K:=K) hok hmix hf hc hl hargs hs hfr h1 h2 h3 h4 h5 h6 (dY (hmono q) _ _ _ _ _ (fun e env st1 h=>?_) h7)) fun e w' he=>?_
 ·obtain⟨g1,g2,m1,g3,g4⟩:=h;obtain⟨σo,q1,st',vd',k1,k2,k3⟩:=h8 _ _ g4;exact⟨g1,g2,σo,q1,m1,st',vd',k1,k2,k3,g3⟩
 ·match e,he with
  | .returned v,he=>
   obtain⟨x',d,st',g0,g1,g2,g3,g4,g5⟩:=he;exact⟨x',g1,d,st',g0,g2,g3,g4,g5⟩
end
end Go.Abs
end
section
namespace Go.Abs
structure bp where
 name:ah
 range:ah
 feats:List ah
 bare:Bool
 deriving Inhabited,DecidableEq
def bp.D (x:bp):D:=.agg [.str x.name,.str x.range,.sl 1 (x.feats.map D.str),.bool x.bare]
structure a7 where
 any:List bp
 when':ah
 option:ah
 deriving Inhabited,DecidableEq
def a7.D (x:a7):D:=.agg [.sl 4 (x.any.map bp.D),.str x.when',.str x.option]
structure gz where
 name:ah
 range:ah
 when':ah
 deriving Inhabited,DecidableEq
def gz.D (x:gz):D:=.agg [.str x.name,.str x.range,.str x.when']
structure bn where
 name:ah
 of:List ah
 deriving Inhabited,DecidableEq
def bn.D (x:bn):D:=.agg [.str x.name,.sl 1 (x.of.map D.str)]
structure Rec where
 name:ah
 v:dt
 needs:List a7
 bars:List gz
 feats:List bn
 deriving Inhabited,DecidableEq
def Rec.D (x:Rec):D:=.agg [.str x.name,.int .i64 x.v.major,.int .i64 x.v.minor,.int .i64 x.v.patch,.str x.v.pre,.str x.v.build,.sl 3 (x.needs.map a7.D),.sl 3 (x.bars.map gz.D),.sl 2 (x.feats.map bn.D)]
structure bX where
 op:Int
 parts:Int
 v:dt
 deriving Inhabited,DecidableEq
def bX.D (x:bX):D:=.agg [.int .i64 x.op,.int .i64 x.parts,.int .i64 x.v.major,.int .i64 x.v.minor,.int .i64 x.v.patch,.str x.v.pre,.str x.v.build]
structure Nd where
 op:Int
 a:Int
 b:Int
 key:Int
 text:ah
 deriving Inhabited,DecidableEq
def Nd.D (x:Nd):D:=.agg [.int .i64 x.op,.int .i64 x.a,.int .i64 x.b,.int .i64 x.key,.str x.text]
def gz.eq (a b:gz):fE (gz.D a).cells (gz.D b).cells=decide (a=b):=by
 obtain⟨a1,a2,a3⟩:=a;obtain⟨b1,b2,b3⟩:=b;simp only[gz.D,D.cells,fE,pK,gz.mk.injEq,Bool.and_true];simp only[Bool.decide_and]
def bp.same {a b:bp}(e1:a.name=b.name)(e2:a.range=b.range)(e3:a.bare=b.bare):decide (a=b)=decide (a.feats=b.feats):=by
 obtain⟨a1,a2,a3,a4⟩:=a;obtain⟨b1,b2,b3,b4⟩:=b;simp only at e1 e2 e3;subst e1;subst e2;subst e3;simp
def rising (l:List ah):Bool:=cn (fun i=>Op.bytesLess l[i-1]! l[i]!) 1 l.length
def b9 (s:ah):Int×ah×ah:=
 if bF s=true then(1,s,[])
 else if s.length>0∧at8 s 0=63∧bF (s.drop 1)=true then(2,s.drop 1,[])
 else if(ai s 47).length=2∧ed (ai s 47)[0]! =true∧bF (ai s 47)[1]! =true then(3,(ai s 47)[0]!,(ai s 47)[1]!)
 else(0,[],[])
def findF (l:List bn)(nm:ah)(i:Nat):Int:=match(l.drop i).findIdx? (fun x=>decide (x.name=nm))with
 |some k=>((i+k:Nat):Int)
 |none=>-1
def E4 {l:List bn}{nm:ah}{i:Nat}(h:i<l.length)(he:l[i]!.name=nm):findF l nm i=(i:Nat):=by
 unfold findF;rw[List.drop_eq_getElem_cons h,List.findIdx?_cons];have:l[i].name=nm:=by simpa[h]using he
 simp[this]
def E5 {l:List bn}{nm:ah}{i:Nat}(h:i<l.length)(he:¬l[i]!.name=nm):findF l nm i=findF l nm (i+1):=by
 unfold findF;have:¬l[i].name=nm:=by simpa[h]using he
 rw[List.drop_eq_getElem_cons h,List.findIdx?_cons];simp only[this,decide_false,Bool.false_eq_true,if_false];cases(l.drop (i+1)).findIdx? (fun x=>decide (x.name=nm))with
 |none=>rfl
 |some k=>simp only[Option.map_some];congr 1;omega
def C6 {l:List bn}{nm:ah}{i:Nat}(h:l.length≤i):findF l nm i=-1:=by
 unfold findF;rw[List.drop_eq_nil_of_le h];rfl
def Jq:ah:=[100,101,102,97,117,108,116]
def LU (l:List bn)(nm:ah):Bool:=decide (nm=Jq) ||decide (0≤findF l nm 0)
def jf (l:List bn)(s:ah):Bool:=!(decide ((b9 s).1=0) ||(decide ((b9 s).1=1)&& !LU l (b9 s).2.1))
def uc (l:List bn)(of:List ah):Bool:=decide (of.length≤6)&&rising of&&cn (fun i=>jf l of[i]!) 0 of.length
def ku (l:List bn)(i:Nat):Bool:=bF l[i]!.name&& !(decide (0<i)&& !Op.bytesLess l[i-1]!.name l[i]!.name)&&uc l l[i]!.of
def fM (l:List bn):Bool:=decide (l.length≤8)&&cn (ku l) 0 l.length
def bn.sm (x:bn):Prop:=x.name.length≤1048576∧x.of.length≤1048576∧∀t∈x.of,t.length≤1048576
def sP (l:List bn):Prop:=∀x∈l,x.sm
def v8 (b:ah):∀(l:List ah)(i:Nat),(aF b (l.take i)).length≤(aF b l).length
 |[],i=>by simp
 |[t],0=>by simp[aF]
 |[t],i+1=>by simp
 |t::u::r,0=>by simp[aF]
 |t::u::r,1=>by simp[aF]
 |t::u::r,i+2=>by
  have:=v8 b (u::r) (i+1);simp only[List.take_succ_cons,aF,List.length_append]at this⊢;omega
def oP (b t:ah):∀(l:List ah),l≠[]→aF b (l++[t])=aF b l++b++t
 |[],h=>absurd rfl h
 |[u],_=>by simp[aF]
 |u::v::r,_=>by
  have:=oP b t (v::r) (by simp);simp only[List.cons_append,aF]at this⊢;rw[this];simp
def oQ (b:ah)(l:List ah)(i:Nat)(h:i<l.length):aF b (l.take (i+1))=(if 0<i then aF b (l.take i)++b else [])++l[i]! :=by
 have e:l.take (i+1)=l.take i++[l[i]!]:=by
  rw[List.take_add_one,List.getElem?_eq_getElem h];simp[h]
 rw[e];by_cases h0:0<i
 ·rw[if_pos h0,oP _ _ _ (by intro hn;have:=congrArg List.length hn;simp only[List.length_take,List.length_nil]at this;omega)]
 ·obtain rfl:i=0:=by omega
  simp[aF]
end Go.Abs
namespace Go.Abs
def Ia {s:ah}(h0:bF s=true):b9 s=(1,s,[]):=by simp only[b9,if_pos h0]
def Ib {s:ah}(h0:bF s=false)(h:(0<(s.length:Int)∧at8 s 0=63)∧bF (s.drop 1)=true):b9 s=(2,s.drop 1,[]):=by
 simp only[b9,h0,Bool.false_eq_true,if_false];rw[if_pos ⟨by omega,h.1.2,h.2⟩]
def y9 {s:ah}(h:(¬0<(s.length:Int)∨¬at8 s 0=63)∨bF (s.drop 1)=false):¬(s.length>0∧at8 s 0=63∧bF (s.drop 1)=true):=by
 rintro⟨h1,h2,h3⟩;rcases h with(h|h)|h
 ·omega
 ·exact h h2
 ·rw[h3]at h;cases h
def Ic {s:ah}(h0:bF s=false)(h:(¬0<(s.length:Int)∨¬at8 s 0=63)∨bF (s.drop 1)=false)(h2:(((ai s 47).length:Int)=2∧ed (ai s 47)[0]! =true)∧bF (ai s 47)[1]! =true):b9 s=((3:Int),(ai s 47)[0]!,(ai s 47)[1]!):=by
 simp only[b9,h0,Bool.false_eq_true,if_false];rw[if_neg (y9 h),if_pos ⟨by omega,h2.1.2,h2.2⟩]
def H9 {s:ah}(h0:bF s=false)(h:(¬0<(s.length:Int)∨¬at8 s 0=63)∨bF (s.drop 1)=false)(h2:(¬((ai s 47).length:Int)=2∨ed (ai s 47)[0]! =false)∨bF (ai s 47)[1]! =false):b9 s=(0,[],[]):=by
 simp only[b9,h0,Bool.false_eq_true,if_false];rw[if_neg (y9 h),if_neg];rintro⟨g1,g2,g3⟩;rcases h2 with(h2|h2)|h2
 ·omega
 ·rw[g2]at h2;cases h2
 ·rw[g3]at h2;cases h2
end Go.Abs
end
namespace Go.Abs
def nB (s:ah)(i:Nat)(h:i<s.length):at8 s i=((s[i]'h).toNat:Int):=by simp[at8,h]
def tn (p:Int→Bool)(s:ah):cn (fun i=>p (at8 s i)) 0 s.length=true↔∀c∈s,p c.toNat=true:=by
 rw[dh];constructor
 ·intro h c hc;obtain⟨i,hi,rfl⟩:=List.getElem_of_mem hc;have:=h i (by omega) hi
  rwa [nB s i hi]at this
 ·intro h j _ hj;rw[nB s j hj];exact h _ (List.getElem_mem hj)
def nu {b:Int}:∀{s cur:ah},(∀c∈s,(c.toNat:Int)≠b)→bd b s cur=[cur++s]
 |[],cur,_=>by simp[bd]
 |c::r,cur,h=>by
  simp only[bd];rw[if_neg (h c (.head _)),nu (fun d hd=>h d (.tail _ hd))];simp
def pe {b:Int}{x:UInt8}(hx:(x.toNat:Int)=b)(r:ah):∀{w cur:ah},(∀c∈w,(c.toNat:Int)≠b)→bd b (w++x::r) cur=(cur++w)::bd b r []
 |[],cur,_=>by simp[bd,hx]
 |c::w,cur,h=>by
  simp only[List.cons_append,bd];rw[if_neg (h c (.head _)),pe hx r (fun d hd=>h d (.tail _ hd))];simp
def gp {b:Int}{x:UInt8}(hx:(x.toNat:Int)=b):∀{ws:List ah},ws≠[]→(∀w∈ws,∀c∈w,(c.toNat:Int)≠b)→ai (aF [x] ws) b=ws
 |[],h,_=>absurd rfl h
 |[w],_,h=>by
  show bd b w []=[w];rw[nu (h w (.head _))];rfl
 |w::u::r,_,h=>by
  have ih:=gp (ws:=u::r) hx (by simp) (fun v hv=>h v (.tail _ hv));show bd b (w++[x]++aF [x] (u::r)) []=_;rw[List.append_assoc,List.singleton_append,pe hx _ (h w (.head _))];rw[show bd b (aF [x] (u::r)) []=u::r from ih];rfl
def mZ {b:Int}{x:UInt8}(hx:(x.toNat:Int)=b):∀(s cur:ah),aF [x] (bd b s cur)=cur++s
 |[],cur=>by simp[bd,aF]
 |c::r,cur=>by
  simp only[bd];split
  ·rename_i h;rw[dJ _ _ _ (by intro h;have:=eQ b r [];rw[h]at this;simp at this),mZ hx r []];have:c=x:=UInt8.toNat_inj.1 (by omega);simp[this]
  ·rw[mZ hx r];simp
def iS {b:Int}{x:UInt8}(hx:(x.toNat:Int)=b)(s:ah):aF [x] (ai s b)=s:=by
 unfold ai;rw[mZ hx];rfl
def tJ {p:UInt8→Bool}{w:ah}(h:∀c∈w,p c=false):w.findIdx? p=none:=by
 rw[List.findIdx?_eq_none_iff];exact h
def yQ {p:UInt8→Bool}{w:ah}{x:UInt8}{r:ah}(h:∀c∈w,p c=false)(hx:p x=true):(w++x::r).findIdx? p=some w.length:=by
 rw[List.findIdx?_append,tJ h,List.findIdx?_cons,if_pos hx];simp
def tv {b:Int}{w:ah}(h:∀c∈w,(c.toNat:Int)≠b):cI w b=([],w):=by
 unfold cI fI;rw[List.drop_zero,tJ (fun c hc=>by simpa using h c hc)]
def rD {b:Int}{w r:ah}{x:UInt8}(h:∀c∈w,(c.toNat:Int)≠b)(hx:(x.toNat:Int)=b):cI (w++x::r) b=(r,w):=by
 unfold cI fI;rw[List.drop_zero,yQ (fun c hc=>by simpa using h c hc) (by simpa using hx)];simp
def yL {n:Nat}(h:n<10):aG (dg n).toNat=true:=by
 have:=vR h;simp only[aG,Bool.and_eq_true,decide_eq_true_eq];omega
def pG {Q:Nat→Prop}(h1:∀n,n<10→Q n)(h2:∀n,9<n→Q (n/10)→Q n)(n:Nat):Q n:=by
 induction n using Nat.strongRecOn with
 |ind n ih=>
  by_cases h:n<10
  ·exact h1 n h
  ·exact h2 n (by omega) (ih _ (by omega))
def ec (n:Nat):∀c∈bQ n,aG c.toNat=true:=by
 refine pG (Q:=fun n=>∀c∈bQ n,aG c.toNat=true) (fun n h c hc=>?_) (fun n h ih c hc=>?_) n
 ·rw[jz h]at hc;obtain rfl:=List.mem_singleton.1 hc;exact yL h
 ·rw[ke h]at hc;rcases List.mem_append.1 hc with hc|hc
  ·exact ih c hc
  ·obtain rfl:=List.mem_singleton.1 hc;exact yL (by omega)
def Ba (s:ah)(c:UInt8):cl (s++[c])=cl s*10+(c.toNat-48):=by
 simp[cl,List.foldl_append]
def zl (n:Nat):cl (bQ n)=n:=by
 refine pG (Q:=fun n=>cl (bQ n)=n) (fun n h=>?_) (fun n h ih=>?_) n
 ·rw[jz h];have:=vR h;simp only[cl,List.foldl_cons,List.foldl_nil];omega
 ·rw[ke h,Ba,ih];have:=vR (n:=n%10) (by omega);omega
def sM (n:Nat):bQ n≠[]:=by
 refine pG (Q:=fun n=>bQ n≠[]) (fun n h=>?_) (fun n h ih=>?_) n
 ·rw[jz h];simp
 ·rw[ke h];simp
def CY (n:Nat)(h:0<n):at8 (bQ n) 0≠48:=by
 refine pG (Q:=fun n=>0<n→at8 (bQ n) 0≠48) (fun n h h0=>?_) (fun n h ih h0=>?_) n h
 ·rw[jz h];have:=vR h;simp only[at8,List.getD_cons_zero];omega
 ·rw[ke h];have:=ih (by omega);have hn:=List.length_pos_iff.2 (sM (n/10));have e:at8 (bQ (n/10)++[dg (n%10)]) 0=at8 (bQ (n/10)) 0:=by
   simp only[at8,List.getD,List.getElem?_append_left hn]
  rw[e];exact this
def nP {n:Nat}(h:n≤9999):dN (bQ n)=true:=by
 rw[xN];have h1:=List.length_pos_iff.2 (sM n);have h2:=dF 4 n (by omega) (by omega);have h3:cn (fun i=>aG (at8 (bQ n) i)) 0 (bQ n).length=true:=(tn aG _).2 (ec n);rw[h3,decide_eq_true (show 1≤(bQ n).length by omega),decide_eq_true h2];by_cases h10:n<10
 ·rw[jz h10];rfl
 ·rw[decide_eq_false (CY n (by omega))];simp
def qY {n:Nat}(h:n≤9999):cX (bQ n)=(n:Int):=by
 rw[cX,if_pos (nP h),zl]
def jI (x:UInt8):∀(ws:List ah)(c:UInt8),c∈aF [x] ws→c=x∨∃w∈ws,c∈w
 |[],c,h=>by simp[aF]at h
 |[w],c,h=>.inr ⟨w,.head _,h⟩
 |w::u::r,c,h=>by
  rw[dJ _ _ _ (by simp)]at h;simp only[List.mem_append,List.mem_singleton]at h;rcases h with(h|h)|h
  ·exact .inr ⟨w,.head _,h⟩
  ·exact .inl h
  ·rcases jI x (u::r) c h with h|⟨v,hv,hc⟩
   ·exact .inl h
   ·exact .inr ⟨v,.tail _ hv,hc⟩
def zR {s:ah}{p:Bool}(h:mb s p=true){c:UInt8}(hc:c∈s):jF c.toNat=true∨c=46:=by
 simp only[mb,Bool.or_eq_true,decide_eq_true_eq,ju,Bool.and_eq_true,dh]at h;rcases h with rfl|⟨_,h⟩
 ·cases hc
 ·rw[←iS (b:=46) (x:=46) rfl s]at hc;rcases jI 46 _ c hc with rfl|⟨w,hw,hcw⟩
  ·exact .inr rfl
  ·left;obtain⟨i,hi,rfl⟩:=List.getElem_of_mem hw;have:=h i (by omega) hi;rw[show(ai s 46)[i]! =(ai s 46)[i]by simp[hi]]at this;simp only[ey,mr,Bool.and_eq_true]at this;exact(tn jF _).1 this.1.2 c hcw
def yb {s:ah}{p:Bool}(h:mb s p=true){c:UInt8}(hc:c∈s):c.toNat≠43∧c.toNat≠32∧c.toNat≠10:=by
 rcases zR h hc with h|rfl
 ·simp only[jF,eM,aG,Bool.or_eq_true,Bool.and_eq_true,decide_eq_true_eq]at h;omega
 ·decide
def mJ {c:UInt8}(h:aG c.toNat=true):c.toNat≠46∧c.toNat≠45∧c.toNat≠43∧c.toNat≠32∧c.toNat≠10:=by
 simp only[aG,Bool.and_eq_true,decide_eq_true_eq]at h;omega
def coreS (v:dt):ah:=bQ v.major.toNat++[46]++bQ v.minor.toNat++[46]++bQ v.patch.toNat
def xq (v:dt){c:UInt8}(h:c∈coreS v):c.toNat≠45∧c.toNat≠43∧c.toNat≠32∧c.toNat≠10:=by
 simp only[coreS,List.mem_append,List.mem_singleton]at h;rcases h with(((h|rfl)|h)|rfl)|h
 ·exact(mJ (ec _ c h)).2
 ·decide
 ·exact(mJ (ec _ c h)).2
 ·decide
 ·exact(mJ (ec _ c h)).2
def ru (v:dt):sF v=coreS v++(if v.pre=[]then []else 45::v.pre)++(if v.build=[]then []else 43::v.build):=rfl
def I7 {v:dt}(h:en v=true){c:UInt8}(hc:c∈sF v):c.toNat≠32∧c.toNat≠10:=by
 simp only[en,Bool.and_eq_true]at h;rw[ru]at hc;simp only[List.mem_append]at hc;rcases hc with(hc|hc)|hc
 ·exact(xq v hc).2.2
 ·split at hc
  ·cases hc
  ·rcases List.mem_cons.1 hc with rfl|hc
   ·decide
   ·exact(yb h.1.2 hc).2
 ·split at hc
  ·cases hc
  ·rcases List.mem_cons.1 hc with rfl|hc
   ·decide
   ·exact(yb h.2 hc).2
def LI {v:dt}(h:en v=true):kJ (iZ v)=some v:=by
 have h0:=h;simp only[en,pN,Bool.and_eq_true,decide_eq_true_eq]at h;obtain⟨⟨⟨⟨h1,h2⟩,h3⟩,h4⟩,h5⟩:=h;have e0:iZ v=sF v:=by rw[iZ,if_pos h0]

 have hcp:∀c∈coreS v++(if v.pre=[]then []else 45::v.pre),(c.toNat:Int)≠43:=fun c hc=>by
  rcases List.mem_append.1 hc with hc|hc
  ·have:=(xq v hc).2.1;omega
  ·split at hc
   ·cases hc
   ·rcases List.mem_cons.1 hc with rfl|hc
    ·decide
    ·have:=(yb h4 hc).1;omega
 have e1:cI (sF v) 43=(v.build,coreS v++(if v.pre=[]then []else 45::v.pre)):=by
  rw[ru];generalize coreS v++(if v.pre=[]then []else 45::v.pre)=q at hcp⊢;split
  ·rename_i hb;rw[List.append_nil,tv hcp,hb]
  ·exact rD hcp (by decide)
 have hc45:∀c∈coreS v,(c.toNat:Int)≠45:=fun c hc=>by have:=(xq v hc).1;omega
 have e2:cI (coreS v++(if v.pre=[]then []else 45::v.pre)) 45=(v.pre,coreS v):=by
  split
  ·rename_i hb;rw[List.append_nil,tv hc45,hb]
  ·exact rD hc45 (by decide)
 have e3:ai (coreS v) 46=[bQ v.major.toNat,bQ v.minor.toNat,bQ v.patch.toNat]:=by
  have:=gp (b:=46) (x:=46) rfl (ws:=[bQ v.major.toNat,bQ v.minor.toNat,bQ v.patch.toNat]) (by simp) (fun w hw c hc=>by
   have hd:aG c.toNat=true:=by
    simp only[List.mem_cons,List.not_mem_nil,or_false]at hw;rcases hw with rfl|rfl|rfl<;>exact ec _ c hc
   have:=(mJ hd).1;omega)
  rw[←this];simp[aF,coreS]
 have n1:=nP (n:=v.major.toNat) (by omega);have n2:=nP (n:=v.minor.toNat) (by omega);have n3:=nP (n:=v.patch.toNat) (by omega);have o1:=qY (n:=v.major.toNat) (by omega);have o2:=qY (n:=v.minor.toNat) (by omega);have o3:=qY (n:=v.patch.toNat) (by omega);have ev:(⟨((v.major.toNat:Nat):Int),((v.minor.toNat:Nat):Int),((v.patch.toNat:Nat):Int),v.pre,v.build⟩:dt)=v:=by
  obtain⟨a,b,c,d,e⟩:=v;simp only[dt.mk.injEq,and_self,and_true];simp only at h1 h2 h3;omega
 rw[e0];simp only[kJ,e1,e2,e3];rw[if_pos ⟨rfl,n1,n2,n3⟩];simp only[List.getElem!_cons_zero,List.getElem!_cons_succ,o1,o2,o3,ev];rw[if_pos ⟨h0,e0⟩]
def hv (c:UInt8):Nat:=if aG c.toNat=true then c.toNat-48 else c.toNat-87
def sk (s:ah):Nat:=s.foldl (fun n c=>n*16+hv c) 0
def Cz {s:ah}(h:bF s=true){c:UInt8}(hc:c∈s):vD c.toNat=true:=by
 simp only[bF,Bool.and_eq_true]at h;exact(tn vD s).1 h.2 c hc
def CA {s:ah}(h:bF s=true){c:UInt8}(hc:c∈s):c.toNat≠32∧c.toNat≠10∧c.toNat≠45:=by
 have:=Cz h hc;simp only[vD,eM,aG,Bool.or_eq_true,Bool.and_eq_true,decide_eq_true_eq]at this;omega
def Ja {s:ah}(h:bF s=true):s≠[]:=by
 rintro rfl;simp[bF]at h
def B7 {s:ah}(h:ed s=true):s≠[]∧eM (at8 s 0)=true∧∀c∈s,c.toNat≠32∧c.toNat≠10:=by
 simp only[ed,Bool.and_eq_true,decide_eq_true_eq,dh]at h;obtain⟨⟨⟨⟨h1,h2⟩,h3⟩,h4⟩,h5⟩:=h;refine⟨by rintro rfl;simp at h1,h3,fun c hc=>?_⟩;obtain⟨i,hi,rfl⟩:=List.getElem_of_mem hc;rcases Nat.eq_zero_or_pos i with rfl|hp
 ·rw[nB s 0 hi]at h3;simp only[eM,Bool.and_eq_true,decide_eq_true_eq]at h3;omega
 ·have:=h5 i hp hi;simp only[nch,Bool.and_eq_true,Bool.or_eq_true,decide_eq_true_eq,nB s i hi,eM,aG]at this;omega
def qn.wf (x:qn):Prop:=0≤x.sum∧x.sum<18446744073709551616
def yi.wf (l:yi):Prop:=∀x∈l.lines,x.wf
end Go.Abs
section
namespace Go.Abs
def r5 {b:Int}{x:UInt8}(hx:(x.toNat:Int)=b):∀(s cur:ah),bd b s cur=match s.findIdx? (fun c=>c==x)with
  |some k=>(cur++s.take k)::bd b (s.drop (k+1)) []
  |none=>[cur++s]
 |[],cur=>by simp[bd]
 |c::r,cur=>by
  simp only[bd,List.findIdx?_cons];by_cases h:c=x
  ·subst h;rw[if_pos hx];simp
  ·have h1:¬(c.toNat:Int)=b:=fun e=>h (UInt8.toNat_inj.1 (by omega))
   have h2:(c==x)=false:=by simpa using h
   rw[if_neg h1,h2,r5 hx r (cur++[c])];cases r.findIdx? (fun c=>c==x)with
   |none=>simp
   |some k=>simp
def wL (s:ah)(x:UInt8):ai s x.toNat=if(ea s x).2.2=true then(ea s x).1::ai (ea s x).2.1 x.toNat else [s]:=by
 unfold ai ea;rw[r5 (x:=x) rfl];cases s.findIdx? (fun c=>c==x)with
 |none=>simp
 |some k=>simp
def wE {s:ah}:(((ea s 47).2.2=true∧ed (ea s 47).1=true)∧bF (ea s 47).2.1=true)↔(((ai s 47).length:Int)=2∧ed (ai s 47)[0]! =true)∧bF (ai s 47)[1]! =true:=by
 have h:=wL s 47;rw[show(((47:UInt8).toNat:Nat):Int)=47 from rfl]at h;by_cases hc:(ea s 47).2.2=true
 ·rw[if_pos hc]at h;rw[h];have hj:=iS (b:=47) (x:=47) rfl (ea s 47).2.1;constructor
  ·rintro⟨⟨_,h1⟩,h2⟩;have h3:ai (ea s 47).2.1 47=[(ea s 47).2.1]:=by
    show bd 47 _ []=_;rw[nu (fun c hc=>?_)]
    ·rfl
    ·have:=Cz h2 hc;simp only[vD,eM,aG,Bool.or_eq_true,Bool.and_eq_true,decide_eq_true_eq]at this;omega
   rw[h3];exact⟨⟨rfl,h1⟩,h2⟩
  ·rintro⟨⟨h1,h2⟩,h3⟩;refine⟨⟨hc,h2⟩, ?_⟩;generalize ai (ea s 47).2.1 47=q at hj h1 h3
   match q,h1 with
   |[y],_=>
    have:y=(ea s 47).2.1:=hj;rw[←this];exact h3
   |[],h1=>simp at h1
   |_::_::_,h1=>simp at h1;omega
 ·rw[if_neg hc]at h;rw[h];constructor
  ·rintro⟨⟨h1,_⟩,_⟩;exact absurd h1 hc
  ·rintro⟨⟨h1,_⟩,_⟩;simp at h1
def zh {s:ah}:(cZ s [63]).2=true↔0<(s.length:Int)∧at8 s 0=63:=by
 match s with
 |[]=>simp[cZ,List.isPrefixOf]
 |c::r=>
  have e:((c.toNat:Int)=63)↔c=63:=⟨fun h=>UInt8.toNat_inj.1 (by have:(63:UInt8).toNat=63:=rfl;omega),fun h=>by subst h;rfl⟩;simp only[cZ,List.isPrefixOf,Bool.and_true,at8,List.getD_cons_zero,List.length_cons];by_cases h:c=63
  ·subst h;simp
  ·have:¬(c.toNat:Int)=63:=fun h2=>h (e.1 h2)
   have h3:((63:UInt8)==c)=false:=by simpa using fun h2=>h h2.symm
   simp[h3,this]
def wi {s:ah}(h:(cZ s [63]).2=true):(cZ s [63]).1=s.drop 1:=by
 unfold cZ at h⊢;split at h
 ·rename_i hp;rw[if_pos hp];rfl
 ·cases h
def Ig {s:ah}(h0:bF s=false)(h:(cZ s [63]).2=true∧bF (cZ s [63]).1=true):b9 s=(2,(cZ s [63]).1,[]):=by
 rw[wi h.1]at h⊢;exact Ib h0 ⟨zh.1 h.1,h.2⟩
def B1 {s:ah}(h:(cZ s [63]).2=false∨bF (cZ s [63]).1=false):(¬0<(s.length:Int)∨¬at8 s 0=63)∨bF (s.drop 1)=false:=by
 by_cases hp:(cZ s [63]).2=true
 ·rw[wi hp]at h;rcases h with h|h
  ·rw[hp]at h;cases h
  ·exact .inr h
 ·have:=fun h2=>hp (zh.2 h2)
  by_cases h1:0<(s.length:Int)
  ·exact .inl (.inr fun h2=>this ⟨h1,h2⟩)
  ·exact .inl (.inl h1)
def Ih {s:ah}(h0:bF s=false)(h:(cZ s [63]).2=false∨bF (cZ s [63]).1=false)(h2:((ea s 47).2.2=true∧ed (ea s 47).1=true)∧bF (ea s 47).2.1=true):b9 s=((3:Int),(ea s 47).1,(ea s 47).2.1):=by
 have h3:=wE.1 h2;rw[Ic h0 (B1 h) h3];have hs:=wL s 47;rw[show(((47:UInt8).toNat:Nat):Int)=47 from rfl,if_pos h2.1.1]at hs;have hj:=iS (b:=47) (x:=47) rfl (ea s 47).2.1;have hl:=h3.1.1;rw[hs]at hl⊢;generalize ai (ea s 47).2.1 47=q at hj hl
 match q,hl with
 |[y],_=>
  have:y=(ea s 47).2.1:=hj;rw[←this];rfl
 |[],h1=>simp at h1
 |_::_::_,h1=>simp at h1;omega
def Ie {s:ah}(h0:bF s=false)(h:(cZ s [63]).2=false∨bF (cZ s [63]).1=false)(h2:((ea s 47).2.2=false∨ed (ea s 47).1=false)∨bF (ea s 47).2.1=false):b9 s=(0,[],[]):=by
 refine H9 h0 (B1 h) ?_;have hn:¬((((ai s 47).length:Int)=2∧ed (ai s 47)[0]! =true)∧bF (ai s 47)[1]! =true):=fun h3=>by
  obtain⟨⟨g1,g2⟩,g3⟩:=wE.2 h3;rcases h2 with(h2|h2)|h2
  ·rw[g1]at h2;cases h2
  ·rw[g2]at h2;cases h2
  ·rw[g3]at h2;cases h2
 by_cases k1:((ai s 47).length:Int)=2
 ·by_cases k2:ed (ai s 47)[0]! =true
  ·right;cases k3:bF (ai s 47)[1]! with
   |false=>rfl
   |true=>exact absurd ⟨⟨k1,k2⟩,k3⟩ hn
  ·exact .inl (.inr (by simpa using k2))
 ·exact .inl (.inl k1)
end Go.Abs
namespace Go.Abs
def C1 {l:List bn}{i:Nat}(h:(!bF l[i]!.name ||(decide ((0:Int)<(i:Int))&& !Op.bytesLess l[i-1]!.name l[i]!.name) ||decide ((6:Int)<(l[i]!.of.length:Int)) ||!rising l[i]!.of)=false):
  ku l i=cn (fun j=>jf l l[i]!.of[j]!) 0 l[i]!.of.length:=by
 simp only[Bool.or_eq_false_iff,Bool.not_eq_false',decide_eq_false_iff_not]at h;obtain⟨⟨⟨h1,h2⟩,h3⟩,h4⟩:=h;have e:(decide (0<i)&& !Op.bytesLess l[i-1]!.name l[i]!.name)=false:=by
  rw[show decide (0<i)=decide ((0:Int)<(i:Int))from decide_eq_decide.2 (by omega)];exact h2
 simp only[ku,uc,h1,e,h4];rw[decide_eq_true (by omega)];rfl
def C0 {l:List bn}{i:Nat}(h:(!bF l[i]!.name ||(decide ((0:Int)<(i:Int))&& !Op.bytesLess l[i-1]!.name l[i]!.name) ||decide ((6:Int)<(l[i]!.of.length:Int)) ||!rising l[i]!.of)=true):
  ku l i=false:=by
 have e:decide ((0:Int)<(i:Int))=decide (0<i):=decide_eq_decide.2 (by omega);have e6:decide ((6:Int)<(l[i]!.of.length:Int))=!decide (l[i]!.of.length≤6):=by
  by_cases h6:l[i]!.of.length≤6
  ·rw[decide_eq_true h6,decide_eq_false (by omega)];rfl
  ·rw[decide_eq_false h6,decide_eq_true (by omega)];rfl
 rw[e,e6]at h;simp only[ku,uc];revert h;generalize bF l[i]!.name=a;generalize (decide (0<i)&& !Op.bytesLess l[i-1]!.name l[i]!.name)=b;generalize decide (l[i]!.of.length≤6)=c;generalize rising l[i]!.of=d;cases a<;>cases b<;>cases c<;>cases d<;>simp
end Go.Abs
end
section
namespace Go.Abs
def bP (op:Int):ah:=if op=1 then [61]else if op=2 then [33,61]else if op=3 then [60]else if op=4 then [60,61]else if op=5 then [62]else if op=6 then [62,61]else if op=7 then [94]else if op=8 then [126]else []
def rk (op:Int):(bP op).length≤2:=by
 unfold bP;repeat' split
 all_goals decide
def qx (s w:ah):Bool:=decide (w.length≤s.length)&&decide (s.take w.length=w)
def mf (c:bX):Bool:=(decide (0<c.parts) ||decide (c.v.major=0))&&(decide (1<c.parts) ||decide (c.v.minor=0))&&(decide (2<c.parts) ||decide (c.v.patch=0))
def jc (c:bX):Bool:=decide (1≤c.op)&&decide (c.op≤9)&&en c.v&&decide (c.v.build=[])&&decide ((if c.op=9 then 0 else 1)≤c.parts)&&decide (c.parts≤if c.op=9 then 2 else 3)&&(decide (3≤c.parts) ||decide (c.v.pre=[]))&&mf c
def bX.sm (c:bX):Prop:=c.v.sm
def yH {c:bX}(h:(decide (c.op<1) ||decide (9<c.op) ||!en c.v ||!decide (c.v.build=[]))=true):jc c=false:=by
 unfold jc;rw[show decide (c.op<1)=!decide (1≤c.op)by rw[←decide_not];exact decide_eq_decide.2 (by omega),show decide (9<c.op)=!decide (c.op≤9)by rw[←decide_not];exact decide_eq_decide.2 (by omega)]at h;revert h;generalize decide (1≤c.op)=a1;generalize decide (c.op≤9)=a2;generalize en c.v=a3;generalize decide (c.v.build=[])=a4;cases a1<;>cases a2<;>cases a3<;>cases a4<;>simp
def vP {c:bX}(h:(decide (c.op<1) ||decide (9<c.op) ||!en c.v ||!decide (c.v.build=[]))=false):1≤c.op∧c.op≤9∧en c.v=true∧c.v.build=[]:=by
 simp only[Bool.or_eq_false_iff,decide_eq_false_iff_not,Bool.not_eq_false',decide_eq_true_eq]at h;exact⟨by omega,by omega,h.1.2,h.2⟩
end Go.Abs
namespace Go.Abs
def nD {c:bX}(hy:1≤c.op∧c.op≤9∧en c.v=true∧c.v.build=[]){lo hi:Int}(hlo:(if c.op=9 then 0 else 1)=lo)(hhi:(if c.op=9 then 2 else 3)=hi):
  jc c=(!(decide (c.parts<lo) ||decide (hi<c.parts) ||(decide (c.parts<3)&& !decide (c.v.pre=[])))&&mf c):=by
 obtain⟨h1,h2,h3,h4⟩:=hy;unfold jc;rw[decide_eq_true h1,decide_eq_true h2,h3,decide_eq_true h4,hlo,hhi];rw[show decide (c.parts<lo)=!decide (lo≤c.parts)by rw[←decide_not];exact decide_eq_decide.2 (by omega),show decide (hi<c.parts)=!decide (c.parts≤hi)by rw[←decide_not];exact decide_eq_decide.2 (by omega),show decide (c.parts<3)=!decide (3≤c.parts)by rw[←decide_not];exact decide_eq_decide.2 (by omega)];generalize decide (lo≤c.parts)=a1;generalize decide (c.parts≤hi)=a2;generalize decide (3≤c.parts)=a3;generalize decide (c.v.pre=[])=a4;cases a1<;>cases a2<;>cases a3<;>cases a4<;>simp
end Go.Abs
namespace Go.Abs
def bX.iU (c:bX):List Int:=[c.v.major,c.v.minor,c.v.patch]
def dG (c:bX):Nat→ah
 |0=>[]
 |i+1=>dG c i++(if 0<i then [46]else [])++bQ (c.iU[i]!).toNat
def ig (c:bX):ah:=if c.op=9 then(if 0<c.parts then [46]else [])++[42]else if c.v.pre=[]then []else 45::c.v.pre
def iP (c:bX):ah:=bP c.op++dG c c.parts.toNat++ig c
def cW (c:bX):ah:=if jc c=true then iP c else []
def m7 {c:bX}(h:en c.v=true)(i:Nat):0≤c.iU[i]! ∧c.iU[i]! ≤9999:=by
 simp only[en,pN,Bool.and_eq_true,decide_eq_true_eq]at h
 match i with
 |0=>exact h.1.1.1.1
 |1=>exact h.1.1.1.2
 |2=>exact h.1.1.2
 |k+3=>exact(by simp[bX.iU]:0≤c.iU[k+3]! ∧c.iU[k+3]! ≤9999)
def nQ {c:bX}(h:en c.v=true):∀i,(dG c i).length≤5*i
 |0=>by simp[dG]
 |i+1=>by
  have:=nQ h i;have hn:=m7 h i;have:=dF 4 (c.iU[i]!).toNat (by omega) (by omega);simp only[dG,List.length_append];split
  ·simp only[List.length_singleton];omega
  ·simp only[List.length_nil];omega
def kQ {c:bX}(h:jc c=true):en c.v=true∧0≤c.parts∧c.parts≤3∧1≤c.op∧c.op≤9:=by
 simp only[jc,Bool.and_eq_true,decide_eq_true_eq]at h;obtain⟨⟨⟨⟨⟨⟨⟨h1,h2⟩,h3⟩,h4⟩,h5⟩,h6⟩,h7⟩,h8⟩:=h;refine⟨h3, ?_, ?_,h1,h2⟩
 ·split at h5<;>omega
 ·split at h6<;>omega
end Go.Abs
namespace Go.Abs
def iY (c:bX):List ah:=(c.iU.map fun n=>bQ n.toNat).take c.parts.toNat
def wx (c:bX):∀i,i≤3→aF [46] ((c.iU.map fun n=>bQ n.toNat).take i)=dG c i
 |0,_=>by simp[aF,dG]
 |i+1,h=>by
  have hl:i<(c.iU.map fun n=>bQ n.toNat).length:=by simp[bX.iU];omega
  have hl2:i<c.iU.length:=by show i<3;omega
  rw[oQ _ _ _ hl,wx c i (by omega)];simp only[dG];have e:(c.iU.map fun n=>bQ n.toNat)[i]! =bQ (c.iU[i]!).toNat:=by simp[hl2]
  rw[e];split
  ·simp
  ·obtain rfl:i=0:=by omega
   simp[dG]
def zW {c:bX}(h:c.parts≤3):(iY c).length=c.parts.toNat:=by
 simp[iY,bX.iU];omega
def wQ {c:bX}(h:c.parts≤3):aF [46] (iY c)=dG c c.parts.toNat:=wx c _ (by omega)
def rr {c:bX}(h0:0≤c.parts)(h:c.parts≤3):aF [46] (iY c++[[42]])=dG c c.parts.toNat++((if 0<c.parts then [46]else [])++[42]):=by
 by_cases hp:0<c.parts
 ·rw[oP _ _ _ (by intro hn;have:=congrArg List.length hn;rw[zW h]at this;simp only[List.length_nil]at this;omega),wQ h,if_pos hp];simp
 ·have:c.parts.toNat=0:=by omega
  rw[if_neg hp,this];have e:iY c=[]:=by simp[iY,this]
  rw[e];rfl
end Go.Abs
namespace Go.Abs
def opsL:List Int:=[2,4,6,1,3,5,7,8]
def oT (s:ah)(i:Nat):Option Int:=(opsL.drop i).find? fun o=>qx s (bP o)
def jn (s:ah):Int×ah:=match oT s 0 with
 |some o=>(o,s.drop (bP o).length)
 |none=>if 0<s.length∧at8 s (s.length-1)=42 then(9,s)else(7,s)
def It {s:ah}{i:Nat}(h:i<8)(hb:qx s (bP opsL[i]!)=true):oT s i=some opsL[i]! :=by
 have hl:i<opsL.length:=h;unfold oT;rw[List.drop_eq_getElem_cons hl,List.find?_cons];rw[show opsL[i]! =opsL[i]by simp[hl]]at hb⊢;rw[hb]
def Iu {s:ah}{i:Nat}(h:i<8)(hb:qx s (bP opsL[i]!)=false):oT s i=oT s (i+1):=by
 have hl:i<opsL.length:=h;unfold oT;rw[List.drop_eq_getElem_cons hl,List.find?_cons];rw[show opsL[i]! =opsL[i]by simp[hl]]at hb;rw[hb]
def FW {s:ah}{i:Nat}(h:8≤i):oT s i=none:=by
 unfold oT;rw[List.drop_eq_nil_of_le h];rfl
def fQ (s:ah)(i:Nat):ah×ah:=match(s.drop i).findIdx? (fun c=>c==45)with
 |some k=>(s.take (i+k),s.drop (i+k+1))
 |none=>(s,[])
def IF {s:ah}{i:Nat}(h:i<s.length)(he:at8 s i=45):fQ s i=(s.take i,s.drop (i+1)):=by
 unfold fQ;rw[nI s i h,List.findIdx?_cons];have:s.getD i 0=45:=UInt8.toNat_inj.1 (by simp only[at8]at he;show(s.getD i 0).toNat=45;omega);rw[this];rfl
def IG {s:ah}{i:Nat}(h:i<s.length)(he:¬at8 s i=45):fQ s i=fQ s (i+1):=by
 unfold fQ;rw[nI s i h,List.findIdx?_cons];have:(s.getD i 0==45)=false:=by
  rw[beq_eq_false_iff_ne];intro e;exact he (by simp only[at8,e];rfl)
 rw[this];simp only[Bool.false_eq_true,if_false];cases(s.drop (i+1)).findIdx? (fun c=>c==45)with
 |none=>rfl
 |some k=>simp only[Option.map_some];rw[show i+(k+1)=i+1+k by omega]
def Gi {s:ah}{i:Nat}(h:s.length≤i):fQ s i=(s,[]):=by
 unfold fQ;rw[List.drop_eq_nil_of_le h];rfl
end Go.Abs
namespace Go.Abs
def fP (l:List ah):Bool:=decide (l.length≤3)&&cn (fun i=>dN l[i]!) 0 l.length
def numV (l:List ah):dt:=⟨if 0<l.length then cX l[0]! else 0,if 1<l.length then cX l[1]! else 0,if 2<l.length then cX l[2]! else 0,[],[]⟩
end Go.Abs
namespace Go.Abs
def dx:bX:=⟨0,0,jo⟩
def JH (op:Int)(l:List ah):List ah:=if op=9 then l.take (l.length-1)else l
def oc (op:Int)(l:List ah)(pre:ah):bX:=⟨op,(l.length:Nat),{numV l with pre:=pre}⟩
def FR (s:ah)(op:Int)(l:List ah)(pre:ah):Bool:=fP l&& !(decide (cW (oc op l pre)=[]) ||(!decide (cW (oc op l pre)=s)&& !decide (cW (oc op l pre)=94::s)))
def fh (s:ah):Option bX:=
 let o:=jn s
 let p:=fQ o.2 0
 let l:=JH o.1 (ai p.1 46)
 if FR s o.1 l p.2=true then some (oc o.1 l p.2)else none
def Bq (s:ah):(jn s).2.length≤s.length:=by
 unfold jn;split
 ·simp
 ·split<;>exact Nat.le_refl _
def zt (s:ah):(fQ s 0).1.length≤s.length∧(fQ s 0).2.length≤s.length:=by
 unfold fQ;split<;>simp<;>omega
end Go.Abs
namespace Go.Abs
def bW (s:ah):Int×ah:=match oT s 0 with
 |some o=>(o,s.drop (bP o).length)
 |none=>(9,s)
def cT (s:ah):ah×ah:=fQ (bW s).2 0
def cD (s:ah):List ah:=JH (bW s).1 (ai (cT s).1 46)
def j6 (s:ah):Prop:=(bW s).1=9→(ai (cT s).1 46)[(ai (cT s).1 46).length-1]! =[42]
instance (s:ah):Decidable (j6 s):=by unfold j6;exact inferInstance
def cL (s:ah):bX:=oc (bW s).1 (cD s) (cT s).2
def dM (s:ah):Option bX:=if j6 s∧fP (cD s)=true∧jc (cL s)=true∧cW (cL s)=s then some (cL s)else none
def Cb (l:List ah)(i:Nat):dt:=⟨if 0<i then cX l[0]! else 0,if 1<i then cX l[1]! else 0,if 2<i then cX l[2]! else 0,[],[]⟩
def DZ (s:ah):(bW s).2.length≤s.length:=by
 unfold bW;split<;>simp
def gM {s:ah}(h:¬(j6 s∧fP (cD s)=true∧jc (cL s)=true∧cW (cL s)=s)):dM s=none:=by
 unfold dM;rw[if_neg h]
end Go.Abs
namespace Go.Abs
def gZ (s:ah):Option bX:=if(dM s).isSome=true then dM s else dM (94::s)
def zV (c:bX):aV:=.buf 1 [.str (bQ c.v.major.toNat),.str (bQ c.v.minor.toNat),.str (bQ c.v.patch.toNat)]
def uQ (c:bX):[D.str (bQ c.v.major.toNat),D.str (bQ c.v.minor.toNat),D.str (bQ c.v.patch.toNat)].take c.parts.toNat=(iY c).map D.str:=by
 unfold iY bX.iU;rw[List.map_take];rfl
def I3 {c:bX}{m:List (Nat×aV)}{l:Nat}(hl:look m l=some (zV c)):xV m [.sl 1 [.a]] (.own l 1 0 c.parts.toNat)=.sl 1 ((iY c).map D.str):=by
 show D.sl 1 _=_;simp only[aD,hl,zV,List.drop_zero,uQ,List.map_map];congr 1
def GS {c:bX}{m:List (Nat×aV)}{l:Nat}(h:c.parts≤3)(hl:look m l=some (zV c)):Hg m [.sl 1 [.a]] (.own l 1 0 c.parts.toNat):=by
 simp only[Hg,JN,JM];refine⟨by simp[dE,hl,zV];omega, ?_⟩;simp only[aD,hl,zV,List.drop_zero,uQ];intro e he;obtain⟨x,_,rfl⟩:=List.mem_map.1 he;trivial
end Go.Abs
end
namespace Go.Abs
def nE {c:bX}(h:cW c≠[]):jc c=true∧cW c=iP c:=by
 unfold cW at h⊢;split at h
 ·rename_i hb;exact⟨hb,if_pos hb⟩
 ·exact absurd rfl h
def xQ {s:ah}{op:Int}{l:List ah}{pre:ah}:FR s op l pre=true↔fP l=true∧cW (oc op l pre)≠[]∧(cW (oc op l pre)=s∨cW (oc op l pre)=94::s):=by
 simp only[FR,Bool.and_eq_true,Bool.not_eq_true',Bool.or_eq_false_iff,decide_eq_false_iff_not,Bool.and_eq_false_iff,Bool.not_eq_false',decide_eq_true_eq]
def q9 (c:UInt8):Prop:=c≠33∧c≠60∧c≠61∧c≠62∧c≠94∧c≠126
def mK {c:UInt8}(h:aG c.toNat=true):q9 c∧c≠42:=by
 simp only[aG,Bool.and_eq_true,decide_eq_true_eq]at h;refine⟨⟨?_, ?_, ?_, ?_, ?_, ?_⟩, ?_⟩<;>rintro rfl<;>revert h<;>decide
def zn {k:bX}:∀(i:Nat)(c:UInt8),c∈dG k i→aG c.toNat=true∨c=46
 |0,c,h=>by simp[dG]at h
 |i+1,c,h=>by
  simp only[dG,List.mem_append]at h;rcases h with(h|h)|h
  ·exact zn i c h
  ·split at h
   ·exact .inr (List.mem_singleton.1 h)
   ·cases h
  ·exact .inl (ec _ c h)
def ur (k:bX):∀i,0<i→∃c r,dG k i=c::r∧aG c.toNat=true
 |0,h=>by omega
 |1,_=>by
  have hd:=ec (k.iU[0]!).toNat;have hn:=sM (k.iU[0]!).toNat;simp only[dG,Nat.lt_irrefl,if_false,List.nil_append];generalize bQ (k.iU[0]!).toNat=w at hd hn
  match w,hn with
  |c::r,_=>exact⟨c,r,rfl,hd c (.head _)⟩
 |i+2,_=>by
  obtain⟨c,r,h1,h2⟩:=ur k (i+1) (by omega);refine⟨c,r++(if 0<i+1 then [46]else [])++bQ (k.iU[i+1]!).toNat, ?_,h2⟩;show dG k (i+1)++_++_=_;rw[h1];simp
def CS {c:bX}(h:jc c=true)(h9:c.op≠9):0<c.parts.toNat:=by
 simp only[jc,Bool.and_eq_true,decide_eq_true_eq]at h;have:=h.1.1.1.2;rw[if_neg h9]at this;omega
def DR {s:ah}{o:Int}(h:oT s 0=some o):1≤o∧o≤8∧∃x t,s=x::t∧¬q9 x∧(x=94→o=7):=by
 have hm:=List.mem_of_find?_eq_some h;have hb:=List.find?_some h;simp only[qx,Bool.and_eq_true,decide_eq_true_eq]at hb;obtain⟨h1,h2⟩:=hb;have hne:s≠[]∨bP o=[]:=by
  by_cases e:s=[]
  ·right;subst e;simpa using h1
  ·exact .inl e
 simp only[opsL,List.drop_zero,List.mem_cons,List.not_mem_nil,or_false]at hm;have key:∀w:ah,w≠[]→s.take w.length=w→∃x t t',s=x::t∧w=x::t':=by
  intro w hw hs
  match w,hw with
  |x::t',_=>
   match s with
   |[]=>simp at hs
   |y::t=>
    simp only[List.length_cons,List.take_succ_cons,List.cons.injEq]at hs;exact⟨x,t,t',by rw[hs.1],rfl⟩
 rcases hm with rfl|rfl|rfl|rfl|rfl|rfl|rfl|rfl
 all_goals
  refine⟨by omega,by omega, ?_⟩;obtain⟨x,t,t',e1,e2⟩:=key _ (by decide) h2;have hxx:=congrArg (fun w:ah=>w.headD 0) e2;simp only[List.headD_cons]at hxx;refine⟨x,t,e1, ?_, ?_⟩
  ·rw[←hxx];unfold q9;decide
  ·rw[←hxx];decide
def uv (t:ah):oT (94::t) 0=some 7:=by
 unfold oT opsL;have hn:∀w:ah,w≠[]→w.headD 0≠94→qx (94::t) w=false:=by
  intro w hw hx
  match w,hw with
  |x::r,_=>
   unfold qx;rw[Bool.and_eq_false_iff];right;rw[decide_eq_false_iff_not];intro h;simp only[List.length_cons,List.take_succ_cons,List.cons.injEq]at h;exact hx h.1.symm
 have hy:qx (94::t) (bP 7)=true:=by
  unfold qx;rw[show bP 7=[94]by decide];simp
 simp only[List.drop_zero,List.find?_cons,hn _ (show bP 2≠[]by decide) (by decide),hn _ (show bP 4≠[]by decide) (by decide),hn _ (show bP 6≠[]by decide) (by decide),hn _ (show bP 1≠[]by decide) (by decide),
  hn _ (show bP 3≠[]by decide) (by decide),hn _ (show bP 5≠[]by decide) (by decide),hy]
def zy (t:ah):bW (94::t)=(7,t):=by
 simp only[bW,uv];rw[show bP 7=[94]by decide];rfl
def uM (b:Int):∀(s cur:ah),∃r l,bd b s cur=(cur++r)::l
 |[],cur=>⟨[],[],by simp[bd]⟩
 |c::s,cur=>by
  simp only[bd];split
  ·exact⟨[],_,by rw[List.append_nil]⟩
  ·obtain⟨r,l,h⟩:=uM b s (cur++[c]);exact⟨c::r,l,by rw[h];simp⟩
def D7 {x:UInt8}{t:ah}(h:¬q9 x):fP (ai (fQ (x::t) 0).1 46)=false:=by
 have hx:x≠45∧x≠46∧aG x.toNat=false:=by
  refine⟨?_, ?_, ?_⟩
  ·rintro rfl;exact h (by unfold q9;decide)
  ·rintro rfl;exact h (by unfold q9;decide)
  ·cases hd:aG x.toNat with
   |false=>rfl
   |true=>exact absurd (mK hd).1 h
 have hp:∃r,(fQ (x::t) 0).1=x::r:=by
  unfold fQ;rw[List.drop_zero,List.findIdx?_cons];rw[if_neg (by simpa using hx.1)];cases t.findIdx? (fun c=>c==45)with
  |none=>exact⟨t,rfl⟩
  |some k=>exact⟨t.take k,by simp⟩
 obtain⟨r,hr⟩:=hp;rw[hr];have h46:¬((x.toNat:Int)=46):=fun e=>hx.2.1 (UInt8.toNat_inj.1 (by show x.toNat=46;omega))
 obtain⟨q,l,hs⟩:=uM 46 r [x];have e:ai (x::r) 46=(x::q)::l:=by
  unfold ai;simp only[bd];rw[if_neg h46];simpa using hs
 rw[e];unfold fP;rw[Bool.and_eq_false_iff];right;rw[aM (by simp)];have hn:dN ((x::q)::l)[0]! =false:=by
  show dN (x::q)=false;rw[xN];rw[aM (by simp)];have:aG (at8 (x::q) 0)=false:=by simpa[at8]using hx.2.2
  rw[this];simp
 rw[hn];rfl
def JG {s:ah}(h:jn s=bW s):fh s=if FR s (bW s).1 (cD s) (cT s).2=true then some (cL s)else none:=by
 unfold fh;simp only[h];rfl
def uH {s:ah}:dM s=if j6 s∧fP (cD s)=true∧jc (cL s)=true∧cW (cL s)=s then some (cL s)else none:=rfl
def DW {s:ah}(h:∀c∈s,c≠45):fQ s 0=(s,[]):=by
 unfold fQ;rw[List.drop_zero,List.findIdx?_eq_none_iff.2 (fun c hc=>by simpa using h c hc)]
def wO {k:bX}(hb:jc k=true)(h9:k.op=9):iP k=aF [46] (iY k++[[42]]):=by
 obtain⟨_,h0,h3,_,_⟩:=kQ hb;rw[rr h0 h3];unfold iP ig;rw[if_pos h9,h9];rfl
def nv {k:bX}{w:ah}(h:w∈iY k++[[42]]){c:UInt8}(hc:c∈w):aG c.toNat=true∨c=42:=by
 rcases List.mem_append.1 h with h|h
 ·have:=List.mem_of_mem_take h;obtain⟨n,_,rfl⟩:=List.mem_map.1 this;exact .inl (ec _ c hc)
 ·obtain rfl:=List.mem_singleton.1 h;exact .inr (List.mem_singleton.1 hc)
def wN {k:bX}{s:ah}(hb:jc k=true)(h9:k.op=9)(hs:iP k=s):(0<s.length∧at8 s (s.length-1)=42)∧fQ s 0=(s,[])∧ai s 46=iY k++[[42]]:=by
 have ht:=wO hb h9;obtain⟨_,h0,h3,_,_⟩:=kQ hb;rw[hs]at ht;have hch:∀c∈s,aG c.toNat=true∨c=42∨c=46:=by
  intro c hc;rw[ht]at hc;rcases jI 46 _ c hc with h|⟨w,hw,hcw⟩
  ·exact .inr (.inr h)
  ·rcases nv hw hcw with h|h
   ·exact .inl h
   ·exact .inr (.inl h)
 refine⟨?_,DW (fun c hc=>?_), ?_⟩
 ·have he:∃q,s=q++[42]:=by
   rw[ht,rr h0 h3];exact⟨dG k k.parts.toNat++(if 0<k.parts then [46]else []),by rw[List.append_assoc]⟩
  obtain⟨q,rfl⟩:=he;simp[at8]
 ·rintro rfl;rcases hch 45 hc with h|h|h
  ·revert h;decide
  ·revert h;decide
  ·revert h;decide
 ·rw[ht];refine gp (b:=46) (x:=46) rfl (by simp) fun w hw c hc=>?_
  rcases nv hw hc with h|h
  ·have:=(mJ h).1;omega
  ·rw[h];decide
def tz {k:bX}{s:ah}(hb:jc k=true)(h7:k.op=7)(hs:iP k=94::s):(∀c∈s,c≠42)∧∃c r,s=c::r∧aG c.toNat=true:=by
 have hp:=CS hb (by omega);have e:s=dG k k.parts.toNat++ig k:=by
  unfold iP at hs;rw[h7,show bP 7=[94]by decide]at hs;simpa using hs.symm
 obtain⟨c,r,h1,h2⟩:=ur k _ hp;refine⟨fun c hc=>?_,c,r++ig k,by rw[e,h1];rfl,h2⟩;rw[e]at hc;rcases List.mem_append.1 hc with hc|hc
 ·rcases zn _ c hc with h|h
  ·exact(mK h).2
  ·rw[h];decide
 ·unfold ig at hc;rw[if_neg (by omega)]at hc;split at hc
  ·cases hc
  ·rcases List.mem_cons.1 hc with rfl|hc
   ·decide
   ·have hv:=(kQ hb).1;simp only[en,Bool.and_eq_true]at hv;rcases zR hv.1.2 hc with h|h
    ·rintro rfl;revert h;decide
    ·rw[h];decide
def sY {s:ah}:FR s (bW s).1 (cD s) (cT s).2=true↔fP (cD s)=true∧cW (cL s)≠[]∧(cW (cL s)=s∨cW (cL s)=94::s):=xQ
def EU (s:ah):gZ s=fh s:=by
 have hcar:bW (94::s)=(7,s):=zy s;have hL7:cD (94::s)=ai (fQ s 0).1 46:=by
  unfold cD cT;rw[hcar];rfl
 have hK7:cL (94::s)=oc 7 (ai (fQ s 0).1 46) (fQ s 0).2:=by
  unfold cL;rw[hL7];unfold cT;rw[hcar]
 cases ho:oT s 0 with
 |some o=>
  obtain⟨o1,o8,x,t,hs,hx,hx94⟩:=DR ho;have hrw:bW s=(o,s.drop (bP o).length):=by simp only[bW,ho]
  have hsp:jn s=bW s:=by rw[hrw];simp only[jn,ho]
  have hstar:j6 s:=by
   intro h;rw[hrw]at h;simp only at h;omega
  have hcn:dM (94::s)=none:=gM fun h=>by
   have:=h.2.1;rw[hL7,hs,D7 hx]at this;cases this
  have hop:(cL s).op=o:=by show(bW s).1=o;rw[hrw]
  rw[JG hsp];by_cases hk:fP (cD s)=true∧cW (cL s)=s
  ·have hne:cW (cL s)≠[]:=by rw[hk.2,hs];simp
   have hb:=(nE hne).1;have hr:dM s=some (cL s):=by rw[uH,if_pos ⟨hstar,hk.1,hb,hk.2⟩]
   have hok:FR s (bW s).1 (cD s) (cT s).2=true:=sY.2 ⟨hk.1,hne,.inl hk.2⟩;rw[if_pos hok];unfold gZ;rw[hr];rfl
  ·have hr:dM s=none:=gM fun h=>hk ⟨h.2.1,h.2.2.2⟩
   have hok:¬FR s (bW s).1 (cD s) (cT s).2=true:=fun h=>by
    obtain⟨h1,h2,h3⟩:=sY.1 h;rcases h3 with h3|h3
    ·exact hk ⟨h1,h3⟩
    ·obtain⟨hb,he⟩:=nE h2;have h3':iP (cL s)=94::s:=by rw[←he];exact h3
     have h7:o=7:=by
      have hh:∃y w,bP o=y::w∧(y=94→o=7):=by
       have:o=1∨o=2∨o=3∨o=4∨o=5∨o=6∨o=7∨o=8:=by omega
       rcases this with rfl|rfl|rfl|rfl|rfl|rfl|rfl|rfl
       ·exact⟨61,[],by decide,by decide⟩
       ·exact⟨33,[61],by decide,by decide⟩
       ·exact⟨60,[],by decide,by decide⟩
       ·exact⟨60,[61],by decide,by decide⟩
       ·exact⟨62,[],by decide,by decide⟩
       ·exact⟨62,[61],by decide,by decide⟩
       ·exact⟨94,[],by decide,by decide⟩
       ·exact⟨126,[],by decide,by decide⟩
      obtain⟨y,w,e1,e2⟩:=hh;unfold iP at h3';rw[hop,e1]at h3';simp only[List.cons_append,List.cons.injEq]at h3';exact e2 h3'.1
     obtain⟨_,c,r,e1,e2⟩:=tz hb (by rw[hop];exact h7) h3';rw[hs]at e1;simp only[List.cons.injEq]at e1;rw[←e1.1]at e2;exact hx (mK e2).1
   rw[if_neg hok];unfold gZ;rw[hr,if_neg (by simp),hcn]
 |none=>
  have hrw:bW s=(9,s):=by simp only[bW,ho]
  have h94:∀t,s≠94::t:=by
   rintro t rfl;rw[uv]at ho;cases ho
  have hop:(cL s).op=9:=by show(bW s).1=9;rw[hrw]
  have hst7:j6 (94::s):=by
   intro h;rw[hcar]at h;simp only at h;omega
  by_cases hl:0<s.length∧at8 s (s.length-1)=42
  ·have hsp:jn s=bW s:=by rw[hrw];simp only[jn,ho,if_pos hl]
   have hcn:dM (94::s)=none:=gM fun h=>by
    obtain⟨_,h2,h3,h4⟩:=h;have he:=(nE (c:=cL (94::s)) (by rw[h4];simp)).2;rw[h4]at he;have hno:=(tz h3 (by rw[hK7];rfl) he.symm).1;have hmem:s[s.length-1]'(by omega)∈s:=List.getElem_mem _;refine hno _ hmem (UInt8.toNat_inj.1 ?_);have:=hl.2;rw[nB s _ (by omega)]at this;show _=42;omega
   rw[JG hsp];by_cases hk:fP (cD s)=true∧cW (cL s)=s
   ·have hne:cW (cL s)≠[]:=by
     rw[hk.2];intro h;rw[h]at hl;simp at hl
    obtain⟨hb,he⟩:=nE hne;obtain⟨_,g2,g3⟩:=wN (s:=s) hb hop (he.symm.trans hk.2);have hstar:j6 s:=by
     intro _;have hP:cT s=(s,[]):=by unfold cT;rw[hrw];exact g2
     rw[hP];simp only;rw[g3];simp
    have hr:dM s=some (cL s):=by rw[uH,if_pos ⟨hstar,hk.1,hb,hk.2⟩]
    have hok:FR s (bW s).1 (cD s) (cT s).2=true:=sY.2 ⟨hk.1,hne,.inl hk.2⟩;rw[if_pos hok];unfold gZ;rw[hr];rfl
   ·have hr:dM s=none:=gM fun h=>hk ⟨h.2.1,h.2.2.2⟩
    have hok:¬FR s (bW s).1 (cD s) (cT s).2=true:=fun h=>by
     obtain⟨h1,h2,h3⟩:=sY.1 h;rcases h3 with h3|h3
     ·exact hk ⟨h1,h3⟩
     ·obtain⟨hb,he⟩:=nE h2;have h3':iP (cL s)=94::s:=by rw[←he];exact h3
      have ht:=wO hb hop;rw[h3']at ht;have hm:(94:UInt8)∈aF [46] (iY (cL s)++[[42]]):=by rw[←ht];simp
      rcases jI 46 _ _ hm with h|⟨w,hw,hcw⟩
      ·revert h;decide
      ·rcases nv hw hcw with h|h
       ·revert h;decide
       ·revert h;decide
    rw[if_neg hok];unfold gZ;rw[hr,if_neg (by simp),hcn]
  ·have hsp:jn s=(7,s):=by simp only[jn,ho,if_neg hl]
   have hr:dM s=none:=gM fun h=>by
    obtain⟨h1,h2,h3,h4⟩:=h;have he:iP (cL s)=s:=(if_pos h3:cW (cL s)=iP (cL s)).symm.trans h4;exact hl (wN h3 hop he).1
   have h6:fh s=if FR s 7 (ai (fQ s 0).1 46) (fQ s 0).2=true then some (cL (94::s))else none:=by
    unfold fh;simp only[hsp];rw[hK7];rfl
   have hRC:gZ s=dM (94::s):=by
    unfold gZ;rw[hr];rfl
   rw[hRC,h6,uH];by_cases hok:FR s 7 (ai (fQ s 0).1 46) (fQ s 0).2=true
   ·rw[if_pos hok];obtain⟨h1,h2,h3⟩:=xQ.1 hok;obtain⟨hb,he⟩:=nE h2;rcases h3 with h3|h3
    ·exfalso;rw[he]at h3;have hh:∃w,iP (oc 7 (ai (fQ s 0).1 46) (fQ s 0).2)=94::w:=by
      unfold iP;exact⟨_,rfl⟩
     obtain⟨w,hw⟩:=hh;exact h94 w (by rw[←h3,hw])
    ·rw[if_pos ⟨hst7,by rw[hL7];exact h1,by rw[hK7];exact hb,by rw[hK7];exact h3⟩]
   ·rw[if_neg hok,if_neg];rintro⟨_,g2,g3,g4⟩;rw[hK7]at g3 g4;rw[hL7]at g2;exact hok (xQ.2 ⟨g2,by rw[g4];simp,.inr g4⟩)
abbrev Alt:=List bX
abbrev xi:=List Alt
def px (a:Alt):D:=.sl 7 (a.map bX.D)
def As (a:Alt):(px a).aK=true:=rfl
def sQ (l k:Nat)(es:List D)(r:List Alt):kK l k es (r.map px)=r.map px:=tP l k es _ (bq As _)
def iG (r:xi):D:=.agg [.sl 1 (r.map px)]
def lT (a:Alt):Bool:=decide (1≤a.length)&&decide (a.length≤6)&&cn (fun k=>jc a[k]!) 0 a.length
def kv (r:xi):Bool:=decide (1≤r.length)&&decide (r.length≤6)&&cn (fun i=>lT r[i]!) 0 r.length
def qq (a:Alt):ah:=aF [44,32] (a.map cW)
def D4 (r:xi):ah:=aF [32,124,124,32] (r.map qq)
def bX.lo (c:bX):Prop:=c.v.pre.length≤1000∧c.v.build.length≤1000
def bX.lo.sm {c:bX}(h:c.lo):c.v.sm:=⟨Nat.le_trans h.1 (by decide),Nat.le_trans h.2 (by decide)⟩
def nt (r:xi):Prop:=∀a∈r,∀c∈a,c.lo
def yI {c:bX}(h:c.lo):(cW c).length≤1100:=by
 unfold cW;split
 ·rename_i hb;obtain⟨hv,h0,h3,_⟩:=kQ hb;have h1:=rk c.op;have h2:=nQ hv c.parts.toNat;have ht:(ig c).length≤1001:=by
   unfold ig;have:=h.1;split
   ·split<;>simp
   ·split
    ·simp
    ·simp only[List.length_cons];omega
  simp only[iP,List.length_append];omega
 ·simp
def rO (b:ah)(M:Nat):∀(l:List ah),(∀t∈l,t.length≤M)→(aF b l).length≤l.length*(M+b.length)
 |[],_=>by simp[aF]
 |[t],h=>by
  have:=h t (.head _);simp only[aF,List.length_singleton,Nat.one_mul];omega
 |t::u::r,h=>by
  have h1:=h t (.head _);have h2:=rO b M (u::r) fun x hx=>h x (.tail _ hx)
  simp only[aF,List.length_append];simp only[List.length_cons,Nat.add_mul,Nat.one_mul]at h2⊢;omega
def EE {a:Alt}(h:∀c∈a,c.lo)(hl:a.length≤6):(qq a).length≤6612:=by
 have:=rO [44,32] 1100 (a.map cW) (fun t ht=>by
  obtain⟨c,hc,rfl⟩:=List.mem_map.1 ht;exact yI (h c hc))
 simp only[List.length_map]at this;have h2:a.length*(1100+([44,32]:ah).length)≤6*1102:=Nat.mul_le_mul hl (by decide);unfold qq;omega
def E3 {r:xi}(h:kv r=true){i:Nat}(hi:i<r.length):lT r[i]! =true:=by
 simp only[kv,Bool.and_eq_true,decide_eq_true_eq]at h;exact dh.1 h.2 i (by omega) hi
def CO {a:Alt}(h:lT a=true):1≤a.length∧a.length≤6:=by
 simp only[lT,Bool.and_eq_true,decide_eq_true_eq]at h;exact h.1
def iM {α β:Type} [Inhabited α](f:α→β)(l:List α){i:Nat}(h:i<l.length):(l.map f).take (i+1)=(l.map f).take i++[f l[i]!]:=by
 rw[List.take_add_one];simp[h]
def qV (r:xi):Bool:=kv r&&decide ((D4 r).length≤96)
def wC (r:xi):ah:=if qV r=true then D4 r else []
def aL:ah→ah→List ah
 |[],cur=>[cur]
 |[c],cur=>[cur++[c]]
 |c::d::r,cur=>if c=124∧d=124 then cur::aL r []else aL (d::r) (cur++[c])
def pz:ah→ah
 |[]=>[]
 |c::r=>if c=32 then pz r else c::r
def er (s:ah):ah:=(pz (pz s).reverse).reverse
def kN:∀s,(pz s).length≤s.length
 |[]=>Nat.le_refl _
 |c::r=>by
  unfold pz;split
  ·have:=kN r;simp only[List.length_cons];omega
  ·exact Nat.le_refl _
def vH (s:ah):(er s).length≤s.length:=by
 have h1:=kN s;have h2:=kN (pz s).reverse;simp only[List.length_reverse]at h2;simp only[er,List.length_reverse];omega
def lQ:∀(s cur:ah),(aL s cur).length≤s.length+1∧(∀t∈aL s cur,t.length≤cur.length+s.length)
 |[],cur=>by simp[aL]
 |[c],cur=>by simp[aL]
 |c::d::r,cur=>by
  unfold aL;split
  ·have:=lQ r [];refine⟨by simp only[List.length_cons];omega,fun t ht=>?_⟩;rcases List.mem_cons.1 ht with rfl|ht
   ·simp
   ·have:=this.2 t ht;simp only[List.length_nil,List.length_cons]at this⊢;omega
  ·have:=lQ (d::r) (cur++[c]);refine⟨by have:=this.1;simp only[List.length_cons]at this⊢;omega,fun t ht=>?_⟩;have:=this.2 t ht;simp only[List.length_append,List.length_cons,List.length_nil]at this⊢;omega
def wOK (t:ah):Bool:=cn (fun k=>(fh (er (ai t 44)[k]!)).isSome) 0 (ai t 44).length
def Cn (s:ah):Bool:=cn (fun i=>wOK (aL s [])[i]!) 0 (aL s []).length
def qt (t:ah):Alt:=(ai t 44).map fun x=>(fh (er x)).getD dx
def kH (s:ah):xi:=(aL s []).map qt
def jm (s:ah):xi×Int:=
 if 96<s.length then([],3)else if Cn s=false then([],6)else if kv (kH s)=false then([],6)else if 96<(D4 (kH s)).length then([],3)else(kH s,0)
def nR (s:ah):Bool:=decide ((jm s).2=0)&&decide (wC (jm s).1=s)
def ET {s:ah}(h:s.length≤1000):((fh s).getD dx).lo:=by
 unfold fh;simp only;split
 ·have h1:=Bq s;have h2:=zt (jn s).2;exact⟨by show(fQ (jn s).2 0).2.length≤1000;omega,by show([]:ah).length≤1000;decide⟩
 ·exact⟨by show([]:ah).length≤1000;decide,by show([]:ah).length≤1000;decide⟩
def Co {s:ah}(h:s.length≤1000):nt (kH s):=by
 intro a ha c hc;obtain⟨t,ht,rfl⟩:=List.mem_map.1 ha;obtain⟨x,hx,rfl⟩:=List.mem_map.1 hc;have h1:=(lQ s []).2 t ht;have h2:=dq t 44 hx;have h3:=vH x;simp only[List.length_nil]at h1;exact ET (by omega)
def IY {s:ah}:nt (jm s).1∧((jm s).2=0→kv (jm s).1=true):=by
 unfold jm;split
 ·exact⟨(fun a ha=>by cases ha),fun h=>by cases h⟩
 ·split
  ·exact⟨(fun a ha=>by cases ha),fun h=>by cases h⟩
  ·split
   ·exact⟨(fun a ha=>by cases ha),fun h=>by cases h⟩
   ·rename_i hf;split
    ·exact⟨(fun a ha=>by cases ha),fun h=>by cases h⟩
    ·exact⟨Co (by omega),fun _=>by simpa using hf⟩
def Nd.eq (a b:Nd):fE (Nd.D a).cells (Nd.D b).cells=decide (a=b):=by
 obtain⟨a1,a2,a3,a4,a5⟩:=a;obtain⟨b1,b2,b3,b4,b5⟩:=b;simp only[Nd.D,D.cells,fE,pK,sO,Nd.mk.injEq,Bool.and_true];simp only[Bool.decide_and]
def gY (n:Nd):Bool:=decide (n.key=0)&&decide (n.text=[])
def om (n:Nd):Bool:=decide (n.op=1)&&decide (0≤n.key)&&decide (n.key<3)&&bF n.text&&decide (n.a=0)&&decide (n.b=0)
def ie (n:Nd)(i:Nat)(o:List Int):Option (List Int):=
 if om n=true then some (o++[(i:Int)])
 else if(((n.op=2∧gY n=true)∧0<o.length)∧n.a=o[o.length-1]!)∧n.b=0 then some (o.take (o.length-1)++[(i:Int)])
 else if((((n.op=3∨n.op=4)∧gY n=true)∧1<o.length)∧n.a=o[o.length-2]!)∧n.b=o[o.length-1]! then some (o.take (o.length-2)++[(i:Int)])
 else none
def kl:List Nd→Nat→List Int→Option (List Int)
 |[],_,o=>some o
 |n::r,i,o=>match ie n i o with
  |some o'=>kl r (i+1) o'
  |none=>none
def nw (l:List Nd):Bool:=match kl l 0 []with
 |some o=>decide (l.length=0) ||decide (o.length=1)
 |none=>false
def vS {α:Type} [Inhabited α](l:List α){i:Nat}(h:i<l.length):l.drop i=l[i]! ::l.drop (i+1):=by
 rw[List.drop_eq_getElem_cons h];simp[h]
def j0 {l:List Nd}{i:Nat}{o o':List Int}(h:i<l.length)(hs:ie l[i]! i o=some o'):kl (l.drop i) i o=kl (l.drop (i+1)) (i+1) o':=by
 rw[vS l h];simp only[kl,hs]
def eg {l:List Nd}{i:Nat}{o:List Int}(h:i<l.length)(hs:ie l[i]! i o=none):kl (l.drop i) i o=none:=by
 rw[vS l h];simp only[kl,hs]
def DU {l:List Nd}{i:Nat}{o:List Int}(h:l.length≤i):kl (l.drop i) i o=some o:=by
 rw[List.drop_eq_nil_of_le h];rfl
def GV {l:List Nd}(h:kl l 0 []=none):nw l=false:=by simp only[nw,h]
def gr {l:List Nd}(h:kl l 0 []=none):(true&&nw l)=false:=by rw[GV h];rfl
def yk (S:List Int):Int→List Int→Prop
 |e,[]=>e=0
 |e,t::r=>t=e-1∧0≤t∧0≤S[t.toNat]! ∧S[t.toNat]! ≤t∧yk S S[t.toNat]! r
def xo {S:List Int}{i:Nat}{v:Int}:∀{r:List Int}{e:Int},e≤i→yk S e r→yk (S.set i v) e r
 |[],e,_,h=>h
 |t::r,e,he,⟨h1,h2,h3,h4,h5⟩=>by
  have hg:(S.set i v)[t.toNat]! =S[t.toNat]! :=by
   have:i≠t.toNat:=by omega
   simp[List.getElem?_set,this]
  exact⟨h1,h2,by rw[hg];exact h3,by rw[hg];exact h4,by rw[hg];exact xo (by omega) h5⟩
def I0 {S:List Int}{i:Nat}{v:Int}(h:i<S.length):(S.set i v)[i]! =v:=by
 simp[h]
def pD {S:List Int}{i:Nat}{v:Int}{r:List Int}(h:i<S.length)(h0:0≤v)(h1:v≤i)(hc:yk S v r):yk (S.set i v) ((i+1:Nat):Int) ((i:Int)::r):=by
 have hg:(S.set i v)[((i:Nat):Int).toNat]! =v:=by rw[Int.toNat_natCast];exact I0 h
 exact⟨by omega,by omega,by rw[hg];exact h0,by rw[hg];exact h1,by rw[hg];exact xo (by omega) hc⟩
def pE {S:List Int}{i:Nat}{o:List Int}(h:yk S (i:Nat) o.reverse):(0<o.length↔1≤i)∧(1≤i→o[o.length-1]! =(i:Int) -1∧0≤S[i-1]! ∧S[i-1]! ≤(i:Int) -1∧yk S S[i-1]! (o.take (o.length-1)).reverse):=by
 rcases List.eq_nil_or_concat o with rfl|⟨p,t,rfl⟩
 ·have h:((i:Nat):Int)=0:=h;exact⟨⟨fun h=>absurd h (by simp),fun h2=>by omega⟩,fun h2=>by omega⟩
 ·rw[List.concat_eq_append,List.reverse_append,List.reverse_singleton,List.singleton_append]at h;obtain⟨h1,h2,h3,h4,h5⟩:=h;have ht:t.toNat=i-1:=by omega
  rw[ht]at h3 h4 h5;rw[List.concat_eq_append];refine⟨⟨fun _=>by omega,fun _=>by simp⟩,fun _=>⟨by simp[h1],h3,by omega, ?_⟩⟩;rw[List.take_append_of_le_length (by simp),List.take_of_length_le (by simp)];exact h5
def xp {S:List Int}{i:Nat}{o:List Int}(h:yk S (i:Nat) o.reverse):(1<o.length↔1≤i∧1≤S[i-1]!)∧(1<o.length→o[o.length-2]! =S[i-1]! -1∧0≤S[(S[i-1]! -1).toNat]! ∧S[(S[i-1]! -1).toNat]! ≤S[i-1]! -1∧yk S S[(S[i-1]! -1).toNat]! (o.take (o.length-2)).reverse):=by
 obtain⟨h1,h2⟩:=pE h;by_cases hi:1≤i
 ·obtain⟨g1,g2,g3,g4⟩:=h2 hi;have hl:=h1.2 hi;rcases List.eq_nil_or_concat o with rfl|⟨p,t,rfl⟩
  ·simp at hl
  ·rw[List.concat_eq_append]at g4⊢;rw[List.take_append_of_le_length (by simp),List.take_of_length_le (by simp)]at g4;rcases List.eq_nil_or_concat p with rfl|⟨q,u,rfl⟩
   ·have g4:S[i-1]! =0:=g4;exact⟨⟨fun h=>absurd h (by simp),fun h=>by omega⟩,fun h=>absurd h (by simp)⟩
   ·rw[List.concat_eq_append]at g4⊢;rw[List.reverse_append,List.reverse_singleton,List.singleton_append]at g4;obtain⟨k1,k2,k3,k4,k5⟩:=g4;subst k1;refine⟨⟨fun _=>⟨hi,by omega⟩,fun _=>by simp⟩,fun _=>⟨by simp,k3,k4, ?_⟩⟩;rw[List.append_assoc,List.take_append_of_le_length (by simp),List.take_of_length_le (by simp)];exact k5
 ·have:¬0<o.length:=fun h=>hi (h1.1 h)
  exact⟨⟨fun h=>by omega,fun h=>absurd h.1 hi⟩,fun h=>by omega⟩
def GW {S:List Int}{n:Nat}{o:List Int}(t1:0<o.length↔1≤n)(t2:1≤n→o[o.length-1]! =(n:Int) -1∧0≤S[n-1]! ∧S[n-1]! ≤(n:Int) -1∧yk S S[n-1]! (o.take (o.length-1)).reverse)(u1:1<o.length↔1≤n∧1≤S[n-1]!):
  (decide (n=0) ||decide (o.length=1))=(decide ((n:Nat)=(0:Int)) ||decide (S[n-1]! =0)):=by
 rw[Bool.eq_iff_iff];simp only[Bool.or_eq_true,decide_eq_true_eq];constructor
 ·rintro(h|h)
  ·left;omega
  ·by_cases hn:1≤n
   ·have:=t2 hn;right;omega
   ·left;omega
 ·rintro(h|h)
  ·left;omega
  ·by_cases hn:1≤n
   ·right;omega
   ·left;omega
def ue {n:Nd}(h:om n=true):n.op=1:=by simp only[om,Bool.and_eq_true,decide_eq_true_eq]at h;exact h.1.1.1.1.1
def Bu {n:Nd}{i:Nat}{o:List Int}(h:om n=true):ie n i o=some (o++[(i:Int)]):=if_pos h
def ya {n:Nd}{i:Nat}{o:List Int}(h1:n.op=1)(h:om n=false):ie n i o=none:=by
 unfold ie;rw[if_neg (by simp[h]),if_neg (by rintro⟨⟨⟨⟨h,_⟩,_⟩,_⟩,_⟩;omega),if_neg (by rintro⟨⟨⟨⟨h|h,_⟩,_⟩,_⟩,_⟩<;>omega)]
def zQ {n:Nd}{i:Nat}{o:List Int}(h1:n.op≠1)(h2:n.op≠2)(h3:n.op≠3)(h4:n.op≠4):ie n i o=none:=by
 unfold ie;rw[if_neg (fun h=>h1 (ue h)),if_neg (by rintro⟨⟨⟨⟨h,_⟩,_⟩,_⟩,_⟩;exact h2 h),if_neg (by rintro⟨⟨⟨⟨h|h,_⟩,_⟩,_⟩,_⟩;exact h3 h;exact h4 h)]
def rq {S:List Int}{n:Nd}{i:Nat}{o:List Int}(hc:yk S (i:Nat) o.reverse)(h2:n.op=2):ie n i o=if(1≤i∧n.a=(i:Int) -1∧n.b=0)∧gY n=true then some (o.take (o.length-1)++[(i:Int)])else none:=by
 obtain⟨t1,t2⟩:=pE hc;unfold ie;rw[if_neg (fun h=>by have:=ue h;omega)];by_cases hk:(1≤i∧n.a=(i:Int) -1∧n.b=0)∧gY n=true
 ·rw[if_pos hk,if_pos ⟨⟨⟨⟨h2,hk.2⟩,t1.2 hk.1.1⟩,by rw[(t2 hk.1.1).1];exact hk.1.2.1⟩,hk.1.2.2⟩]
 ·rw[if_neg hk,if_neg,if_neg (by rintro⟨⟨⟨⟨h|h,_⟩,_⟩,_⟩,_⟩<;>omega)];rintro⟨⟨⟨⟨_,g1⟩,g2⟩,g3⟩,g4⟩;have hi:=t1.1 g2;exact hk ⟨⟨hi,by rw[g3];exact(t2 hi).1,g4⟩,g1⟩
def jM {S:List Int}{n:Nd}{i:Nat}{o:List Int}(hc:yk S (i:Nat) o.reverse)(h2:n.op=3∨n.op=4):ie n i o=if(2≤i∧n.b=(i:Int) -1∧1≤S[i-1]! ∧n.a=S[i-1]! -1)∧gY n=true then some (o.take (o.length-2)++[(i:Int)])else none:=by
 obtain⟨t1,t2⟩:=pE hc;obtain⟨u1,u2⟩:=xp hc;unfold ie;rw[if_neg (fun h=>by have:=ue h;omega),if_neg (by rintro⟨⟨⟨⟨h,_⟩,_⟩,_⟩,_⟩;omega)];by_cases hk:(2≤i∧n.b=(i:Int) -1∧1≤S[i-1]! ∧n.a=S[i-1]! -1)∧gY n=true
 ·have hl:=u1.2 ⟨by omega,hk.1.2.2.1⟩;rw[if_pos hk,if_pos ⟨⟨⟨⟨h2,hk.2⟩,hl⟩,by rw[(u2 hl).1];exact hk.1.2.2.2⟩,by rw[(t2 (by omega)).1];exact hk.1.2.1⟩]
 ·rw[if_neg hk,if_neg];rintro⟨⟨⟨⟨_,g1⟩,g2⟩,g3⟩,g4⟩;obtain⟨hi,hS⟩:=u1.1 g2;obtain⟨w1,w2,w3,_⟩:=t2 hi;exact hk ⟨⟨by omega,by rw[g4];exact w1,hS,by rw[g3];exact(u2 g2).1⟩,g1⟩
def fN (l:List Nd):Prop:=∀j,j<l.length→(l[j]!.op=1→0≤l[j]!.key∧l[j]!.key<3∧l[j]!.text.length≤12)∧(l[j]!.op≠1→0≤l[j]!.a∧l[j]!.a<j)∧(l[j]!.op≠1→l[j]!.op≠2→0≤l[j]!.b∧l[j]!.b<j)
def Bd {l:List Nd}:∀(k i:Nat)(o o':List Int),i+k=l.length→(∀x∈o,0≤x∧x<(i:Int))→kl (l.drop i) i o=some o'→
  ∀j,i≤j→j<l.length→(l[j]!.op=1→0≤l[j]!.key∧l[j]!.key<3∧l[j]!.text.length≤12)∧(l[j]!.op≠1→0≤l[j]!.a∧l[j]!.a<j)∧(l[j]!.op≠1→l[j]!.op≠2→0≤l[j]!.b∧l[j]!.b<j):=by
 intro k;induction k with
 |zero=>intro i o o' h1 h2 h3 j h4 h5;omega
 |succ k ih=>
  intro i o o' h1 h2 h3 j h4 h5;have hi:i<l.length:=by omega
  cases hs:ie l[i]! i o with
  |none=>rw[eg hi hs]at h3;cases h3
  |some o2=>
   rw[j0 hi hs]at h3;have hm:∀m,0<m→m≤o.length→0≤o[o.length-m]! ∧o[o.length-m]! <(i:Int):=fun m hm1 hm2=>h2 _ (bJ (by omega))
   have hsub:∀m,∀x∈o.take m++[(i:Int)],0≤x∧x<((i+1:Nat):Int):=fun m x hx=>by
    rcases List.mem_append.1 hx with hx|hx
    ·have:=h2 x (List.mem_of_mem_take hx);omega
    ·simp only[List.mem_singleton]at hx;omega
   unfold ie at hs;split at hs
   ·rename_i hl;cases hs;rcases Nat.lt_or_ge i j with hj|hj
    ·exact ih (i+1) _ o' (by omega) (by have:=hsub o.length;rwa [List.take_of_length_le (Nat.le_refl _)]at this) h3 j hj h5
    ·obtain rfl:i=j:=by omega
     simp only[om,Bool.and_eq_true,decide_eq_true_eq]at hl;have hw:=hl.1.1.2;simp only[bF,Bool.and_eq_true,decide_eq_true_eq]at hw;exact⟨fun _=>⟨hl.1.1.1.1.2,hl.1.1.1.2,hw.1.2⟩,fun h=>absurd hl.1.1.1.1.1 h,fun h=>absurd hl.1.1.1.1.1 h⟩
   ·split at hs
    ·rename_i hl;cases hs;rcases Nat.lt_or_ge i j with hj|hj
     ·exact ih (i+1) _ o' (by omega) (hsub _) h3 j hj h5
     ·obtain rfl:i=j:=by omega
      obtain⟨⟨⟨⟨g1,g2⟩,g3⟩,g4⟩,g5⟩:=hl;have:=hm 1 (by omega) (by omega);exact⟨fun h=>by omega,fun _=>by rw[g4];exact this,fun _ h=>absurd g1 h⟩
    ·split at hs
     ·rename_i hl;cases hs;rcases Nat.lt_or_ge i j with hj|hj
      ·exact ih (i+1) _ o' (by omega) (hsub _) h3 j hj h5
      ·obtain rfl:i=j:=by omega
       obtain⟨⟨⟨⟨g1,g2⟩,g3⟩,g4⟩,g5⟩:=hl;have q1:=hm 1 (by omega) (by omega);have q2:=hm 2 (by omega) (by omega);exact⟨fun h=>by omega,fun _=>by rw[g4];exact q2,fun _ _=>by rw[g5];exact q1⟩
     ·cases hs
def uR {l:List Nd}(h:nw l=true):fN l:=by
 unfold nw at h;cases ho:kl l 0 []with
 |none=>rw[ho]at h;cases h
 |some o=>exact fun j hj=>Bd l.length 0 [] o (by omega) (by simp) ho j (Nat.zero_le _) hj
def B4 {n:Nd}(h:n.op=1):om n=!((((decide (n.key<0) ||decide (3≤n.key)) ||!bF n.text) ||!decide (n.a=0)) ||!decide (n.b=0)):=by
 simp only[om,h,decide_true,Bool.true_and];rw[show decide (n.key<0)=!decide (0≤n.key)from by rw[←decide_not];exact decide_eq_decide.2 (by omega),show decide (3≤n.key)=!decide (n.key<3)from by rw[←decide_not];exact decide_eq_decide.2 (by omega)];generalize decide (0≤n.key)=a;generalize decide (n.key<3)=b;generalize bF n.text=c;generalize decide (n.a=0)=d;generalize decide (n.b=0)=e;cases a<;>cases b<;>cases c<;>cases d<;>cases e<;>rfl
def tc {S:List Int}{i:Nat}(h:i<S.length)(v:Int):(S.map (D.int .i64)).set (0+i) (uO ((S.map (D.int .i64)).getD (0+i) .any) 1 1 0 (.int .i64 v))=(S.set i v).map (D.int .i64):=by
 rw[Nat.zero_add,getD_map (q:=D.int .i64) h,List.map_set];rfl
abbrev Jk:=List Nd
def j8 (m:Jk):D:=.agg [.sl 5 (m.map Nd.D)]
def lZ:List ah:=[[111,115],[97,114,99,104],[97,98,105]]
def xG (k:Int):ah:=if k=0 then [111,115]else if k=1 then [97,114,99,104]else [97,98,105]
def j7 (s:ah)(b:Bool):ah:=if b=true then [40,32]++s++[32,41]else s
def ny (l:List Nd):Nat→Int→ah
 |0,_=>[]
 |f+1,i=>
  if l[i.toNat]!.op=1 then xG l[i.toNat]!.key++[32,61,32]++l[i.toNat]!.text
  else if l[i.toNat]!.op=2 then
   if l[l[i.toNat]!.a.toNat]!.op=1 then xG l[l[i.toNat]!.a.toNat]!.key++[32,33,61,32]++l[l[i.toNat]!.a.toNat]!.text
   else [110,111,116,32]++j7 (ny l f l[i.toNat]!.a) (!decide (l[l[i.toNat]!.a.toNat]!.op=2))
  else if l[i.toNat]!.op=3 then j7 (ny l f l[i.toNat]!.a) (decide (l[l[i.toNat]!.a.toNat]!.op=4))++[32,97,110,100,32]++j7 (ny l f l[i.toNat]!.b) (decide (l[l[i.toNat]!.b.toNat]!.op=4) ||decide (l[l[i.toNat]!.b.toNat]!.op=3))
  else ny l f l[i.toNat]!.a++[32,111,114,32]++j7 (ny l f l[i.toNat]!.b) (decide (l[l[i.toNat]!.b.toNat]!.op=4))
def kI (l:List Nd)(i:Int):ah:=ny l (i.toNat+1) i
def tf {l:List Nd}(hk:fN l):∀(f g:Nat)(i:Int),0≤i→i<l.length→i<f→i<g→ny l f i=ny l g i
 |0,_,_,_,_,h,_=>by omega
 |_,0,_,_,_,_,h=>by omega
 |f+1,g+1,i,h0,h1,h2,h3=>by
  obtain⟨k1,k2,k3⟩:=hk i.toNat (by omega);simp only[ny];by_cases e1:l[i.toNat]!.op=1
  ·rw[if_pos e1,if_pos e1]
  ·rw[if_neg e1,if_neg e1];have ka:=k2 e1;rw[tf hk f g l[i.toNat]!.a (by omega) (by omega) (by omega) (by omega)];by_cases e2:l[i.toNat]!.op=2
   ·rw[if_pos e2,if_pos e2]
   ·have kb:=k3 e1 e2;rw[tf hk f g l[i.toNat]!.b (by omega) (by omega) (by omega) (by omega)]
def I5 {l:List Nd}(hk:fN l){i:Int}(h0:0≤i)(h1:i<l.length):kI l i=
  if l[i.toNat]!.op=1 then xG l[i.toNat]!.key++[32,61,32]++l[i.toNat]!.text
  else if l[i.toNat]!.op=2 then
   if l[l[i.toNat]!.a.toNat]!.op=1 then xG l[l[i.toNat]!.a.toNat]!.key++[32,33,61,32]++l[l[i.toNat]!.a.toNat]!.text
   else [110,111,116,32]++j7 (kI l l[i.toNat]!.a) (!decide (l[l[i.toNat]!.a.toNat]!.op=2))
  else if l[i.toNat]!.op=3 then j7 (kI l l[i.toNat]!.a) (decide (l[l[i.toNat]!.a.toNat]!.op=4))++[32,97,110,100,32]++j7 (kI l l[i.toNat]!.b) (decide (l[l[i.toNat]!.b.toNat]!.op=4) ||decide (l[l[i.toNat]!.b.toNat]!.op=3))
  else kI l l[i.toNat]!.a++[32,111,114,32]++j7 (kI l l[i.toNat]!.b) (decide (l[l[i.toNat]!.b.toNat]!.op=4)):=by
 obtain⟨k1,k2,k3⟩:=hk i.toNat (by omega)
 conv=>lhs;unfold kI
 simp only[ny];by_cases e1:l[i.toNat]!.op=1
 ·rw[if_pos e1,if_pos e1]
 ·rw[if_neg e1,if_neg e1];have ka:=k2 e1;rw[show ny l i.toNat l[i.toNat]!.a=kI l l[i.toNat]!.a from tf hk _ _ _ (by omega) (by omega) (by omega) (by omega)];by_cases e2:l[i.toNat]!.op=2
  ·rw[if_pos e2,if_pos e2]
  ·have kb:=k3 e1 e2;rw[show ny l i.toNat l[i.toNat]!.b=kI l l[i.toNat]!.b from tf hk _ _ _ (by omega) (by omega) (by omega) (by omega)]
def nX (s:ah)(b:Bool):(j7 s b).length≤s.length+4:=by
 unfold j7;split<;>simp
def we {k:Int}(h0:0≤k)(h3:k<3):lZ[k.toNat]! =xG k:=by
 obtain rfl|rfl|rfl:k=0∨k=1∨k=2:=by omega
 ·rfl
 ·rfl
 ·rfl
def pU (k:Int):(xG k).length≤4:=by
 unfold xG;split
 ·decide
 ·split<;>decide
def uS {l:List Nd}(hk:fN l):∀(f:Nat)(i:Int),0≤i→i<l.length→(ny l f i).length+20≤20*2^(f+1)
 |0,i,_,_=>by simp[ny]
 |f+1,i,h0,h1=>by
  obtain⟨k1,k2,k3⟩:=hk i.toNat (by omega);have hp:20*2^(f+1+1)=20*2^(f+1)+20*2^(f+1):=by rw[Nat.pow_succ 2 (f+1)];omega
  have h1p:1≤2^(f+1):=Nat.one_le_two_pow;simp only[ny];by_cases e1:l[i.toNat]!.op=1
  ·rw[if_pos e1];have:=pU l[i.toNat]!.key;have:=k1 e1;simp only[List.length_append,List.length_cons,List.length_nil];omega
  ·rw[if_neg e1];have ka:=k2 e1;have la:=uS hk f l[i.toNat]!.a (by omega) (by omega);have wa:=fun b=>nX (ny l f l[i.toNat]!.a) b
   by_cases e2:l[i.toNat]!.op=2
   ·rw[if_pos e2];split
    ·rename_i e3;have:=pU l[l[i.toNat]!.a.toNat]!.key;have:=((hk l[i.toNat]!.a.toNat (by omega)).1 e3).2.2;simp only[List.length_append,List.length_cons,List.length_nil];omega
    ·have:=wa (!decide (l[l[i.toNat]!.a.toNat]!.op=2));simp only[List.length_append,List.length_cons,List.length_nil];omega
   ·rw[if_neg e2];have kb:=k3 e1 e2;have lb:=uS hk f l[i.toNat]!.b (by omega) (by omega);have wb:=fun b=>nX (ny l f l[i.toNat]!.b) b
    split
    ·have:=wa (decide (l[l[i.toNat]!.a.toNat]!.op=4));have:=wb (decide (l[l[i.toNat]!.b.toNat]!.op=4) ||decide (l[l[i.toNat]!.b.toNat]!.op=3));simp only[List.length_append,List.length_cons,List.length_nil];omega
    ·have:=wb (decide (l[l[i.toNat]!.b.toNat]!.op=4));simp only[List.length_append,List.length_cons,List.length_nil];omega
def uT {l:List Nd}(hk:fN l)(hl:l.length≤15){i:Int}(h0:0≤i)(h1:i<l.length):(kI l i).length≤1310720:=by
 have h:=uS hk (i.toNat+1) i h0 h1;have:2^(i.toNat+1+1)≤2^16:=Nat.pow_le_pow_right (by omega) (by omega);unfold kI;omega
def pk (l:List Nd):ah:=if l.length=0 then []else kI l ((l.length:Int) -1)
def vu (l:List Nd):Bool:=(decide (l.length≤15)&&nw l)&&decide ((pk l).length≤96)
def LX (l:List Nd):ah:=if vu l=true then pk l else []
abbrev PR:=Option (Int×List ah×List Nd)
def xF (k:ah):Int:=if k=[111,115]then 0 else if k=[97,114,99,104]then 1 else if k=[97,98,105]then 2 else-1
def Av (k s v:ah):Bool:=(decide (0≤xF k)&&bF v)&&(decide (s=[61]) ||decide (s=[33,61]))
def yB (k s v:ah)(r:List ah)(nd:List Nd):Int×List ah×List Nd:=
 if s=[33,61]then(((nd++[(⟨1,0,0,xF k,v⟩:Nd)]).length:Nat),r,(nd++[⟨1,0,0,xF k,v⟩])++[⟨2,(nd.length:Nat),0,0,[]⟩])
 else((nd.length:Nat),r,nd++[⟨1,0,0,xF k,v⟩])
def rB (k:ah)(w:List ah)(nd:List Nd):PR:=match w with
 |s::v::r=>if Av k s v=true then some (yB k s v r nd)else none
 |_=>none
def hZ (part:List ah→List Nd→PR)(wd:ah)(op:Int):Nat→Int→List ah→List Nd→PR
 |0,a,w,nd=>some (a,w,nd)
 |f+1,a,w,nd=>match w with
  |[]=>some (a,w,nd)
  |x::r=>if x=wd then(match part r nd with
    |none=>none
    |some (b,w',nd')=>hZ part wd op f (nd'.length:Nat) w' (nd'++[⟨op,a,b,0,[]⟩]))
   else some (a,w,nd)
def fk (part:List ah→List Nd→PR)(wd:ah)(op:Int)(w:List ah)(nd:List Nd):PR:=match part w nd with
 |none=>none
 |some (a,w',nd')=>hZ part wd op w'.length a w' nd'
def wS:ah:=[110,111,116]
def lR:ah:=[40]
def tg:ah:=[41]
def r7:ah:=[97,110,100]
def z7:ah:=[111,114]
def oD (r:PR):PR:=match r with
 |some (a,x::w',nd')=>if x=tg then some (a,w',nd')else none
 |_=>none
def K1 (r:PR):PR:=match r with
 |some (a,w',nd')=>some ((nd'.length:Nat),w',nd'++[⟨2,a,0,0,[]⟩])
 |none=>none
def n6:Nat→List ah→List Nd→PR
 |0,_,_=>none
 |f+1,w,nd=>match w with
  |[]=>none
  |k::r=>if k=wS then K1 (n6 f r nd)
   else if k=lR then oD (fk (fk (n6 f) r7 3) z7 4 r nd)
   else rB k r nd
def PB (w:List ah)(nd:List Nd)(w':List ah)(nd':List Nd):Prop:=w'.length≤w.length∧nd'.length+2*w'.length≤nd.length+2*w.length∧w'<:+w
def se (part:List ah→List Nd→PR):Prop:=∀w nd a w' nd',part w nd=some (a,w',nd')→PB w nd w' nd'∧w'.length<w.length
def PB.refl (w:List ah)(nd:List Nd):PB w nd w nd:=⟨Nat.le_refl _,Nat.le_refl _,List.suffix_refl _⟩
def PB.trans {w nd w' nd' w2 nd2}(h:PB w nd w' nd')(h2:PB w' nd' w2 nd2):PB w nd w2 nd2:=⟨Nat.le_trans h2.1 h.1,Nat.le_trans h2.2.1 h.2.1,h2.2.2.trans h.2.2⟩
def PB.tail {x:ah}{w:List ah}{nd:List Nd}{w':List ah}{nd':List Nd}(h:PB w nd w' nd')(n:Nd):PB (x::w) nd w' (nd'++[n]):=by
 obtain⟨h1,h2,h3⟩:=h;refine⟨by simp only[List.length_cons];omega,by simp only[List.length_append,List.length_cons,List.length_nil];omega,h3.trans (List.suffix_cons x w)⟩
def PB.zS {x:ah}{w:List ah}{nd:List Nd}{w':List ah}{nd':List Nd}(h:PB w nd w' nd'):PB (x::w) nd w' nd':=by
 obtain⟨h1,h2,h3⟩:=h;exact⟨by simp only[List.length_cons];omega,by simp only[List.length_cons];omega,h3.trans (List.suffix_cons x w)⟩
def uf {part:List ah→List Nd→PR}(hp:se part)(wd:ah)(op:Int):∀(f:Nat)(a:Int)(w:List ah)(nd:List Nd)(a':Int)(w':List ah)(nd':List Nd),hZ part wd op f a w nd=some (a',w',nd')→PB w nd w' nd'
 |0,a,w,nd,a',w',nd',h=>by simp only[hZ,Option.some.injEq,Prod.mk.injEq]at h;obtain⟨rfl,rfl,rfl⟩:=h;exact .refl _ _
 |f+1,a,[],nd,a',w',nd',h=>by simp only[hZ,Option.some.injEq,Prod.mk.injEq]at h;obtain⟨rfl,rfl,rfl⟩:=h;exact .refl _ _
 |f+1,a,x::r,nd,a',w',nd',h=>by
  simp only[hZ]at h;by_cases hx:x=wd
  ·rw[if_pos hx]at h;cases hq:part r nd with
   |none=>rw[hq]at h;cases h
   |some t=>
    obtain⟨b,w2,nd2⟩:=t;rw[hq]at h;exact((hp _ _ _ _ _ hq).1.tail _).trans (uf hp wd op f _ _ _ _ _ _ h)
  ·rw[if_neg hx]at h;simp only[Option.some.injEq,Prod.mk.injEq]at h;obtain⟨rfl,rfl,rfl⟩:=h;exact .refl _ _
def iO {part:List ah→List Nd→PR}(hp:se part)(wd:ah)(op:Int):se (fk part wd op):=by
 intro w nd a w' nd' h;unfold fk at h;cases hq:part w nd with
 |none=>rw[hq]at h;cases h
 |some t=>
  obtain⟨b,w2,nd2⟩:=t;rw[hq]at h;obtain⟨h1,h2⟩:=hp _ _ _ _ _ hq;have:=uf hp wd op _ _ _ _ _ _ _ h;exact⟨h1.trans this,Nat.lt_of_le_of_lt this.1 h2⟩
def ow {k:ah}{w:List ah}{nd:List Nd}{a:Int}{w':List ah}{nd':List Nd}(h:rB k w nd=some (a,w',nd')):PB w nd w' nd':=by
 match w,h with
 |s::v::r,h=>
  simp only[rB]at h;split at h
  ·simp only[Option.some.injEq]at h;unfold yB at h;have hs:r<:+s::v::r:=(List.suffix_cons v r).trans (List.suffix_cons s _);split at h<;>(simp only[Prod.mk.injEq]at h;obtain⟨rfl,rfl,rfl⟩:=h;exact⟨by simp only[List.length_cons];omega,by simp only[List.length_append,List.length_cons,List.length_nil];omega,hs⟩)
  ·cases h
 |[_],h=>cases h
 |[],h=>cases h
def iq:∀f,se (n6 f)
 |0=>fun w nd a w' nd' h=>by cases h
 |f+1=>by
  intro w nd a w' nd' h
  match w,h with
  |[],h=>cases h
  |k::r,h=>
   simp only[n6]at h;split at h
   ·cases hq:n6 f r nd with
    |none=>rw[hq]at h;cases h
    |some t=>
     obtain⟨b,w2,nd2⟩:=t;rw[hq]at h;simp only[K1,Option.some.injEq,Prod.mk.injEq]at h;obtain⟨rfl,rfl,rfl⟩:=h;obtain⟨h1,h2⟩:=iq f _ _ _ _ _ hq;exact⟨h1.tail _,by simp only[List.length_cons];omega⟩
   ·split at h
    ·cases hq:fk (fk (n6 f) r7 3) z7 4 r nd with
     |none=>rw[hq]at h;cases h
     |some t=>
      obtain⟨b,w2,nd2⟩:=t;rw[hq]at h;obtain⟨h1,h2⟩:=iO (iO (iq f) _ _) _ _ _ _ _ _ _ hq
      match w2,h,h1,h2 with
      |[],h,_,_=>cases h
      |x::w3,h,h1,h2=>
       simp only[oD]at h;split at h
       ·simp only[Option.some.injEq,Prod.mk.injEq]at h;obtain⟨rfl,rfl,rfl⟩:=h;exact⟨(h1.trans (PB.refl _ _).zS).zS,by simp only[List.length_cons]at h2⊢;omega⟩
       ·cases h
    ·exact⟨(ow h).zS,by have:=(ow h).1;simp only[List.length_cons];omega⟩
def zg {p p':List ah→List Nd→PR}(hp:se p)(wd:ah)(op:Int){u:Nat}(h:∀w nd,w.length<u→p w nd=p' w nd):∀(f:Nat)(a:Int)(w:List ah)(nd:List Nd),w.length≤u→hZ p wd op f a w nd=hZ p' wd op f a w nd
 |0,a,w,nd,hu=>rfl
 |f+1,a,[],nd,hu=>rfl
 |f+1,a,x::r,nd,hu=>by
  simp only[List.length_cons]at hu;simp only[hZ];split
  ·rw[←h r nd (by omega)];cases hq:p r nd with
   |none=>rfl
   |some t=>
    obtain⟨b,w2,nd2⟩:=t;have:=hp _ _ _ _ _ hq;exact zg hp wd op h f _ _ _ (by omega)
  ·rfl
def nC {p p':List ah→List Nd→PR}(hp:se p)(wd:ah)(op:Int){u:Nat}(h:∀w nd,w.length<u→p w nd=p' w nd):∀w nd,w.length<u→fk p wd op w nd=fk p' wd op w nd:=by
 intro w nd hu;unfold fk;rw[←h w nd hu];cases hq:p w nd with
 |none=>rfl
 |some t=>
  obtain⟨b,w2,nd2⟩:=t;have:=hp _ _ _ _ _ hq;exact zg hp wd op h _ _ _ _ (by omega)
def BR:∀(u f g:Nat)(w:List ah)(nd:List Nd),w.length<u→w.length≤f→w.length≤g→n6 f w nd=n6 g w nd
 |0,_,_,_,_,h,_,_=>absurd h (Nat.not_lt_zero _)
 |u+1,f,g,[],nd,hu,hf,hg=>by cases f<;>cases g<;>rfl
 |u+1,0,_,_::_,_,_,h,_=>by simp at h
 |u+1,_,0,_::_,_,_,_,h=>by simp at h
 |u+1,f+1,g+1,k::r,nd,hu,hf,hg=>by
  simp only[List.length_cons]at hu hf hg;have ih:∀w nd,w.length<r.length+1→n6 f w nd=n6 g w nd:=fun w nd h=>BR u f g w nd (by omega) (by omega) (by omega)
  simp only[n6];rw[ih r nd (by omega),nC (iO (iq f) _ _) z7 4 (nC (iq f) r7 3 ih) r nd (by omega)]
def lE (w:List ah)(nd:List Nd):PR:=n6 w.length w nd
def pB:List ah→List Nd→PR:=fk lE r7 3
def jQ:List ah→List Nd→PR:=fk pB z7 4
def vT:se lE:=fun w nd a w' nd' h=>iq _ w nd a w' nd' h
def AD:se pB:=iO vT _ _
def xu (k:ah)(r:List ah)(nd:List Nd):lE (k::r) nd=if k=wS then K1 (lE r nd)else if k=lR then oD (jQ r nd)else rB k r nd:=by
 show n6 (r.length+1) (k::r) nd=_;simp only[n6];have ih:∀w nd,w.length<r.length+1→n6 r.length w nd=lE w nd:=fun w nd h=>BR (r.length+1) _ _ w nd h (by omega) (Nat.le_refl _)
 rw[show n6 r.length r nd=lE r nd from rfl,nC (iO (iq _) _ _) z7 4 (nC (iq _) r7 3 ih) r nd (by omega)];rfl
def wh {part:List ah→List Nd→PR}{wd:ah}{op:Int}{f:Nat}{a:Int}{nd:List Nd}:hZ part wd op f a [] nd=some (a,[],nd):=by cases f<;>rfl
def FC {part:List ah→List Nd→PR}{wd:ah}{op:Int}{f:Nat}{a:Int}{w:List ah}{nd:List Nd}(h:w.head? ≠some wd):hZ part wd op f a w nd=some (a,w,nd):=by
 cases f with
 |zero=>rfl
 |succ f=>match w,h with
  |[],_=>rfl
  |x::r,h=>simp only[hZ];rw[if_neg (by rintro rfl;exact h rfl)]
def ug {part:List ah→List Nd→PR}(hp:se part){wd:ah}{op:Int}:∀(f g:Nat)(a:Int)(w:List ah)(nd:List Nd),w.length≤f→w.length≤g→hZ part wd op f a w nd=hZ part wd op g a w nd
 |_,_,a,[],nd,_,_=>by rw[wh,wh]
 |0,_,_,_::_,_,h,_=>by simp at h
 |_,0,_,_::_,_,_,h=>by simp at h
 |f+1,g+1,a,x::r,nd,hf,hg=>by
  simp only[List.length_cons]at hf hg;simp only[hZ];split
  ·cases hq:part r nd with
   |none=>rfl
   |some t=>
    obtain⟨b,w2,nd2⟩:=t;have:=hp _ _ _ _ _ hq;exact ug hp f g _ _ _ (by omega) (by omega)
  ·rfl
def B5 (part:List ah→List Nd→PR)(wd:ah)(op:Int)(a:Int)(w:List ah)(nd:List Nd):PR:=hZ part wd op w.length a w nd
def DA {part:List ah→List Nd→PR}(hp:se part){wd:ah}{op:Int}{a:Int}{r:List ah}{nd:List Nd}:B5 part wd op a (wd::r) nd=match part r nd with
  |none=>none
  |some (b,w',nd')=>B5 part wd op (nd'.length:Nat) w' (nd'++[⟨op,a,b,0,[]⟩]):=by
 show hZ part wd op (r.length+1) a (wd::r) nd=_;simp only[hZ,if_true];cases hq:part r nd with
 |none=>rfl
 |some t=>
  obtain⟨b,w2,nd2⟩:=t;have:=hp _ _ _ _ _ hq;exact ug hp _ _ _ _ _ (by omega) (Nat.le_refl _)
structure PO where
 a:Int
 w:List ah
 nd:List Nd
 bad:Bool
def dT (R:PR)(w:List ah)(nd:List Nd)(o:PO):Prop:=(R=some (o.a,o.w,o.nd)∧o.bad=false∨R=none∧o.bad=true)∧PB w nd o.w o.nd
def A6 (s:ah):Option (List Nd):=match jQ (ai s 32) []with
 |some (_,[],nd)=>if vu nd=true then some nd else none
 |_=>none
def lM (s:ah):List Nd×Int:=if 96<s.length then([],3)else if s=[]then([],0)else match A6 s with
 |some nd=>(nd,0)
 |none=>([],7)
def lL (s:ah):Bool:=decide ((lM s).2=0)&&decide (LX (lM s).1=s)
abbrev Aq:=List ah→D→Bool→D
def ep:Aq:=fun w X b=>.agg [.sl 1 (w.map D.str),X,.bool b]
def qp (Γ:Ctx)(k:Nat)(ob:Aq)(n:Nat)(VM:List D)(w:List ah)(nd:List Nd)(b:Bool)(P:PO→Prop)(V:PO→D):Prop:=
 ∀(nx lp ln:Nat) (m:List (Nat×aV)) (K:D→St→Prop),look m lp=some (.buf k [ob w (.own ln 5 0 nd.length) b])→look m ln=some (.buf 5 (nd.map Nd.D))→lp<nx→ln<nx→
  (∀o,P o→K (V o) ⟨nx+1,(nx,.buf 5 (o.nd.map Nd.D))::bR (bN m ln) lp (.buf k [ob o.w (.own nx 5 0 o.nd.length) o.bad])⟩)→Γ.tr n (.ptr lp k 0 0::VM) ⟨nx,m⟩ K
def Ny (Γ:Ctx)(k:Nat)(ob:Aq)(n:Nat)(VM:List D)(w:List ah)(nd:List Nd)(b:Bool)(P:PO→Prop)(V:PO→D):Prop:=
 ∀(nx lp ln:Nat) (m:List (Nat×aV)) (K:D→St→Prop),look m lp=some (.buf k [ob w (.own ln 5 0 nd.length) b])→look m ln=some (.buf 5 (nd.map Nd.D))→lp<nx→ln<nx→
  (∀o,P o→K (V o) ⟨nx,bR m lp (.buf k [ob o.w (.own ln 5 0 nd.length) o.bad])⟩)→Γ.tr n (.ptr lp k 0 0::VM) ⟨nx,m⟩ K
def Ar (k:Nat)(ob:Aq)(P:PO→Prop)(V:PO→D):D→List (Nat×aV)→Prop:=fun d m=>∃(o:PO)(j:Nat),2≤j∧P o∧d=V o∧look m 0=some (.buf k [ob o.w (.own j 5 0 o.nd.length) o.bad])∧look m j=some (.buf 5 (o.nd.map Nd.D))
def Jl (k:Nat)(ob:Aq)(nd:List Nd)(P:PO→Prop)(V:PO→D):D→List (Nat×aV)→Prop:=fun d m=>∃(o:PO),P o∧d=V o∧look m 0=some (.buf k [ob o.w (.own 1 5 0 nd.length) o.bad])∧look m 1=some (.buf 5 (nd.map Nd.D))
def Va:PO→D:=fun o=>.int .i64 o.a
def KV {m:List (Nat×aV)}(x:Nd):Hg m [.a,.a,.a,.a,.a] (Nd.D x):=⟨rfl,rfl,rfl,rfl,rfl,rfl⟩
def FP {m:List (Nat×aV)}{lp ln:Nat}{w:List ah}{nd:List Nd}{b:Bool}(h1:look m lp=some (.buf 3 [ep w (.own ln 5 0 nd.length) b]))(h2:look m ln=some (.buf 5 (nd.map Nd.D))):
  iK m [[.pt [.sl 1 [.a],.sl 5 [.a,.a,.a,.a,.a],.a]]] [.ptr lp 3 0 0]:=by
 refine⟨⟨by simp[dE,h1], ?_⟩,trivial⟩;intro e he;simp only[aD,h1,List.mem_singleton]at he;subst he;refine⟨rfl,⟨by simp[dE,h2], ?_⟩,rfl,rfl⟩;simp only[aD,h2,List.drop_zero,aJ];intro e he;obtain⟨x,_,rfl⟩:=List.mem_map.1 he;exact KV x
def bK (w:List ah):ah:=w.headD []
def aQ (w:List ah):List ah:=if bK w=[]then w else w.drop 1
def bT (w:List ah)(b:Bool):Bool:=if bK w=[]then true else b
def nV {w:List ah}{x:ah}(hx:x≠[])(h:bK w=x):∃r,w=x::r:=by
 match w,h with
 |[],h=>exact absurd h.symm hx
 |y::r,h=>exact⟨r,by rw[show y=x from h]⟩
def GQ {w:List ah}(h:¬bK w=[]):1≤w.length:=by
 match w,h with
 |[],h=>exact absurd rfl h
 |_::_,_=>simp
def fW {x:ah}{r:List ah}(hx:x≠[]):aQ (x::r)=r:=if_neg hx
def fV {x:ah}{r:List ah}{b:Bool}(hx:x≠[]):bT (x::r) b=b:=if_neg hx
def Ea (w:List ah):aQ w<:+w:=by
 unfold aQ;split
 ·exact List.suffix_refl _
 ·exact List.drop_suffix 1 w
def lr (w:List ah)(nd:List Nd):PB w nd (aQ w) nd:=by
 have h:=Ea w;have:=h.length_le;exact⟨this,by omega,h⟩
def zT {w:List ah}{b:Bool}(h:bT w b=false):b=false∧bK w≠[]∧w=bK w::aQ w:=by
 unfold bT at h;split at h
 ·cases h
 ·rename_i hs;refine⟨h,hs, ?_⟩
  match w,hs with
  |x::r,hs=>rw[fW (x:=x) (r:=r) hs];rfl
def jO (b:Bool)(k:ah)(w:List ah)(nd:List Nd):PR:=if b=true then none else rB k w nd
def Fv {j:Nat}{k:ah}(hj:j<3)(h:lZ[j]! =k):xF k=(j:Nat):=by
 obtain rfl|rfl|rfl:j=0∨j=1∨j=2:=by omega
 all_goals (subst h;rfl)
def Dp {k:ah}(h:0≤xF k):∃j,j<3∧lZ[j]! =k∧xF k=(j:Nat):=by
 unfold xF at h⊢;by_cases h1:k=[111,115]
 ·exact⟨0,by omega,h1.symm,by rw[if_pos h1];rfl⟩
 ·by_cases h2:k=[97,114,99,104]
  ·exact⟨1,by omega,h2.symm,by rw[if_neg h1,if_pos h2];rfl⟩
  ·by_cases h3:k=[97,98,105]
   ·exact⟨2,by omega,h3.symm,by rw[if_neg h1,if_neg h2,if_pos h3];rfl⟩
   ·rw[if_neg h1,if_neg h2,if_neg h3]at h;omega
def AR (j:Nat)(k s v:ah)(bad:Bool):Bool:=!(((!decide (lZ[j]! =k) ||bad) ||(!decide (s=[61])&& !decide (s=[33,61]))) ||!bF v)
def Fi {j:Nat}{k:ah}{w:List ah}{nd:List Nd}{b:Bool}(hj:j<3)(h:AR j k (bK w) (bK (aQ w)) (bT (aQ w) (bT w b))=true):
  jO b k w nd=some (yB k (bK w) (bK (aQ w)) (aQ (aQ w)) nd)∧xF k=(j:Nat)∧bT (aQ w) (bT w b)=false:=by
 have h0:=h;simp only[AR,Bool.not_or,Bool.and_eq_true,Bool.not_not,decide_eq_true_eq,Bool.not_eq_true',Bool.not_and,Bool.or_eq_true]at h;obtain⟨⟨⟨h1,h2⟩,h3⟩,h4⟩:=h;have hk:=Fv hj h1;obtain⟨g1,g2,g3⟩:=zT h2;obtain⟨g4,g5,g6⟩:=zT g1;refine⟨?_,hk,h2⟩;unfold jO;rw[g4,if_neg (by simp)]
 conv=>lhs;rw[g6,g3]
 simp only[rB];rw[if_pos];simp only[Av,Bool.and_eq_true,Bool.or_eq_true,decide_eq_true_eq];exact⟨⟨by omega,h4⟩,h3⟩
def H3 {k:ah}{w:List ah}{nd:List Nd}{b:Bool}(h:∀j,j<3→AR j k (bK w) (bK (aQ w)) (bT (aQ w) (bT w b))=false):jO b k w nd=none:=by
 unfold jO;split
 ·rfl
 ·rename_i hb
  match w with
  |[]=>rfl
  |[_]=>rfl
  |s::v::r=>
   simp only[rB];rw[if_neg];intro ha;simp only[Av,Bool.and_eq_true,Bool.or_eq_true,decide_eq_true_eq]at ha;obtain⟨⟨h1,h2⟩,h3⟩:=ha;obtain⟨j,hj,hj2,_⟩:=Dp h1;have hs:s≠[]:=by rintro rfl;rcases h3 with h|h<;>cases h
   have hv:v≠[]:=by rintro rfl;cases h2
   have:=h j hj;rw[fW hs,fV hs,fV hv]at this;simp only[Bool.not_eq_true]at hb;subst hb;revert this;simp only[AR,bK,List.headD_cons,hj2,h2,decide_true];rcases h3 with rfl|rfl<;>simp
def BH (w:List ah)(nd:List Nd):PB w nd (aQ (aQ w)) nd:=(lr w nd).trans (lr _ nd)
def tp {b:Bool}{k:ah}{w:List ah}{nd:List Nd}{a:Int}{w':List ah}{nd':List Nd}(h:jO b k w nd=some (a,w',nd')):PB w nd w' nd':=by
 unfold jO at h;split at h
 ·cases h
 ·exact ow h
def E1 {w:List ah}{nd:List Nd}(h1:bK w≠wS)(h2:bK w≠lR):lE w nd=jO (bT w false) (bK w) (aQ w) nd:=by
 match w with
 |[]=>rfl
 |k::r=>
  have h1:k≠wS:=h1;have h2:k≠lR:=h2;rw[xu,if_neg h1,if_neg h2];by_cases hk:k=[]
  ·subst hk;show rB [] r nd=none
   match r with
   |[]=>rfl
   |[_]=>rfl
   |s::v::r=>rfl
  ·rw[fW hk,fV hk];rfl
def ER {R:PR}{o:PO}{w:List ah}{nd:List Nd}(h:dT R w nd o)(hs:bK o.w≠tg):oD R=none:=by
 rcases h.1 with⟨h1,_⟩|⟨h1,_⟩
 ·rw[h1]
  match ho:o.w,hs with
  |[],_=>rfl
  |x::r,hs=>simp only[oD];exact if_neg hs
 ·rw[h1];rfl
def dT.pb {R:PR}{o:PO}{w:List ah}{nd:List Nd}(h:dT R w nd o):PB w nd o.w o.nd:=h.2
def IA {r:List ah}{nd:List Nd}{o:PO}(h:dT (lE r nd) r nd o):dT (lE (wS::r) nd) (wS::r) nd ⟨(o.nd.length:Nat),o.w,o.nd++[⟨2,o.a,0,0,[]⟩],o.bad⟩:=by
 refine⟨?_,h.2.tail _⟩;rw[xu,if_pos rfl];rcases h.1 with⟨h1,h2⟩|⟨h1,h2⟩
 ·left;rw[h1];exact⟨rfl,h2⟩
 ·right;rw[h1];exact⟨rfl,h2⟩
def yN (r:List ah)(nd:List Nd):lE (lR::r) nd=oD (jQ r nd):=by rw[xu,if_neg (by decide),if_pos rfl]
def zq {r:List ah}{nd:List Nd}{o:PO}(h:dT (jQ r nd) r nd o)(hs:¬bK o.w=tg):dT (lE (lR::r) nd) (lR::r) nd ⟨o.a,aQ o.w,o.nd,true⟩:=
 ⟨.inr ⟨by rw[yN,ER h hs],rfl⟩,h.2.zS.trans (lr _ _)⟩
def Gb {r:List ah}{nd:List Nd}{o:PO}(h:dT (jQ r nd) r nd o)(hs:bK o.w=tg):dT (lE (lR::r) nd) (lR::r) nd ⟨o.a,aQ o.w,o.nd,bT o.w o.bad⟩:=by
 refine⟨?_,h.2.zS.trans (lr _ _)⟩;obtain⟨q,hq⟩:=nV (by decide) hs;rw[yN,hq,fW (by decide),fV (by decide)];rcases h.1 with⟨h1,h2⟩|⟨h1,h2⟩
 ·left;rw[h1,hq];exact⟨by simp only[oD,if_true],h2⟩
 ·right;rw[h1];exact⟨rfl,h2⟩
def Ga {w:List ah}{nd:List Nd}{o:PO}(hf:lE w nd=jO (bT w false) (bK w) (aQ w) nd)(h:dT (jO (bT w false) (bK w) (aQ w) nd) (aQ w) nd o):dT (lE w nd) w nd o:=
 ⟨by rw[hf];exact h.1,(lr w nd).trans h.2⟩
def KU {s:ah}{o:PO}(h:dT (jQ (ai s 32) []) (ai s 32) [] o)(hc:((o.bad ||decide ((0:Int)<(o.w.length:Nat))) ||!vu o.nd)=true):A6 s=none:=by
 unfold A6;rcases h.1 with⟨h1,h2⟩|⟨h1,h2⟩
 ·rw[h1]
  match hw:o.w with
  |[]=>
   simp only[h2,hw,List.length_nil,Bool.false_or]at hc;have:vu o.nd=false:=by simpa using hc
   simp only[this,Bool.false_eq_true,if_false]
  |x::r=>rfl
 ·rw[h1]
def Io {s:ah}{o:PO}(h:dT (jQ (ai s 32) []) (ai s 32) [] o)(hc:((o.bad ||decide ((0:Int)<(o.w.length:Nat))) ||!vu o.nd)=false):A6 s=some o.nd:=by
 simp only[Bool.or_eq_false_iff,decide_eq_false_iff_not,Bool.not_eq_false']at hc;unfold A6;rcases h.1 with⟨h1,h2⟩|⟨h1,h2⟩
 ·rw[h1]
  match hw:o.w with
  |[]=>simp only[hc.2,if_true]
  |x::r=>exact absurd hc.1.2 (by rw[hw];simp)
 ·rw[h2]at hc;exact absurd hc.1.1 (by simp)
def Im {s:ah}{nd:List Nd}(h1:¬96<s.length)(h2:¬s=[])(h:A6 s=some nd):lM s=(nd,0):=by simp only[lM,h,if_neg h1,if_neg h2]
def Il {s:ah}(h1:¬96<s.length)(h2:¬s=[])(h:A6 s=none):lM s=([],7):=by simp only[lM,h,if_neg h1,if_neg h2]
def Ha (part:List ah→List Nd→PR)(wd:ah)(op:Int)(R:PR)(w:List ah)(nd:List Nd)(o:PO):Prop:=(o.bad=false∧R=B5 part wd op o.a o.w o.nd∨o.bad=true∧R=none)∧PB w nd o.w o.nd
def Ha.first {part:List ah→List Nd→PR}{wd:ah}{op:Int}{w:List ah}{nd:List Nd}{o:PO}(h:dT (part w nd) w nd o):Ha part wd op (fk part wd op w nd) w nd o:=by
 refine⟨?_,h.2⟩;rcases h.1 with⟨h1,h2⟩|⟨h1,h2⟩
 ·left;refine⟨h2, ?_⟩;unfold fk;rw[h1];rfl
 ·right;refine⟨h2, ?_⟩;unfold fk;rw[h1]
def Ha.next {part:List ah→List Nd→PR}(hp:se part){wd:ah}{op:Int}{R:PR}{w:List ah}{nd:List Nd}{a:Int}{r:List ah}{nd1:List Nd}{o:PO}(h:Ha part wd op R w nd ⟨a,wd::r,nd1,false⟩)(h2:dT (part r nd1) r nd1 o):
  Ha part wd op R w nd ⟨(o.nd.length:Nat),o.w,o.nd++[⟨op,a,o.a,0,[]⟩],o.bad⟩:=by
 refine⟨?_,h.2.trans (h2.2.tail _)⟩;rcases h.1 with⟨_,h1⟩|⟨h1,_⟩
 ·rw[DA hp]at h1;rcases h2.1 with⟨g1,g2⟩|⟨g1,g2⟩
  ·left;exact⟨g2,by rw[h1,g1]⟩
  ·right;exact⟨g2,by rw[h1,g1]⟩
 ·cases h1
def Ha.last {part:List ah→List Nd→PR}{wd:ah}{op:Int}{R:PR}{w:List ah}{nd:List Nd}{o:PO}(h:Ha part wd op R w nd o)(hx:o.bad=true∨o.w.head? ≠some wd):dT R w nd o:=by
 refine⟨?_,h.2⟩;rcases h.1 with⟨h1,h2⟩|⟨h1,h2⟩
 ·left;refine⟨?_,h1⟩;rw[h2];unfold B5;rw[FC];rcases hx with hx|hx
  ·rw[h1]at hx;cases hx
  ·exact hx
 ·right;exact⟨h2,h1⟩
def PB.I2 {w w':List ah}{nd nd':List Nd}{W:List ah}(h:PB w nd w' nd')(hW:w<:+W):w'<:+W:=h.2.2.trans hW
def lG (f:Nat→Int):Nat→Nat→Int
 |_,0=>0
 |i,k+1=>if f i=0 then lG f (i+1) k else f i
def gF (f:Nat→Int)(i n:Nat):Int:=lG f i (n-i)
def qL {f:Nat→Int}{i n:Nat}(h:i<n)(hf:f i=0):gF f i n=gF f (i+1) n:=by
 unfold gF;obtain⟨k,hk⟩:∃k,n-i=k+1:=⟨n-i-1,by omega⟩
 rw[hk,show n-(i+1)=k by omega];simp only[lG,hf,if_true]
def tK {f:Nat→Int}{i n:Nat}(h:i<n)(hf:f i≠0):gF f i n=f i:=by
 unfold gF;obtain⟨k,hk⟩:∃k,n-i=k+1:=⟨n-i-1,by omega⟩
 rw[hk];simp only[lG,hf,if_false]
def qJ {f:Nat→Int}{i n:Nat}(h:n≤i):gF f i n=0:=by
 unfold gF;rw[show n-i=0 by omega];rfl
def jd (f:Nat→Int):Nat→Nat→Int×Int
 |_,0=>(0,0)
 |i,k+1=>if f i=0 then jd f (i+1) k else(f i,((i:Nat):Int))
def fo (f:Nat→Int)(i n:Nat):Int×Int:=jd f i (n-i)
def nL {f:Nat→Int}{i n:Nat}(h:i<n)(hf:f i=0):fo f i n=fo f (i+1) n:=by
 unfold fo;obtain⟨k,hk⟩:∃k,n-i=k+1:=⟨n-i-1,by omega⟩
 rw[hk,show n-(i+1)=k by omega];simp only[jd,hf,if_true]
def lF {f:Nat→Int}{i n:Nat}(h:i<n)(hf:f i≠0):fo f i n=(f i,((i:Nat):Int)):=by
 unfold fo;obtain⟨k,hk⟩:∃k,n-i=k+1:=⟨n-i-1,by omega⟩
 rw[hk];simp only[jd,hf,if_false]
def nJ {f:Nat→Int}{i n:Nat}(h:n≤i):fo f i n=(0,0):=by
 unfold fo;rw[show n-i=0 by omega];rfl
def gP (r:Rec)(name rng:ah):Int:=if ed name=false then 4 else if name=r.name then 8 else if nR rng=false then 6 else 0
def LK (l:List ah)(i:Nat):Bool:=bF l[i]! && !(decide (0<i)&& !Op.bytesLess l[i-1]! l[i]!)
def kq (l:List ah)(alone:Bool):Bool:=(decide (l.length≤6)&&(alone ||decide (l.length=0)))&&cn (LK l) 0 l.length
def jb (r:Rec)(w:bp)(alone:Bool):Int:=if gP r w.name w.range≠0 then gP r w.name w.range else if kq w.feats alone=false then 11 else 0
def lS (r:Rec)(l:List bp):Int:=gF (fun i=>jb r l[i]! (decide ((l.length:Int)=1))) 0 l.length
def ib (r:Rec)(n:a7):Int:=if n.any.length=0 then 9 else if 3<n.any.length then 3 else if lS r n.any≠0 then lS r n.any else
 if lL n.when'=false then 7 else if n.option≠[]∧bF n.option=false then 14 else 0
def qv (r:Rec)(b:gz):Int:=if gP r b.name b.range≠0 then gP r b.name b.range else if lL b.when'=false then 7 else 0
def Iy (l:List a7)(x:ah):Bool:=l.any fun n=>decide (n.option=x)
def Cd (l:List a7)(x:ah):Bool:=l.any fun n=>decide (n.any.length=1)&&decide (n.any[0]!.name=x)
def hY (r:Rec)(s:ah):Int:=if(b9 s).1=2∧Iy r.needs (b9 s).2.1=false then 14 else if(b9 s).1=3∧Cd r.needs (b9 s).2.1=false then 16 else 0
def oO (r:Rec)(of:List ah):Int:=gF (fun i=>hY r of[i]!) 0 of.length
def jZ (r:Rec):Int×Int:=fo (fun i=>ib r r.needs[i]!) 0 r.needs.length
def rC (r:Rec):Int×Int:=fo (fun i=>qv r r.bars[i]!) 0 r.bars.length
def qI (r:Rec):Int×Int:=fo (fun i=>oO r r.feats[i]!.of) 0 r.feats.length
def dW (r:Rec):Int×Int:=if(jZ r).1≠0 then jZ r else if(rC r).1≠0 then rC r else if fM r.feats=false then(11,0)else qI r
def G0 (n:Nat)(al:Bool):(decide ((6:Int)<(n:Nat)) ||(decide ((0:Int)<(n:Nat))&& !al))=!(decide (n≤6)&&(al ||decide (n=0))):=by
 rw[show decide ((6:Int)<(n:Nat))=!decide (n≤6)from by rw[←decide_not];exact decide_eq_decide.2 (by omega),show decide ((0:Int)<(n:Nat))=!decide (n=0)from by rw[←decide_not];exact decide_eq_decide.2 (by omega)];generalize decide (n≤6)=a;generalize decide (n=0)=b;cases a<;>cases b<;>cases al<;>rfl
def Of (l:List ah)(i:Nat):(!bF l[i]! ||(decide ((0:Int)<(i:Nat))&& !Op.bytesLess l[i-1]! l[i]!))=!LK l i:=by
 unfold LK;rw[show decide ((0:Int)<(i:Nat))=decide (0<i)from decide_eq_decide.2 (by omega)];generalize bF l[i]! =a;generalize decide (0<i)=b;generalize Op.bytesLess l[i-1]! l[i]! =c;cases a<;>cases b<;>cases c<;>rfl
def Hd (k:Int)(x:ah)(n:a7):Bool:=(decide (k=2)&&decide (n.option=x)) ||((decide (k=3)&&decide ((n.any.length:Int)=1))&&decide (n.any[0]!.name=x))
def KP (k:Int):Int:=if k=2 then 14 else if k=3 then 16 else 0
def Ft (r:Rec)(s:ah):hY r s=if r.needs.any (Hd (b9 s).1 (b9 s).2.1)=true then 0 else KP (b9 s).1:=by
 unfold hY KP Iy Cd;generalize (b9 s).1=k;generalize (b9 s).2.1=x;by_cases h2:k=2
 ·subst h2;have:Hd 2 x=fun n=>decide (n.option=x):=by funext n;simp[Hd]
  rw[this];cases r.needs.any fun n=>decide (n.option=x)<;>simp
 ·by_cases h3:k=3
  ·subst h3;have:Hd 3 x=fun n=>decide (n.any.length=1)&&decide (n.any[0]!.name=x):=by
    funext n;simp only[Hd];rw[show decide ((n.any.length:Int)=1)=decide (n.any.length=1)from decide_eq_decide.2 (by omega)];simp
   rw[this];cases r.needs.any fun n=>decide (n.any.length=1)&&decide (n.any[0]!.name=x)<;>simp
  ·have:Hd k x=fun _=>false:=by funext n;simp[Hd,h2,h3]
   rw[this];simp[h2,h3]
def Hx {α:Type} [Inhabited α]{c:α→Bool}{l:List α}{i:Nat}(h:i<l.length)(hc:c l[i]! =true):(l.drop i).any c=true:=by
 rw[List.drop_eq_getElem_cons h,List.any_cons];have:l[i]! =l[i]:=by simp[h]
 rw[←this,hc,Bool.true_or]
def Ks {α:Type} [Inhabited α]{c:α→Bool}{l:List α}{i:Nat}(h:i<l.length)(hc:c l[i]! =false):(l.drop i).any c=(l.drop (i+1)).any c:=by
 rw[List.drop_eq_getElem_cons h,List.any_cons];have:l[i]! =l[i]:=by simp[h]
 rw[←this,hc,Bool.false_or]
def Hw {α:Type}{c:α→Bool}{l:List α}{i:Nat}(h:l.length≤i):(l.drop i).any c=false:=by
 rw[List.drop_eq_nil_of_le h];rfl
def ee:ah:=[110,101,101,100]
def gX:ah:=[97,110,121]
def fj:ah:=[119,104,101,110]
def cK:ah:=[111,112,116,105,111,110]
def eR:ah:=[98,97,114]
def bz:ah:=[102,101,97,116,117,114,101]
def cV:ah:=[112,97,99,107,97,103,101]
def ij:ah:=[102,117,108,108]
def ez:ah:=[98,97,114,101]
def bw (l:List ah):ah:=aF [32] l++[10]
def gw (w:bp):List ah:=[gX,w.name,if w.feats.length=0 then [45]else aF [44] w.feats,if w.bare=true then ez else ij,w.range]
def gv (s:ah):ah:=if s=[]then []else bw [fj,s]
def sz (s:ah):ah:=if s=[]then []else bw [cK,s]
def kY (n:a7):ah:=bw [ee]++(n.any.map fun w=>bw (gw w)).flatten++gv n.when'++sz n.option
def qw (b:gz):ah:=bw [eR,b.name,b.range]++gv b.when'
def oe (f:bn):ah:=bw ([bz,f.name]++f.of)
def mX (r:Rec):ah:=bw [cV,r.name,iZ r.v]
def cU (r:Rec):ah:=mX r++(r.needs.map kY).flatten++(r.bars.map qw).flatten++(r.feats.map oe).flatten
def bY (r:Rec):Int×Int:=if ed r.name=false then(4,0)else if en r.v=false then(5,0)else if 8<r.needs.length∨8<r.bars.length then(3,0)else
 if(dW r).1≠0 then dW r else if 4096<(cU r).length then(3,0)else(0,0)
def j3 (r:Rec):ah×Int:=if(bY r).1≠0 then([],(bY r).1)else(cU r,0)
def bp.sm (w:bp):Prop:=(w.name.length≤1048576∧w.range.length≤1048576)∧∀t∈w.feats,t.length≤1048576
def a7.sm (n:a7):Prop:=(∀w∈n.any,w.sm)∧n.when'.length≤1048576∧n.option.length≤1048576
def gz.sm (b:gz):Prop:=b.name.length≤1048576∧b.range.length≤1048576∧b.when'.length≤1048576
def kn (r:Rec):Prop:=(r.name.length≤1048576∧r.v.sm)∧(∀n∈r.needs,n.sm)∧(∀b∈r.bars,b.sm)∧sP r.feats
def Gd {r:Rec}{e:Int×Int}(h:jZ r=e)(hn:e.1≠0):dW r=e:=by rw[dW,if_pos (by rw[h];exact hn),h]
def zr {r:Rec}{e:Int×Int}(h0:jZ r=(0,0))(h:rC r=e)(hn:e.1≠0):dW r=e:=by rw[dW,if_neg (by rw[h0];simp),if_pos (by rw[h];exact hn),h]
def Ge {r:Rec}(h0:jZ r=(0,0))(h1:rC r=(0,0))(h:fM r.feats=false):dW r=(11,0):=by rw[dW,if_neg (by rw[h0];simp),if_neg (by rw[h1];simp),if_pos h]
def uz {r:Rec}{e:Int×Int}(h0:jZ r=(0,0))(h1:rC r=(0,0))(h:fM r.feats=true)(h2:qI r=e):dW r=e:=by rw[dW,if_neg (by rw[h0];simp),if_neg (by rw[h1];simp),if_neg (by rw[h];simp),h2]
def yR (f:Nat→Int):∀(k i:Nat),(jd f i k).1=0→jd f i k=(0,0)
 |0,_,_=>rfl
 |k+1,i,h=>by
  simp only[jd]at h⊢;by_cases hf:f i=0
  ·rw[if_pos hf]at h⊢;exact yR f k (i+1) h
  ·rw[if_neg hf]at h;exact absurd h hf
def Gf {r:Rec}(h:(dW r).1=0):dW r=(0,0):=by
 unfold dW at h⊢;split
 ·rename_i h1;rw[if_pos h1]at h;exact absurd h h1
 ·rename_i h1;rw[if_neg h1]at h;split
  ·rename_i h2;rw[if_pos h2]at h;exact absurd h h2
  ·rename_i h2;rw[if_neg h2]at h;split
   ·rename_i h3;rw[if_pos h3]at h;cases h
   ·rename_i h3;rw[if_neg h3]at h;exact yR _ _ _ h
def mG {r:Rec}{e:Int×Int}(h0:ed r.name=true)(h1:en r.v=true)(h2:¬8<r.needs.length)(h3:¬8<r.bars.length)(hp:dW r=e)(hn:e.1≠0):bY r=e:=by
 rw[bY,if_neg (by simp[h0]),if_neg (by simp[h1]),if_neg (by rintro(h|h);exact h2 h;exact h3 h),if_pos (by rw[hp];exact hn),hp]
def tA {r:Rec}(h0:ed r.name=true)(h1:en r.v=true)(h2:¬8<r.needs.length)(h3:¬8<r.bars.length)(hp:dW r=(0,0)):bY r=if 4096<(cU r).length then(3,0)else(0,0):=by
 rw[bY,if_neg (by simp[h0]),if_neg (by simp[h1]),if_neg (by rintro(h|h);exact h2 h;exact h3 h),if_neg (by rw[hp];simp)]
def tV (r:Rec):Prop:=(ed r.name=true∧en r.v=true)∧(r.needs.length≤8∧r.bars.length≤8)∧dW r=(0,0)
def mH (n:Nat)(l:List ah):List ah:=if l.length≤n then l else l.take (n-1)++[aF [32] (l.drop (n-1))]
def cg (n:Nat)(op:Bool)(t:ah):List ah:=if op=true then mH n (ai t 32)else ai t 32
def eG (w:ah)(n:Nat)(op:Bool)(t:ah):Option (List ah):=
 if(cg n op t)[0]! =w∧(n=0∨(cg n op t).length=n)∧[]∉cg n op t then some (cg n op t)else none
def aY (w:ah)(n:Nat)(op:Bool):List ah→Option (List ah×List ah)
 |[]=>none
 |t::r=>match eG w n op t with
  |some l=>some (l,r)
  |none=>none
def bj (ls:List ah):ah×List ah:=match aY fj 2 true ls with
 |some (l,r)=>(l[1]!,r)
 |none=>([],ls)
def pR (l:List ah):Bool:=decide (l[3]! =ez) ||decide (l[3]! =ij)
def eU (l:List ah):bp:=⟨l[1]!,l[4]!,if l[2]! =[45]then []else ai l[2]! 44,decide (l[3]! =ez)⟩
def bO:List ah→List bp×List ah
 |[]=>([],[])
 |t::r=>match eG gX 5 true t with
  |some l=>if pR l=true then(eU l::(bO r).1,(bO r).2)else([],t::r)
  |none=>([],t::r)
def oU (ls:List ah):ah×List ah:=match aY cK 2 false ls with
 |some (l,r)=>(l[1]!,r)
 |none=>([],ls)
def cY (ls:List ah):a7×List ah:=(⟨(bO ls).1,(bj (bO ls).2).1,(oU (bj (bO ls).2).2).1⟩,(oU (bj (bO ls).2).2).2)
def jk:Nat→List ah→List a7×List ah
 |0,ls=>([],ls)
 |f+1,ls=>match aY ee 1 false ls with
  |some (_,r)=>((cY r).1::(jk f (cY r).2).1,(jk f (cY r).2).2)
  |none=>([],ls)
def lV:Nat→List ah→List gz×List ah
 |0,ls=>([],ls)
 |f+1,ls=>match aY eR 3 true ls with
  |some (l,r)=>(⟨l[1]!,l[2]!,(bj r).1⟩::(lV f (bj r).2).1,(lV f (bj r).2).2)
  |none=>([],ls)
def dk:List ah→List bn×List ah
 |[]=>([],[])
 |t::r=>match eG bz 0 false t with
  |some l=>if 2≤l.length then(⟨l[1]!,l.drop 2⟩::(dk r).1,(dk r).2)else([],t::r)
  |none=>([],t::r)
def ml:Rec:=⟨[],jo,[],[],[]⟩
def eE (ls:List ah):List a7×List ah:=jk ls.length ls
def jP (ls:List ah):List gz×List ah:=lV ls.length ls
def oa (nm:ah)(v:dt)(r:List ah):Rec×List ah:=(⟨nm,v,(eE r).1,(jP (eE r).2).1,(dk (jP (eE r).2).2).1⟩,(dk (jP (eE r).2).2).2)
def mj (ls:List ah):Option (Rec×List ah):=match aY cV 3 false ls with
 |some (l,r)=>match kJ l[2]! with
  |some v=>some (oa l[1]! v r)
  |none=>none
 |none=>none
def iz {w:ah}{n:Nat}{op:Bool}{ls l r:List ah}(h:aY w n op ls=some (l,r)):r.length+1=ls.length:=by
 match ls,h with
 |t::q,h=>
  simp only[aY]at h;split at h
  ·cases h;rfl
  ·cases h
 |[],h=>cases h
def rv (ls:List ah):(bj ls).2.length≤ls.length:=by
 unfold bj;split
 ·rename_i l r h;have:=iz h;simp only;omega
 ·exact Nat.le_refl _
def F2 (ls:List ah):(oU ls).2.length≤ls.length:=by
 unfold oU;split
 ·rename_i l r h;have:=iz h;simp only;omega
 ·exact Nat.le_refl _
def r8:∀ls:List ah,(bO ls).2.length≤ls.length
 |[]=>Nat.le_refl _
 |t::r=>by
  have:=r8 r;simp only[bO];split
  ·split
   ·simp only[List.length_cons];omega
   ·exact Nat.le_refl _
  ·exact Nat.le_refl _
def wj (ls:List ah):(cY ls).2.length≤ls.length:=by
 have h1:=r8 ls;have h2:=rv (bO ls).2;have h3:=F2 (bj (bO ls).2).2;show(oU (bj (bO ls).2).2).2.length≤_;omega
def wm:∀(f g:Nat)(ls:List ah),ls.length≤f→ls.length≤g→jk f ls=jk g ls
 |0,0,_,_,_=>rfl
 |0,g+1,ls,h,_=>by
  have:ls=[]:=List.length_eq_zero_iff.1 (by omega);subst this;rfl
 |f+1,0,ls,_,h=>by
  have:ls=[]:=List.length_eq_zero_iff.1 (by omega);subst this;rfl
 |f+1,g+1,ls,hf,hg=>by
  simp only[jk];cases h:aY ee 1 false ls with
  |none=>rfl
  |some p=>
   obtain⟨l,r⟩:=p;have h1:=iz h;have h2:=wj r;simp only;rw[wm f g _ (by omega) (by omega)]
def yD:∀(f g:Nat)(ls:List ah),ls.length≤f→ls.length≤g→lV f ls=lV g ls
 |0,0,_,_,_=>rfl
 |0,g+1,ls,h,_=>by
  have:ls=[]:=List.length_eq_zero_iff.1 (by omega);subst this;rfl
 |f+1,0,ls,_,h=>by
  have:ls=[]:=List.length_eq_zero_iff.1 (by omega);subst this;rfl
 |f+1,g+1,ls,hf,hg=>by
  simp only[lV];cases h:aY eR 3 true ls with
  |none=>rfl
  |some p=>
   obtain⟨l,r⟩:=p;have h1:=iz h;have h2:=rv r;simp only;rw[yD f g _ (by omega) (by omega)]
def rS {ls l r:List ah}(h:aY ee 1 false ls=some (l,r)):eE ls=((cY r).1::(eE (cY r).2).1,(eE (cY r).2).2):=by
 have h1:=iz h;have h2:=wj r;unfold eE;rw[←h1];simp only[jk,h];rw[wm r.length (cY r).2.length _ h2 (Nat.le_refl _)]
def rR {ls:List ah}(h:aY ee 1 false ls=none):eE ls=([],ls):=by
 unfold eE
 match ls,h with
 |[],_=>rfl
 |t::r,h=>simp only[List.length_cons,jk,h]
def tu {ls l r:List ah}(h:aY eR 3 true ls=some (l,r)):jP ls=(⟨l[1]!,l[2]!,(bj r).1⟩::(jP (bj r).2).1,(jP (bj r).2).2):=by
 have h1:=iz h;have h2:=rv r;unfold jP;rw[←h1];simp only[lV,h];rw[yD r.length (bj r).2.length _ h2 (Nat.le_refl _)]
def tt {ls:List ah}(h:aY eR 3 true ls=none):jP ls=([],ls):=by
 unfold jP
 match ls,h with
 |[],_=>rfl
 |t::r,h=>simp only[List.length_cons,lV,h]
structure RdS where
 r:Rec
 st:Nat
 deriving Inhabited
def tL {f:Nat→Int}:∀{k i:Nat},lG f i k=0→∀j,i≤j→j<i+k→f j=0
 |0,i,_,j,h1,h2=>absurd h2 (by omega)
 |k+1,i,h,j,h1,h2=>by
  simp only[lG]at h;by_cases hf:f i=0
  ·rw[if_pos hf]at h;by_cases hj:j=i
   ·rw[hj];exact hf
   ·exact tL h j (by omega) (by omega)
  ·rw[if_neg hf]at h;exact absurd h hf
def AM {f:Nat→Int}{n:Nat}(h:gF f 0 n=0)(j:Nat)(hj:j<n):f j=0:=tL h j (by omega) (by omega)
def tM {f:Nat→Int}:∀{k i:Nat},(jd f i k).1=0→∀j,i≤j→j<i+k→f j=0
 |0,i,_,j,h1,h2=>absurd h2 (by omega)
 |k+1,i,h,j,h1,h2=>by
  simp only[jd]at h;by_cases hf:f i=0
  ·rw[if_pos hf]at h;by_cases hj:j=i
   ·rw[hj];exact hf
   ·exact tM h j (by omega) (by omega)
  ·rw[if_neg hf]at h;exact absurd h hf
def AL {f:Nat→Int}{n:Nat}(h:(fo f 0 n).1=0)(j:Nat)(hj:j<n):f j=0:=tM h j (by omega) (by omega)
def bp.fit (w:bp):Prop:=w.sm∧(w.feats.length≤6∧∀t∈w.feats,t.length≤12)
def a7.fit (n:a7):Prop:=(n.any.length≤3∧∀w∈n.any,w.fit)∧n.when'.length≤1048576∧n.option.length≤1048576
def bn.fit (x:bn):Prop:=x.sm∧x.of.length≤6
structure Rec.fit (r:Rec):Prop where
 nm:r.name.length≤1048576
 v:r.v.sm
 ns:r.needs.length≤8
 n:∀x∈r.needs,x.fit
 bs:r.bars.length≤8
 b:∀x∈r.bars,x.sm
 fs:r.feats.length≤8
 f:∀x∈r.feats,x.fit
def sV {α:Type} [Inhabited α]{l:List α}{x:α}(h:x∈l):∃i,i<l.length∧l[i]! =x:=by
 obtain⟨i,hi,e⟩:=List.mem_iff_getElem.1 h;exact⟨i,hi,by rw[←e];simp[hi]⟩
def G3 {r:Rec}{w:bp}{al:Bool}(h:jb r w al=0)(hs:w.sm):w.fit:=by
 refine⟨hs, ?_⟩;unfold jb at h;split at h
 ·rename_i h1;exact absurd h h1
 ·split at h
  ·cases h
  ·rename_i h2;simp only[kq,Bool.not_eq_false,Bool.and_eq_true,decide_eq_true_eq,dh]at h2;refine⟨h2.1.1,fun t ht=>?_⟩;obtain⟨i,hi,rfl⟩:=sV ht;have:=h2.2 i (by omega) hi;simp only[LK,bF,Bool.and_eq_true,decide_eq_true_eq]at this;exact this.1.1.2
def FL {r:Rec}{n:a7}(h:ib r n=0)(hs:n.sm):n.fit:=by
 unfold ib at h;split at h
 ·cases h
 split at h
 ·cases h
 rename_i h1 h2;split at h
 ·rename_i h3;exact absurd h h3
 rename_i h3;refine⟨⟨by omega,fun w hw=>?_⟩,hs.2⟩;obtain⟨i,hi,rfl⟩:=sV hw;exact G3 (AM (Classical.not_not.1 h3) i hi) (hs.1 _ hw)
def Di {r:Rec}(h:tV r∧kn r):r.fit:=by
 obtain⟨⟨_,⟨h1,h2⟩,hp⟩,⟨s1,s2⟩,s3,s4,s5⟩:=h;have h0:(jZ r).1=0∧fM r.feats=true:=by
  unfold dW at hp;split at hp
  ·rename_i h;rw[hp]at h;exact absurd rfl h
  split at hp
  ·rename_i h;rw[hp]at h;exact absurd rfl h
  split at hp
  ·cases hp
  rename_i a b c;exact⟨Classical.not_not.1 a,by simpa using c⟩
 obtain⟨h3,h4⟩:=h0;simp only[fM,Bool.and_eq_true,decide_eq_true_eq,dh]at h4;refine⟨s1,s2,h1,fun x hx=>?_,h2,s4,h4.1,fun x hx=>⟨s5 x hx, ?_⟩⟩
 ·obtain⟨i,hi,rfl⟩:=sV hx;exact FL (AL h3 i hi) (s3 _ hx)
 ·obtain⟨i,hi,rfl⟩:=sV hx;have:=h4.2 i (by omega) hi;simp only[ku,uc,Bool.and_eq_true,decide_eq_true_eq]at this;exact this.2.1.1
def jH (x:UInt8)(B:Nat):∀l:List ah,(∀t∈l,t.length≤B)→(aF [x] l).length≤l.length*(B+1)
 |[],_=>by simp[aF]
 |[t],h=>by have:=h t (.head _);simp only[aF,List.length_cons,List.length_nil];omega
 |t::u::r,h=>by
  have h1:=h t (.head _);have h2:=jH x B (u::r) fun y hy=>h y (.tail _ hy)
  simp only[aF,List.length_append,List.length_cons,List.length_nil,Nat.succ_mul]at h2⊢;omega
def Bw {w:bp}(h:w.fit):(aF [44] w.feats).length≤6291462:=by
 have h1:=jH 44 1048576 w.feats h.1.2;have h2:=Nat.mul_le_mul_right (1048576+1) h.2.1;omega
def yg {w:bp}(h:w.fit):(aF [44] w.feats).length≤78:=by
 have h1:=jH 44 12 w.feats h.2.2;have h2:=Nat.mul_le_mul_right (12+1) h.2.1;omega
def jv (w:bp):ah:=bw (gw w)
def wY {w:bp}(h:w.fit):(jv w).length≤8400000:=by
 have h1:=Bw h;have h2:=h.1.1;simp only[jv,bw,gw,aF,List.length_append,List.length_cons,List.length_nil];split<;>split<;>simp only[gX,ez,ij,List.length_append,List.length_cons,List.length_nil]<;>omega
def nW {s:ah}(h:s.length≤1048576):(gv s).length≤1048590:=by
 unfold gv;split
 ·simp
 ·simp only[bw,aF,fj,List.length_append,List.length_cons,List.length_nil];omega
def F5 {s:ah}(h:s.length≤1048576):(sz s).length≤1048590:=by
 unfold sz;split
 ·simp
 ·simp only[bw,aF,cK,List.length_append,List.length_cons,List.length_nil];omega
def pP {α:Type}(q:α→ah)(B:Nat){l:List α}(h:∀x∈l,(q x).length≤B)(i:Nat):(((l.take i).map q).flatten).length≤i*B:=by
 have h1:=mP q B (l.take i) fun x hx=>h x (List.mem_of_mem_take hx)
 have h2:=Nat.mul_le_mul_right B (List.length_take_le i l);omega
def nM {α:Type} [Inhabited α](q:α→ah){l:List α}{i:Nat}(h:i<l.length):((l.take (i+1)).map q).flatten=((l.take i).map q).flatten++q l[i]! :=by
 rw[List.take_add_one,List.getElem?_eq_getElem h,List.map_append,List.flatten_append];simp[h]
def DL {n:a7}(h:n.fit):(kY n).length≤27400000:=by
 have h1:=mP jv 8400000 n.any fun w hw=>wY (h.1.2 w hw)
 have h2:=Nat.mul_le_mul_right 8400000 h.1.1;have h3:=nW h.2.1;have h4:=F5 h.2.2;have h5:(bw [ee]).length=5:=rfl;unfold jv at h1;simp only[kY,List.length_append];omega
def EM {b:gz}(h:b.sm):(qw b).length≤3145800:=by
 have h1:=nW h.2.2;have h2:=h.1;have h3:=h.2.1;simp only[qw,bw,aF,eR,List.length_append,List.length_cons,List.length_nil];omega
def C3 {x:bn}(h:x.fit):(oe x).length≤8400000:=by
 have h1:=jH 32 1048576 ([bz,x.name]++x.of) (by
  intro t ht;simp only[List.cons_append,List.nil_append,List.mem_cons]at ht;rcases ht with rfl|rfl|ht
  ·simp[bz]
  ·exact h.1.1
  ·exact h.1.2.2 _ ht)
 have h2:=h.2;have h3:([bz,x.name]++x.of).length≤8:=by simp only[List.length_append,List.length_cons,List.length_nil];omega
 have h4:=Nat.mul_le_mul_right (1048576+1) h3;simp only[oe,bw,List.length_append,List.length_cons,List.length_nil]at h1 h4⊢;omega
def Dk {r:Rec}(h1:r.name.length≤1048576)(h2:r.v.sm):(mX r).length≤3145800:=by
 have h3:=zX r.v h2;simp only[mX,bw,aF,cV,List.length_append,List.length_cons,List.length_nil];omega
def cw (n:a7)(j:Nat):ah:=bw [ee]++((n.any.take j).map jv).flatten
def lN {n:a7}{j:Nat}(h:j<n.any.length):cw n (j+1)=cw n j++jv n.any[j]! :=by simp only[cw,nM jv h,List.append_assoc]
def DJ {n:a7}{j:Nat}(h:n.any.length≤j):kY n=cw n j++gv n.when'++sz n.option:=by
 rw[cw,List.take_of_length_le h];rfl
def DK {n:a7}(h:n.fit)(j:Nat)(hj:j≤3):(cw n j).length≤25200005:=by
 have h1:=pP jv 8400000 (fun w hw=>wY (h.1.2 w hw)) j;have h2:=Nat.mul_le_mul_right 8400000 hj;have h5:(bw [ee]).length=5:=rfl;simp only[cw,List.length_append];omega
def iN (r:Rec)(i:Nat):ah:=mX r++((r.needs.take i).map kY).flatten
def vg (r:Rec)(i:Nat):ah:=iN r r.needs.length++((r.bars.take i).map qw).flatten
def yd (r:Rec)(i:Nat):ah:=vg r r.bars.length++((r.feats.take i).map oe).flatten
def JJ (r:Rec):iN r 0=mX r:=by simp[iN]
def JK (r:Rec):vg r 0=iN r r.needs.length:=by simp[vg]
def JL (r:Rec):yd r 0=vg r r.bars.length:=by simp[yd]
def Cw (r:Rec):yd r r.feats.length=cU r:=by simp only[yd,vg,iN,List.take_length,cU]
def lu {r:Rec}{i:Nat}(h:i<r.needs.length):iN r (i+1)=iN r i++kY r.needs[i]! :=by simp only[iN,nM kY h,List.append_assoc]
def GX {r:Rec}{i:Nat}(h:i<r.bars.length):vg r (i+1)=vg r i++qw r.bars[i]! :=by simp only[vg,nM qw h,List.append_assoc]
def GY {r:Rec}{i:Nat}(h:i<r.feats.length):yd r (i+1)=yd r i++oe r.feats[i]! :=by simp only[yd,nM oe h,List.append_assoc]
def Cu {r:Rec}(h:r.fit)(i:Nat)(hi:i≤r.needs.length):(iN r i).length≤222400000:=by
 have a0:=Dk h.nm h.v;have a1:=pP kY 27400000 (fun x hx=>DL (h.n x hx)) i;have b1:=Nat.mul_le_mul_right 27400000 (Nat.le_trans hi h.ns);simp only[iN,List.length_append];omega
def Cv {r:Rec}(h:r.fit)(i:Nat)(hi:i≤r.bars.length):(vg r i).length≤247600000:=by
 have a0:=Cu h r.needs.length (Nat.le_refl _);have a1:=pP qw 3145800 (fun x hx=>EM (h.b x hx)) i;have b1:=Nat.mul_le_mul_right 3145800 (Nat.le_trans hi h.bs);simp only[vg,List.length_append];omega
def I4 {r:Rec}(h:r.fit)(i:Nat)(hi:i≤r.feats.length):(yd r i).length≤314800000:=by
 have a0:=Cv h r.bars.length (Nat.le_refl _);have a1:=pP oe 8400000 (fun x hx=>C3 (h.f x hx)) i;have b1:=Nat.mul_le_mul_right 8400000 (Nat.le_trans hi h.fs);simp only[yd,List.length_append];omega
def yG {r:Rec}(h:(bY r).1=0):tV r:=by
 unfold bY at h;split at h
 ·cases h
 split at h
 ·cases h
 split at h
 ·cases h
 rename_i a b c;split at h
 ·rename_i d;exact absurd h d
 rename_i d;exact⟨⟨by simpa using a,by simpa using b⟩,⟨by omega,by omega⟩,Gf (Classical.not_not.1 d)⟩
end Go.Abs
