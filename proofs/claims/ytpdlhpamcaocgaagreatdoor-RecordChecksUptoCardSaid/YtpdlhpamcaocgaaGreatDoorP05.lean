/- A part of the proofs of the statements: AbsZ, LAsmG, LAsmR, RData, LPlain1, LPlain2, LPlain3, RSpec1, RSpec2, RSpec3, RSpec4, RSpec5, RSpec6, RPrs, RSpec7, RSpec8, RSpec9. -/
import Derived.Test.YtpdlhpamcaocgaaGreatDoorP04
set_option linter.all false
set_option maxRecDepth 4000
section
namespace Go.Abs
variable [ct]
section
variable {P:Program} {ν:List (Nat×Nat)} {bT:List Nat} {Γ:Ctx}
def RD.re {x x':X}{σ:List (Nat×Nat)}(hw:x'.w=x.w)(hI:x'.I=x.I)(hβ:∀l l',lD 0 σ l=some l'→x'.β l'=x.β l){v:Value}{d d':D}(hv:RD ν x v d)(hd:Gz 0 σ d d'):RD ν x' v d':=by
 rcases hd with⟨rfl,hn⟩|hd|hd
 ·exact hv.aW hn (fun _ h=>by rw[hI];exact h) (fun _ _=>by rw[hw])
 ·exact RD.rn (x:=x) (x':=x') hw hI hβ hv _ hd
 ·exact RD.nl (x:=x) (x':=x') hw hI hv _ hd
def lr.re {x x':X}{σ:List (Nat×Nat)}(hw:x'.w=x.w)(hI:x'.I=x.I)(hβ:∀l l',lD 0 σ l=some l'→x'.β l'=x.β l){b base tot:Nat}{b0 blk:bj}(o2:lr ν x b base tot b0)(q3:oI 0 σ b0 blk):lr ν x' b base tot blk:=by
 cases b0 with
 |iter s p=>
  cases blk with
  |iter s' p'=>simp only[oI]at q3;obtain⟨rfl,rfl⟩:=q3;simp only[lr,hw]at o2⊢;exact o2
  |_=>simp[oI]at q3
 |row s=>
  cases blk with
  |row s'=>simp only[oI]at q3;subst q3;simp only[lr,hw]at o2⊢;exact o2
  |_=>simp[oI]at q3
 |bld o n u=>
  cases blk with
  |bld o' n' u'=>
   simp only[oI]at q3;obtain⟨q3,rfl,rfl⟩:=q3;obtain⟨p1,v,p2,p3⟩:=o2;refine⟨p1,v,by rw[hw];exact p2, ?_⟩;cases o with
   |none=>simp only at q3;subst q3;exact p3
   |some l0=>
    obtain⟨l1,q4,rfl⟩:=q3;obtain⟨g,t,p4,p5,p6⟩:=p3;exact⟨g,t,p4,p5,by rw[hβ l0 l1 q4];exact p6⟩
  |_=>simp[oI]at q3
 |buf k es=>
  cases blk with
  |iter s' p'=>simp[oI]at q3
  |row s'=>simp[oI]at q3
  |bld o' n' u'=>simp[oI]at q3
  |buf k' es'=>
   simp only[oI]at q3;obtain⟨rfl,q3⟩:=q3;obtain⟨p1,p2,cc,T,fr,p3,p4,p5,p6⟩:=o2;rw[←hw]at p3;rcases q3 with⟨rfl,hn⟩|q3|q3
   ·exact⟨p1,p2,cc,T,fr,p3,p4,p5,fun i hi=>⟨(p6 i hi).1,fun j hj=>⟨((p6 i hi).2 j hj).1,RD.re hw hI hβ ((p6 i hi).2 j hj).2 (.inl ⟨rfl,iY (cq hn i) j⟩)⟩⟩⟩
   ·obtain⟨r1,r2⟩:=jv q3;refine⟨p1,by omega,cc,T,fr,p3,p4,p5,fun i hi=>?_⟩;have hi':i<es.length:=by omega
    obtain⟨s1,s2⟩:=v8 (r2 i hi');exact⟨s1.trans (p6 i hi').1,fun j hj=>⟨((p6 i hi').2 j hj).1,RD.re hw hI hβ ((p6 i hi').2 j hj).2 (.inr (.inl (s2 j (by rw[(p6 i hi').1];exact hj))))⟩⟩
   ·obtain⟨r1,r2⟩:=mZ q3;refine⟨p1,by omega,cc,T,fr,p3,p4,p5,fun i hi=>?_⟩;have hi':i<es.length:=by omega
    obtain⟨s1,s2⟩:=vl (r2 i hi');exact⟨s1.trans (p6 i hi').1,fun j hj=>⟨((p6 i hi').2 j hj).1,RD.re hw hI hβ ((p6 i hi').2 j hj).2 (.inr (.inr (s2 j (by rw[(p6 i hi').1];exact hj))))⟩⟩
def Cn {lo c:Nat}{σ:List (Nat×Nat)}{l l':Nat}(h0:fN 0 c σ=true)(h:lD 0 σ l=some l'):l'<c∧(l,l')∈σ:=by
 obtain⟨h1,h2⟩:=qg h0 h;rcases h2 with⟨h2,_⟩|⟨_,h2⟩
 ·omega
 ·exact⟨h1,h2⟩
def qa {c:Nat}:∀{σ:List (Nat×Nat)}{a b:Nat},fN 0 c σ=true→(a,b)∈σ→lD 0 σ a=some b
 |[],a,b,_,h=>by cases h
 |(a0,b0)::r,a,b,h0,h=>by
  unfold lD;simp only[fN,Bool.and_eq_true,List.all_eq_true,Bool.not_eq_true']at h0;obtain⟨_,_,p4,p5⟩:=h0;rcases List.mem_cons.1 h with h|h
  ·simp only[Prod.mk.injEq]at h;obtain⟨rfl,rfl⟩:=h;simp
  ·have:=(p4 _ h).1;simp only at this;have hne:Nat.beq a0 a=false:=by
    cases hb:Nat.beq a0 a with
    |false=>rfl
    |true=>obtain rfl:=Nat.eq_of_beq_eq_true hb;simp at this
   rw[hne];exact qa p5 h
structure Fr (σi σo:List (Nat×Nat))(q q1:Nat)(m0 m1:List (Nat×bj))(st st':St):Prop where
 oki:fN 0 q σi=true
 oko:fN 0 st'.nx σo=true
 nx:st.nx≤st'.nx
 lt:∀l i,(l,i)∈σi→look st.m l≠none
 io:∀i l,(i,l)∈σo→(l,i)∈σi∨st.nx≤l
 m0:∀i b,look m0 i=some b→∃l b',(l,i)∈σi∧look st.m l=some b'∧oI 0 σi b' b
 m1:∀l b,look st'.m l=some b→(∃i b1,(i,l)∈σo∧look m1 i=some b1∧oI 0 σo b1 b)∨(kt σo l=none∧(∀i,(l,i)∉σi)∧look st.m l=some b)
def Hk {fid:Nat}{fn:Func}{af:az}{K:D→St→Prop}(hΓ:Ok P ν bT Γ)(hmix:P.follows .mixedOrders=true)(hf:P.funcs[fid]? =some fn)(hc:compile P ν bT fn=some af)
  {x:X} {args:Array Value} {ds cs:List D} {st:St} {σi:List (Nat×Nat)} {q:Nat} {m0:List (Nat×bj)} (hl:args.size=ds.length) (hargs:∀i,i<ds.length→RD ν x (args.getD i undef) (ds.getD i .any))
  (hs:dK ν x (look st.m)) (hfr:dI st x) (hlen:cs.length=ds.length) (hds:∀i,i<ds.length→Gz 0 σi (ds.getD i .any) (cs.getD i .any)) (hnp:cs.length=af.np)
  (oki:fN 0 q σi=true) (hlt:∀l i,(l,i)∈σi→look st.m l≠none) (hm0:∀i b,look m0 i=some b→∃l b',(l,i)∈σi∧look st.m l=some b'∧oI 0 σi b' b)
  (hw:bq (Γ.at q) af.body (fun e env st1=>e.home∧mR st1.m env af.res∧∃(σo:List (Nat×Nat)) (q1:Nat) (m1:List (Nat×bj)) (st':St) (vd':D),Fr σi σo q q1 m0 m1 st st'∧Gz 0 σo (jd af env st1) vd'∧K vd' st'∧∀i,look st1.m i=look m1 i) (ei af cs) ⟨q,m0⟩):
  Calls P fid args x.w fun
   | .returned v,w'=>∃x' d st',K d st'∧x'.w=w'∧Step x x'∧RD ν x' v d∧dK ν x' (look st'.m)∧dI st' x'
   |_,_=>False:=by
 obtain⟨body,c1,c2,c3,c4,c5,c6⟩:=fO hc
 let x0:X:=⟨x.w,x.I,fun i=>(kt σi i).bind x.β⟩
 have hx0:∀l i,(l,i)∈σi→x0.β i=x.β l:=fun l i h=>by simp only[x0,sA oki h,Option.bind_some]
 have hβ0:∀l i,lD 0 σi l=some i→x0.β i=x.β l:=fun l i h=>hx0 l i (Cn (lo:=0) oki h).2
 have hx0':∀i p,x0.β i=some p→∃l,(l,i)∈σi∧x.β l=some p∧i<q:=by
  intro i p h;obtain⟨l,h1,h2⟩:=Option.bind_eq_some_iff.1 (show(kt σi i).bind x.β=some p from h);exact⟨l,jo h1,h2,nV oki (jo h1)⟩
 have hs0:dK ν x0 (look m0):=by
  refine⟨fun i blk b base tot e1 e2=>?_,fun i j b base tot base' tot' e1 e2 e3 e4=>?_,hs.imm,fun i b base tot e=>?_,ct.le x _ (fun _ h=>h) (fun _ _=>rfl) hs.gd⟩
  ·obtain⟨l,b',h1,h2,h3⟩:=hm0 i blk e1;rw[hx0 l i h1]at e2;obtain⟨o1,o2⟩:=hs.own l b' b base tot h2 e2;exact⟨o1,lr.re (x:=x) (x':=x0) rfl rfl hβ0 o2 h3⟩
  ·obtain⟨l,h1,h2,_⟩:=hx0' i _ e3;obtain⟨l',h1',h2',_⟩:=hx0' j _ e4;have:=hs.inj l l' b base tot base' tot' (hlt _ _ h1) (hlt _ _ h1') h2 h2';subst this;have:=qa oki h1;rw[qa oki h1']at this;exact(Option.some.inj this).symm
  ·obtain⟨l,_,h2,_⟩:=hx0' i _ e;exact hs.de l b base tot h2
 have hf0:dI ⟨q,m0⟩ x0:=by
  refine⟨fun i hi=>?_,fun i hi=>?_⟩
  ·cases h:x0.β i with
   |none=>rfl
   |some p=>obtain⟨_,_,_,h4⟩:=hx0' i p h;simp only at hi;omega
  ·cases h:look m0 i with
   |none=>exact absurd h hi
   |some b=>obtain⟨l,b',h1,_⟩:=hm0 i b h;exact nV oki h1
 have hi:=qY (P:=P) (ν:=ν) (bT:=bT) (x:=x0) (ds:=cs) (st:=⟨q,m0⟩) c4 c5 c6 (args:=args) (by omega) hnp (fun i hi=>RD.re (x:=x) (x':=x0) rfl rfl hβ0 (hargs i (by omega)) (hds i (by omega))) hs0 hf0;have hcs:=oU (C:={P,ν,bT,slots:=slotsOf fn,ntmps:=fn.ntmps,vm:=DY P fn}) (hΓ.at q) (lg fn).1 hmix x0 (fun l h=>hf0.β l h) body af.body c2 _ _ _ _ x0 hw hi (.refl _);refine calls_of_wp hf c1 (wp_mono hcs fun e a w' hp=>?_);obtain⟨e',x',env',st1,he,hxw,hst,hi',hh,hro,σo,q1,m1,st',vd',hfm,hvd,hK,hlk⟩:=hp;subst hxw;obtain⟨v,r1,r2,r3⟩:=nL hi' c3 hro
 let x2:X:=⟨x'.w,x'.I,fun l=>match kt σo l with|some i=>x'.β i|none=>x.β l⟩
 have hx2:∀i l,(i,l)∈σo→x2.β l=x'.β i:=fun i l h=>by simp only[x2,sA hfm.oko h]
 have hx2n:∀l,kt σo l=none→x2.β l=x.β l:=fun l h=>by simp only[x2,h]
 have hβ2:∀i l,lD 0 σo i=some l→x2.β l=x'.β i:=fun i l h=>hx2 i l (Cn (lo:=0) hfm.oko h).2
 have hx0s:∀l i p,(l,i)∈σi→x.β l=some p→x'.β i=some p:=fun l i p h e=>hst.β _ _ (by rw[hx0 l i h];exact e)

 have hnew:∀i p,x'.β i=some p→(∃l,(l,i)∈σi∧x.β l=some p)∨x.w.heap.size≤p.1∨∃l p',(∃j,(l,j)∈σi)∧x.β l=some p'∧p'.1=p.1:=by
  intro i p e;rcases hst.newβ i p e with h|h|⟨j,p',h1,h2⟩
  ·obtain⟨l,h3,h4,_⟩:=hx0' i p h;exact .inl ⟨l,h3,h4⟩
  ·exact .inr (.inl h)
  ·obtain⟨l,h3,h4,_⟩:=hx0' j p' h1;exact .inr (.inr ⟨l,p',⟨j,h3⟩,h4,h2⟩)
 have hstep:Step x x2:=by
  refine⟨hst.os,hst.tape,hst.output,hst.size,hst.I,hst.mr,fun l p hp=>?_,fun b hb hn=>hst.old b hb fun i p h e=>?_,fun b h=>?_,fun l p h=>?_⟩
  ·cases h:kt σo l with
   |none=>rw[hx2n l h];exact hp
   |some i=>
    have hm:=jo h;rw[hx2 i l hm];rcases hfm.io i l hm with h2|h2
    ·exact hx0s l i p h2 hp
    ·rw[hfr.β l h2]at hp;cases hp
  ·obtain⟨l,_,h2,_⟩:=hx0' i p h;exact hn l p h2 e
  ·rcases hst.newI b h with h|h|⟨i,p,h1,h2⟩
   ·exact .inl h
   ·exact .inr (.inl h)
   ·obtain⟨l,_,h3,_⟩:=hx0' i p h1;exact .inr (.inr ⟨l,p,h3,h2⟩)
  ·cases h1:kt σo l with
   |none=>rw[hx2n l h1]at h;exact .inl h
   |some i=>
    have hm:=jo h1;rw[hx2 i l hm]at h;rcases hnew i p h with⟨l',h2,h3⟩|h2|⟨l',p',_,h3,h4⟩
    ·exact .inr (.inr ⟨l',p,h3,rfl⟩)
    ·exact .inr (.inl h2)
    ·exact .inr (.inr ⟨l',p',h3,h4⟩)
 have hsim:dK ν x2 (look st'.m):=by
  refine⟨fun l blk b base tot e1 e2=>?_,fun l1 l2 b base tot base' tot' e1 e2 e3 e4=>?_,hi'.kR.imm,fun l b base tot e=>?_,ct.le x' _ (fun _ h=>h) (fun _ _=>rfl) hi'.kR.gd⟩
  ·rcases hfm.m1 l blk e1 with⟨i,b1,h1,h2,h3⟩|⟨h1,h2,h3⟩
   ·rw[hx2 i l h1]at e2;obtain⟨o1,o2⟩:=hi'.kR.own i b1 b base tot (by rw[hlk];exact h2) e2;exact⟨o1,lr.re (x:=x') (x':=x2) rfl rfl hβ2 o2 h3⟩
   ·rw[hx2n l h1]at e2;obtain⟨o1,o2⟩:=hs.own l blk b base tot h3 e2;have hlt:=hs.de l b base tot e2;have hno:∀i p,x0.β i=some p→p.1≠b:=by
     rintro i ⟨b',base',tot'⟩ h e;simp only at e;subst e;obtain⟨l',h4,h5,_⟩:=hx0' i _ h;have:=hs.inj l' l b' base' tot' base tot (hfm.lt _ _ h4) (by rw[h3];simp) h5 e2;subst this;exact h2 _ h4
    refine⟨fun h=>?_,o2.mono hstep.le (hst.old b hlt hno)⟩;rcases hst.newI b h with h|h|⟨i,p,h4,h5⟩
    ·exact o1 h
    ·exact absurd hlt (Nat.not_lt.2 h)
    ·exact hno i p h4 h5
  ·have mix:∀l1 l2 base tot base' tot',(∃i b1,(i,l1)∈σo∧look m1 i=some b1)→kt σo l2=none→(∀i,(l2,i)∉σi)→look st.m l2≠none→x2.β l1=some (b,base,tot)→x2.β l2=some (b,base',tot')→False:=by
    rintro l1 l2 base tot base' tot' ⟨i,b1,h1,h2⟩ h3 h4 h5 e3 e4;rw[hx2 i l1 h1]at e3;rw[hx2n l2 h3]at e4;rcases hnew i _ e3 with⟨l',h6,h7⟩|h6|⟨l',⟨pb,pt,pq⟩,⟨j,h6⟩,h7,h8⟩
    ·have:=hs.inj l' l2 b base tot base' tot' (hfm.lt _ _ h6) h5 h7 e4;subst this;exact h4 _ h6
    ·have:=hs.de l2 b base' tot' e4;simp only at h6;omega
    ·simp only at h8;subst h8;have:=hs.inj l' l2 pb pt pq base' tot' (hfm.lt _ _ h6) h5 h7 e4;subst this;exact h4 _ h6
   cases f1:look st'.m l1 with
   |none=>exact absurd f1 e1
   |some b1=>
    cases f2:look st'.m l2 with
    |none=>exact absurd f2 e2
    |some b2=>
     rcases hfm.m1 l1 b1 f1 with⟨i,c1,h1,h2,_⟩|⟨h1,h2,h3⟩<;>rcases hfm.m1 l2 b2 f2 with⟨j,c2,k1,k2,_⟩|⟨k1,k2,k3⟩
     ·rw[hx2 i l1 h1]at e3;rw[hx2 j l2 k1]at e4;have:=hi'.kR.inj i j b base tot base' tot' (by rw[hlk,h2];simp) (by rw[hlk,k2];simp) e3 e4;subst this;have:=qa hfm.oko h1;rw[qa hfm.oko k1]at this;exact(Option.some.inj this).symm
     ·exact(mix l1 l2 base tot base' tot' ⟨i,c1,h1,h2⟩ k1 k2 (by rw[k3];simp) e3 e4).elim
     ·exact(mix l2 l1 base' tot' base tot ⟨j,c2,k1,k2⟩ h1 h2 (by rw[h3];simp) e4 e3).elim
     ·rw[hx2n l1 h1]at e3;rw[hx2n l2 k1]at e4;exact hs.inj l1 l2 b base tot base' tot' (by rw[h3];simp) (by rw[k3];simp) e3 e4
  ·cases h1:kt σo l with
   |none=>rw[hx2n l h1]at e;exact Nat.lt_of_lt_of_le (hs.de l b base tot e) hst.size
   |some i=>
    rw[hx2 i l (jo h1)]at e;exact hi'.kR.de i b base tot e
 have hfr2:dI st' x2:=by
  refine⟨fun l hl=>?_,fun l hl=>?_⟩
  ·cases h1:kt σo l with
   |none=>rw[hx2n l h1];exact hfr.β l (by have:=hfm.nx;omega)
   |some i=>have:=nV hfm.oko (jo h1);omega
  ·cases f1:look st'.m l with
   |none=>exact absurd f1 hl
   |some b1=>
    rcases hfm.m1 l b1 f1 with⟨i,c1,h1,_⟩|⟨_,_,h3⟩
    ·exact nV hfm.oko h1
    ·have:=hfr.m l (by rw[h3];simp);have:=hfm.nx;omega
 have hrd:=RD.re (ν:=ν) (x:=x') (x':=x2) rfl rfl hβ2 r2 hvd;rcases Ex.xl hh with h|h<;>rw[h]at he<;>subst he<;>exact⟨hi'.defers,v,r1,x2,vd',st',hK,rfl,hstep,hrd,hsim,hfr2⟩
end
end Go.Abs
end
section
namespace Go.Abs
structure NJ where
 tr:List D→St→(D→St→Prop)→Prop
 mu:List D→St→Nat
 mono:∀(ds:List D) (st:St) (K K':D→St→Prop),(∀d st',K d st'→K' d st')→tr ds st K→tr ds st K'
def NJ.no:NJ:=⟨fun _ _ _=>False,fun _ _=>0,fun _ _ _ _ _ h=>h⟩
def kQ (af:az)(Q:D→List (Nat×bj)→Prop):Ex→List bm→St→Prop:=fun e env st=>e.home∧mR st.m env af.res∧∃m1,(∀i,look st.m i=look m1 i)∧Q (jd af env st) m1
def cl {af:az}{Q:D→List (Nat×bj)→Prop}{vd:D}{m1:List (Nat×bj)}{e:Ex}{env:List bm}{st:St}(h1:e.home)(h2:mR st.m env af.res)(h3:jd af env st=vd)(h4:st.m=m1)(h5:Q vd m1):kQ af Q e env st:=⟨h1,h2,m1,fun i=>by rw[h4],by rw[h3];exact h5⟩
def One (vd:D)(m1:List (Nat×bj)):D→List (Nat×bj)→Prop:=fun d m=>d=vd∧m=m1
def oneq (vd:D)(m1:List (Nat×bj)):One vd m1 vd m1:=⟨rfl,rfl⟩
section
variable [ct] {P:Program} {ν:List (Nat×Nat)} {bT:List Nat} {Γ:Ctx}
def Et (P:Program)(ν:List (Nat×Nat))(Γ':Ctx)(bT:List Nat)(tr:List D→St→(D→St→Prop)→Prop)(fid:Nat):Prop:=
 ∀(ds:List D) (st:St) (K:D→St→Prop),tr ds st K→Ok P ν bT Γ'→∀(x:X) (args:Array Value),args.size=ds.length→(∀i,i<ds.length→RD ν x (args.getD i undef) (ds.getD i .any))→dK ν x (look st.m)→dI st x→
  gG P x (fun v x'=>∃d st',K d st'∧Step x x'∧RD ν x' v d∧dK ν x' (look st'.m)∧dI st' x') ((callFunc fid args).run P x.w)
end
end Go.Abs
end
section
namespace Go.Abs
abbrev RT:=List D→D→Prop
abbrev FT:=D→List D→D→D→Prop
abbrev TT:=List D→St→(D→St→Prop)→Prop
def yb (T:TT):Prop:=∀ds st K K',(∀d st',K d st'→K' d st')→T ds st K→T ds st K'
def xg (A:RT→Prop):RT:=fun ds d=>∀T,A T→T ds d
def lA (A:FT→Prop):FT:=fun d ds v s=>∀T,A T→T d ds v s
def Gl (T:TT):Ctx:=⟨fun _ _=>False,fun _ _=>.any,fun _=>T,fun _ _ _=>False,fun _ _ _=>.any,fun _ _ _=>.any,0⟩
def AH (C:Ctx→Prop):TT:=fun ds st K=>∀T,yb T→C (Gl T)→T ds st K
def rz (C:Ctx→Prop):yb (AH C):=fun _ _ _ _ h h1 T hT hC=>hT _ _ _ _ h (h1 T hT hC)
def noR:RT:=fun _ _=>False
def NX:FT:=fun _ _ _ _=>False
def noT:TT:=fun _ _ _=>False
def tD:yb noT:=fun _ _ _ _ _ h=>h.elim
structure ox where
 key:Nat
 rel:RT
 mu:List D→Nat
 relF:FT
 tr:TT
 muE:List D→St→Nat
 mono:yb tr
def NW:List D→Nat:=fun _=>0
def Fe:List D→St→Nat:=fun _ _=>0
def jQ:ox:=⟨0,noR,NW,NX,noT,Fe,tD⟩
def rP (k:Nat)(A:RT→Prop)(mu:List D→Nat:=NW):ox:=⟨k,xg A,mu,NX,noT,Fe,tD⟩
def rF (k:Nat)(A:FT→Prop):ox:=⟨k,noR,NW,lA A,noT,Fe,tD⟩
def rG (k:Nat)(C:Ctx→Prop)(mu:List D→St→Nat:=Fe):ox:=⟨k,noR,NW,NX,AH C,mu,rz C⟩
def rFG (k:Nat)(A:FT→Prop)(C:Ctx→Prop):ox:=⟨k,noR,NW,lA A,AH C,Fe,rz C⟩
noncomputable def pick (r:D→Prop):D:=Classical.epsilon r
def iZ {r:D→Prop}(h:∃d,r d):r (pick r):=Classical.epsilon_spec h
def MA (R:RT):Prop:=∀ds d d',R ds d→R ds d'→d=d'
def sL (R:FT):Prop:=∀d ds v s v' s',R d ds v s→R d ds v' s'→v=v'∧s=s'
def JW {A:RT→Prop}(h:A fun ds d=>A fun ds' d'=>ds'=ds→d=d'):MA (xg A):=fun ds d d' h1 h2=>h2 _ (h1 _ h) rfl
def Hg {A:FT→Prop}(h:A fun d ds v s=>A fun d' ds' v' s'=>d'=d→ds'=ds→v=v'∧s=s'):sL (lA A):=fun d ds v s v' s' h1 h2=>h2 _ (h1 _ h) rfl rfl
noncomputable def uQ (t:List (Nat×ox)):Ctx where
 pre n ds:=∃d,(lk t n jQ).rel ds d
 val n ds:=pick ((lk t n jQ).rel ds)
 tr n:=(lk t n jQ).tr
 fp n d ds:=∃v s,(lk t n jQ).relF d ds v s
 fv n d ds:=pick fun v=>∃s,(lk t n jQ).relF d ds v s
 fs n d ds:=pick fun s=>∃v,(lk t n jQ).relF d ds v s
 lo:=0
def FW (t:List (Nat×ox)):JL:=⟨fun n=>(lk t n jQ).key,fun n=>(lk t n jQ).mu,fun n=>(lk t n jQ).muE⟩
noncomputable abbrev under (t:List (Nat×ox))(k u:Nat):Ctx:=(uQ t).under (FW t) k u
def aG (t:List (Nat×ox))(k u n:Nat):(((uQ t).under (FW t) k u).at n).aY:=
 fun f ds st K K' h hh=>⟨hh.1,(lk t f jQ).mono ds st K K' h hh.2⟩
section
variable {t:List (Nat×ox)} {n k u:Nat} {ds:List D} {d v s:D} {st:St} {K:D→St→Prop}
def cO (hD:MA (lk t n jQ).rel)(hk:(lk t n jQ).key<k∨(lk t n jQ).key=k∧(lk t n jQ).mu ds<u)(h:(lk t n jQ).rel ds d):(under t k u).pre n ds∧(under t k u).val n ds=d:=
 ⟨⟨hk,d,h⟩,hD _ _ _ (iZ ⟨d,h⟩) h⟩
def okf (hD:sL (lk t n jQ).relF)(hk:(lk t n jQ).key<k)(h:(lk t n jQ).relF d ds v s):(under t k u).fp n d ds∧(under t k u).fv n d ds=v∧(under t k u).fs n d ds=s:=by
 refine⟨⟨.inl hk,v,s,h⟩, ?_, ?_⟩
 ·obtain⟨s',h'⟩:=iZ (r:=fun v=>∃s,(lk t n jQ).relF d ds v s) ⟨v,s,h⟩;exact(hD _ _ _ _ _ _ h' h).1
 ·obtain⟨v',h'⟩:=iZ (r:=fun s=>∃v,(lk t n jQ).relF d ds v s) ⟨s,v,h⟩;exact(hD _ _ _ _ _ _ h' h).2
def tG (hk:(lk t n jQ).key<k∨(lk t n jQ).key=k∧(lk t n jQ).muE ds st<u)(h:(lk t n jQ).tr ds st K):(under t k u).tr n ds st K:=⟨hk,h⟩
end
section
variable [ct] {P:Program} {ν:List (Nat×Nat)} {bT:List Nat} {Γ:Ctx} {t:List (Nat×ox)} {fid n key:Nat}
def Bw (P:Program)(ν:List (Nat×Nat))(bT:List Nat)(Γ:Ctx)(fid:Nat)(ds:List D)(d:D):Prop:=Ok P ν bT Γ→∀(x:X)(args:Array Value),args.size=ds.length→(∀i,i<ds.length→RD ν x (args.getD i undef) (ds.getD i .any))→aU ds=true→
  (∀b,x.I b→b<x.w.heap.size)→ct.gd x→gG P x (fun v x'=>kj x x'∧RD ν x' v d) ((callFunc fid args).run P x.w)
def vk (P:Program)(ν:List (Nat×Nat))(bT:List Nat)(Γ:Ctx)(fid:Nat)(d:D)(ds:List D)(vd new:D):Prop:=Ok P ν bT Γ→∀(x:X)(f:Nat→Option bj)(args:Array Value)(l k:Nat),args.size=ds.length+1→
   RD ν x (args.getD 0 undef) (.ptr l k 0 0)→(∀i,i<ds.length→RD ν x (args.getD (i+1) undef) (ds.getD i .any))→dK ν x f→f l=some (.buf k [d])→d.aW=true→aU ds=true→
   gG P x (fun v x'=>Step x x'∧RD ν x' v vd∧dK ν x' (fun l'=>if l'=l then some (.buf k [new])else f l')∧x'.β=x.β) ((callFunc fid args).run P x.w)
def mY (P:Program)(ν:List (Nat×Nat))(bT:List Nat)(Γ:Ctx)(fid:Nat)(ds:List D)(st:St)(K:D→St→Prop):Prop:=Ok P ν bT Γ→∀(x:X)(args:Array Value),args.size=ds.length→(∀i,i<ds.length→RD ν x (args.getD i undef) (ds.getD i .any))→dK ν x (look st.m)→dI st x→
  gG P x (fun v x'=>∃d st',K d st'∧Step x x'∧RD ν x' v d∧dK ν x' (look st'.m)∧dI st' x') ((callFunc fid args).run P x.w)
structure KV (P:Program)(ν:List (Nat×Nat))(bT:List Nat)(t:List (Nat×ox))(fid n:Nat):Prop where
 p:∀ds d,(lk t n jQ).rel ds d→Bw P ν bT (under t (lk t n jQ).key ((lk t n jQ).mu ds)) fid ds d
 f:sL (lk t n jQ).relF∧∀d ds v s,(lk t n jQ).relF d ds v s→vk P ν bT (under t (lk t n jQ).key ((lk t n jQ).mu (d::ds))) fid d ds v s
 g:∀ds st K,(lk t n jQ).tr ds st K→mY P ν bT (under t (lk t n jQ).key ((lk t n jQ).muE ds st)) fid ds st K
def okA (hsm:∀fid n,du ν fid=some n→n<1000000)(hB:∀t,bT.contains (1000000000+t)=true→t=ct.tB)(h:∀fid n,du ν fid=some n→KV P ν bT t fid n):Ok P ν bT (uQ t):=by
 refine NY (FW t) hsm hB (fun fid n hn ds hp hok=>(h fid n hn).p ds _ (iZ hp) hok) (fun fid n hn _ d ds hp hok=>?_) (fun fid n hn ds st K htr hok=>(h fid n hn).g ds st K htr hok);obtain⟨v,s,hr⟩:=hp;obtain⟨hD,hf⟩:=(h fid n hn).f;have h2:(uQ t).fv n d ds=v∧(uQ t).fs n d ds=s:=by
  constructor
  ·obtain⟨s',h'⟩:=iZ (r:=fun v=>∃s,(lk t n jQ).relF d ds v s) ⟨v,s,hr⟩;exact(hD _ _ _ _ _ _ h' hr).1
  ·obtain⟨v',h'⟩:=iZ (r:=fun s=>∃v,(lk t n jQ).relF d ds v s) ⟨s,v,hr⟩;exact(hD _ _ _ _ _ _ h' hr).2
 rw[h2.1,h2.2];exact hf d ds v s hr hok
def B8 {Γ:D→List D→Ctx}:sL NX∧∀d ds v s,NX d ds v s→vk P ν bT (Γ d ds) fid d ds v s:=⟨fun _ _ _ _ _ _ h=>h.elim,fun _ _ _ _ h=>h.elim⟩
def bh {A:RT→Prop}{mu:List D→Nat}(hr:lk t n jQ=rP key A mu)(h:A fun ds d=>Bw P ν bT (under t key (mu ds)) fid ds d):KV P ν bT t fid n:=by
 refine⟨?_, ?_, ?_⟩<;>rw[hr]
 ·exact fun ds d hd=>hd (fun ds d=>Bw P ν bT (under t key (mu ds)) fid ds d) h
 ·exact B8
 ·exact fun _ _ _ h=>h.elim
def Ko {A:FT→Prop}(hr:lk t n jQ=rF key A)(hD:sL (lA A))(h:A fun d ds v s=>vk P ν bT (under t key 0) fid d ds v s):KV P ν bT t fid n:=by
 refine⟨?_, ?_, ?_⟩<;>rw[hr]
 ·exact fun _ _ h=>h.elim
 ·exact⟨hD,fun d ds v s hd=>hd _ h⟩
 ·exact fun _ _ _ h=>h.elim
def vG {Γ:List D→St→Ctx}:yb fun ds st K=>mY P ν bT (Γ ds st) fid ds st K:=fun ds st K K' h hg hok x args hl ha hs hf=>(hg hok x args hl ha hs hf).mono fun v x' ⟨d,st',h1,h2⟩=>⟨d,st',h _ _ h1,h2⟩
def mB {C:Ctx→Prop}{mu:List D→St→Nat}(hr:lk t n jQ=rG key C mu)(h:C (Gl fun ds st K=>mY P ν bT (under t key (mu ds st)) fid ds st K)):KV P ν bT t fid n:=by
 refine⟨?_, ?_, ?_⟩<;>rw[hr]
 ·exact fun _ _ h=>h.elim
 ·exact B8
 ·exact fun ds st K hd=>hd (fun ds st K=>mY P ν bT (under t key (mu ds st)) fid ds st K) vG h
def NZ {A:FT→Prop}{C:Ctx→Prop}(hr:lk t n jQ=rFG key A C)(hD:sL (lA A))(h:A fun d ds v s=>vk P ν bT (under t key 0) fid d ds v s)(h2:C (Gl fun ds st K=>mY P ν bT (under t key 0) fid ds st K)):KV P ν bT t fid n:=by
 refine⟨?_, ?_, ?_⟩<;>rw[hr]
 ·exact fun _ _ h=>h.elim
 ·exact⟨hD,fun d ds v s hd=>hd _ h⟩
 ·exact fun ds st K hd=>hd _ vG h2
def Eo (P:Program)(ν:List (Nat×Nat))(bT:List Nat)(fid:Nat)(af:az):Prop:=(P.funcs[fid]?).map (fun f=>(compile P ν bT f,f.name== "runtime.NumGoroutine"))=some (some af,false)
def Eo.split {af:az}(h:Eo P ν bT fid af):∃fn,P.funcs[fid]? =some fn∧compile P ν bT fn=some af∧(fn.name== "runtime.NumGoroutine")=false:=by
 unfold Eo at h;cases hf:P.funcs[fid]? with
 |none=>rw[hf]at h;cases h
 |some fn=>
  rw[hf]at h;have h2:=Option.some.inj h;exact⟨fn,rfl,congrArg Prod.fst h2,congrArg Prod.snd h2⟩
def aN {af:az}{ds:List D}{d:D}(hmix:P.follows .mixedOrders=true)(hC:Eo P ν bT fid af)(h1:ds.length=af.np)(h2:bq (Γ.at 0) af.body (JM af d) (ei af ds) ⟨0,[]⟩):Bw P ν bT Γ fid ds d:=by
 intro hok x args hl hargs hnl himm hgd;obtain⟨fn,hf,hc,hn⟩:=hC.split;obtain⟨body,c1,_⟩:=fO hc;exact .inr ⟨fid,args,fu hf hn (by rw[c1];rfl) args x.w,Hl hok hmix hf hc hl hargs hnl himm hgd h1 h2⟩
def yE {af:az}{d:D}{ds:List D}{vd new:D}(k0:Nat)(hmix:P.follows .mixedOrders=true)(hC:Eo P ν bT fid af)(h1:ds.length+1=af.np)(hk:d.cells.length=k0)
  (h2:bq (Γ.at 1) af.body (CH af k0 vd new) (ei af (.ptr 0 k0 0 0::ds)) ⟨1,[(0,.buf k0 [d])]⟩):vk P ν bT Γ fid d ds vd new:=by
 intro hok x f args l k hl h0 hargs hs hfl hd hnl;obtain⟨fn,hf,hc,hn⟩:=hC.split;obtain⟨body,c1,_⟩:=fO hc;have hkk:k=k0:=by
  generalize args.getD 0 undef=v0 at h0;cases h0 with
  |ptr _ _ _ _ b base tot at_ hβ hat=>
   obtain⟨p1,p2,c,T,fr,p3,p4,p5,p6⟩:=(hs.own l _ b base tot hfl hβ).2;have:=(p6 0 (by simp)).1;simp only[List.getD_cons_zero]at this;omega
 subst hkk;exact .inr ⟨fid,args,fu hf hn (by rw[c1];rfl) args x.w,Hj hok hmix hf hc hl h0 hargs hs hfl hd hnl h1 h2⟩
def Hn {k l:Nat}{d:D}{ds:List D}{vd new:D}{st:St}{K:D→St→Prop}(h:vk P ν bT Γ fid d ds vd new)(hl:look st.m l=some (.buf k [d]))(hd:d.aW=true)(hnl:aU ds=true)(hK:K vd ⟨st.nx,cw st.m l (.buf k [new])⟩):
  mY P ν bT Γ fid (.ptr l k 0 0::ds) st K:=by
 intro hok x args hl2 hargs hs hf;refine(h hok x (look st.m) args l k (by simpa using hl2) (hargs 0 (by simp)) (fun i hi=>hargs (i+1) (by simpa using hi)) hs hl hd hnl).mono ?_;rintro v x' ⟨h1,h2,h3,h4⟩;have e:(fun l'=>if l'=l then some (.buf k [new])else look st.m l')=look (cw st.m l (.buf k [new])):=by
  funext l';rw[bG]
 refine⟨vd,_,hK,h1,h2,e▸h3,fun l' hl'=>by rw[h4];exact hf.β l' hl',fun l' hl'=>?_⟩;rw[bG]at hl';split at hl'
 ·rename_i e;subst e;exact hf.m _ (by rw[hl];simp)
 ·exact hf.m _ hl'
def yF {af:az}{ds:List D}{st:St}{K:D→St→Prop}{σi:List (Nat×Nat)}{q:Nat}{m0:List (Nat×bj)}{cs:List D}{Q:D→List (Nat×bj)→Prop}(hmono:∀q,(Γ.at q).aY)(hmix:P.follows .mixedOrders=true)(hC:Eo P ν bT fid af)
  (h1:cs.length=ds.length) (h2:∀i,i<ds.length→Gz 0 σi (ds.getD i .any) (cs.getD i .any)) (h3:cs.length=af.np)
  (h4:fN 0 q σi=true) (h5:∀l i,(l,i)∈σi→look st.m l≠none) (h6:∀i b,look m0 i=some b→∃l b',(l,i)∈σi∧look st.m l=some b'∧oI 0 σi b' b)
  (h7:bq (Γ.at q) af.body (kQ af Q) (ei af cs) ⟨q,m0⟩) (h8:∀d m1,Q d m1→∃(σo:List (Nat×Nat)) (q1:Nat) (st':St) (vd':D),Fr σi σo q q1 m0 m1 st st'∧Gz 0 σo d vd'∧K vd' st'):mY P ν bT Γ fid ds st K:=by
 intro hok x args hl hargs hs hfr;obtain⟨fn,hf,hc,hn⟩:=hC.split;obtain⟨body,c1,_⟩:=fO hc;refine .inr ⟨fid,args,fu hf hn (by rw[c1];rfl) args x.w, ?_⟩;refine Calls.mono (Hk (K:=K) hok hmix hf hc hl hargs hs hfr h1 h2 h3 h4 h5 h6 (eA (hmono q) _ _ _ _ _ (fun e env st1 h=>?_) h7)) fun e w' he=>?_
 ·obtain⟨g1,g2,m1,g3,g4⟩:=h;obtain⟨σo,q1,st',vd',k1,k2,k3⟩:=h8 _ _ g4;exact⟨g1,g2,σo,q1,m1,st',vd',k1,k2,k3,g3⟩
 ·match e,he with
  | .returned v,he=>
   obtain⟨x',d,st',g0,g1,g2,g3,g4,g5⟩:=he;exact⟨x',g1,d,st',g0,g2,g3,g4,g5⟩
end
end Go.Abs
end
section
namespace Go.Abs
structure bN where
 name:ah
 range:ah
 feats:List ah
 bare:Bool
 deriving Inhabited,DecidableEq
def bN.D (x:bN):D:=.agg [.str x.name,.str x.range,.sl 1 (x.feats.map D.str),.bool x.bare]
structure bF where
 any:List bN
 when':ah
 option:ah
 deriving Inhabited,DecidableEq
def bF.D (x:bF):D:=.agg [.sl 4 (x.any.map bN.D),.str x.when',.str x.option]
structure iJ where
 name:ah
 range:ah
 when':ah
 deriving Inhabited,DecidableEq
def iJ.D (x:iJ):D:=.agg [.str x.name,.str x.range,.str x.when']
structure bz where
 name:ah
 of:List ah
 deriving Inhabited,DecidableEq
def bz.D (x:bz):D:=.agg [.str x.name,.sl 1 (x.of.map D.str)]
structure Rec where
 name:ah
 v:dc
 needs:List bF
 bars:List iJ
 feats:List bz
 deriving Inhabited,DecidableEq
def Rec.D (x:Rec):D:=.agg [.str x.name,.int .i64 x.v.major,.int .i64 x.v.minor,.int .i64 x.v.patch,.str x.v.pre,.str x.v.build,.sl 3 (x.needs.map bF.D),.sl 3 (x.bars.map iJ.D),.sl 2 (x.feats.map bz.D)]
structure b9 where
 op:Int
 parts:Int
 v:dc
 deriving Inhabited,DecidableEq
def b9.D (x:b9):D:=.agg [.int .i64 x.op,.int .i64 x.parts,.int .i64 x.v.major,.int .i64 x.v.minor,.int .i64 x.v.patch,.str x.v.pre,.str x.v.build]
structure Nd where
 op:Int
 a:Int
 b:Int
 key:Int
 text:ah
 deriving Inhabited,DecidableEq
def Nd.D (x:Nd):D:=.agg [.int .i64 x.op,.int .i64 x.a,.int .i64 x.b,.int .i64 x.key,.str x.text]
def iJ.eq (a b:iJ):gw (iJ.D a).cells (iJ.D b).cells=decide (a=b):=by
 obtain⟨a1,a2,a3⟩:=a;obtain⟨b1,b2,b3⟩:=b;simp only[iJ.D,D.cells,gw,pU,iJ.mk.injEq,Bool.and_true];simp only[Bool.decide_and]
def bN.same {a b:bN}(e1:a.name=b.name)(e2:a.range=b.range)(e3:a.bare=b.bare):decide (a=b)=decide (a.feats=b.feats):=by
 obtain⟨a1,a2,a3,a4⟩:=a;obtain⟨b1,b2,b3,b4⟩:=b;simp only at e1 e2 e3;subst e1;subst e2;subst e3;simp
def rising (l:List ah):Bool:=bJ (fun i=>Op.bytesLess l[i-1]! l[i]!) 1 l.length
def b6 (s:ah):Int×ah×ah:=
 if bI s=true then(1,s,[])
 else if s.length>0∧at8 s 0=63∧bI (s.drop 1)=true then(2,s.drop 1,[])
 else if(aj s 47).length=2∧ey (aj s 47)[0]! =true∧bI (aj s 47)[1]! =true then(3,(aj s 47)[0]!,(aj s 47)[1]!)
 else(0,[],[])
def findF (l:List bz)(nm:ah)(i:Nat):Int:=match(l.drop i).findIdx? (fun x=>decide (x.name=nm))with
 |some k=>((i+k:Nat):Int)
 |none=>-1
def yy {l:List bz}{nm:ah}{i:Nat}(h:i<l.length)(he:l[i]!.name=nm):findF l nm i=(i:Nat):=by
 unfold findF;rw[List.drop_eq_getElem_cons h,List.findIdx?_cons];have:l[i].name=nm:=by simpa[h]using he
 simp[this]
def yz {l:List bz}{nm:ah}{i:Nat}(h:i<l.length)(he:¬l[i]!.name=nm):findF l nm i=findF l nm (i+1):=by
 unfold findF;have:¬l[i].name=nm:=by simpa[h]using he
 rw[List.drop_eq_getElem_cons h,List.findIdx?_cons];simp only[this,decide_false,Bool.false_eq_true,if_false];cases(l.drop (i+1)).findIdx? (fun x=>decide (x.name=nm))with
 |none=>rfl
 |some k=>simp only[Option.map_some];congr 1;omega
def vD {l:List bz}{nm:ah}{i:Nat}(h:l.length≤i):findF l nm i=-1:=by
 unfold findF;rw[List.drop_eq_nil_of_le h];rfl
def NM:ah:=[100,101,102,97,117,108,116]
def J3 (l:List bz)(nm:ah):Bool:=decide (nm=NM) ||decide (0≤findF l nm 0)
def iS (l:List bz)(s:ah):Bool:=!(decide ((b6 s).1=0) ||(decide ((b6 s).1=1)&& !J3 l (b6 s).2.1))
def iT (l:List bz)(of:List ah):Bool:=decide (of.length≤6)&&rising of&&bJ (fun i=>iS l of[i]!) 0 of.length
def gJ (l:List bz)(i:Nat):Bool:=bI l[i]!.name&& !(decide (0<i)&& !Op.bytesLess l[i-1]!.name l[i]!.name)&&iT l l[i]!.of
def eI (l:List bz):Bool:=decide (l.length≤8)&&bJ (gJ l) 0 l.length
def bz.sm (x:bz):Prop:=x.name.length≤1048576∧x.of.length≤1048576∧∀t∈x.of,t.length≤1048576
def mj (l:List bz):Prop:=∀x∈l,x.sm
def oa (b:ah):∀(l:List ah)(i:Nat),(aO b (l.take i)).length≤(aO b l).length
 |[],i=>by simp
 |[t],0=>by simp[aO]
 |[t],i+1=>by simp
 |t::u::r,0=>by simp[aO]
 |t::u::r,1=>by simp[aO]
 |t::u::r,i+2=>by
  have:=oa b (u::r) (i+1);simp only[List.take_succ_cons,aO,List.length_append]at this⊢;omega
def pc (b t:ah):∀(l:List ah),l≠[]→aO b (l++[t])=aO b l++b++t
 |[],h=>absurd rfl h
 |[u],_=>by simp[aO]
 |u::v::r,_=>by
  have:=pc b t (v::r) (by simp);simp only[List.cons_append,aO]at this⊢;rw[this];simp
def mq (b:ah)(l:List ah)(i:Nat)(h:i<l.length):aO b (l.take (i+1))=(if 0<i then aO b (l.take i)++b else [])++l[i]! :=by
 have e:l.take (i+1)=l.take i++[l[i]!]:=by
  rw[List.take_add_one,List.getElem?_eq_getElem h];simp[h]
 rw[e];by_cases h0:0<i
 ·rw[if_pos h0,pc _ _ _ (by intro hn;have:=congrArg List.length hn;simp only[List.length_take,List.length_nil]at this;omega)]
 ·obtain rfl:i=0:=by omega
  simp[aO]
end Go.Abs
namespace Go.Abs
def BP {s:ah}(h0:bI s=true):b6 s=(1,s,[]):=by simp only[b6,if_pos h0]
def BR {s:ah}(h0:bI s=false)(h:(0<(s.length:Int)∧at8 s 0=63)∧bI (s.drop 1)=true):b6 s=(2,s.drop 1,[]):=by
 simp only[b6,h0,Bool.false_eq_true,if_false];rw[if_pos ⟨by omega,h.1.2,h.2⟩]
def yH {s:ah}(h:(¬0<(s.length:Int)∨¬at8 s 0=63)∨bI (s.drop 1)=false):¬(s.length>0∧at8 s 0=63∧bI (s.drop 1)=true):=by
 rintro⟨h1,h2,h3⟩;rcases h with(h|h)|h
 ·omega
 ·exact h h2
 ·rw[h3]at h;cases h
def BS {s:ah}(h0:bI s=false)(h:(¬0<(s.length:Int)∨¬at8 s 0=63)∨bI (s.drop 1)=false)(h2:(((aj s 47).length:Int)=2∧ey (aj s 47)[0]! =true)∧bI (aj s 47)[1]! =true):b6 s=((3:Int),(aj s 47)[0]!,(aj s 47)[1]!):=by
 simp only[b6,h0,Bool.false_eq_true,if_false];rw[if_neg (yH h),if_pos ⟨by omega,h2.1.2,h2.2⟩]
def BO {s:ah}(h0:bI s=false)(h:(¬0<(s.length:Int)∨¬at8 s 0=63)∨bI (s.drop 1)=false)(h2:(¬((aj s 47).length:Int)=2∨ey (aj s 47)[0]! =false)∨bI (aj s 47)[1]! =false):b6 s=(0,[],[]):=by
 simp only[b6,h0,Bool.false_eq_true,if_false];rw[if_neg (yH h),if_neg];rintro⟨g1,g2,g3⟩;rcases h2 with(h2|h2)|h2
 ·omega
 ·rw[g2]at h2;cases h2
 ·rw[g3]at h2;cases h2
end Go.Abs
end
namespace Go.Abs
def wN (s:ah)(i:Nat)(h:i<s.length):at8 s i=((s[i]'h).toNat:Int):=by simp[at8,h]
def yi (p:Int→Bool)(s:ah):bJ (fun i=>p (at8 s i)) 0 s.length=true↔∀c∈s,p c.toNat=true:=by
 rw[dy];constructor
 ·intro h c hc;obtain⟨i,hi,rfl⟩:=List.getElem_of_mem hc;have:=h i (by omega) hi
  rwa [wN s i hi]at this
 ·intro h j _ hj;rw[wN s j hj];exact h _ (List.getElem_mem hj)
def nO {b:Int}:∀{s cur:ah},(∀c∈s,(c.toNat:Int)≠b)→bD b s cur=[cur++s]
 |[],cur,_=>by simp[bD]
 |c::r,cur,h=>by
  simp only[bD];rw[if_neg (h c (.head _)),nO (fun d hd=>h d (.tail _ hd))];simp
def uq {b:Int}{x:UInt8}(hx:(x.toNat:Int)=b)(r:ah):∀{w cur:ah},(∀c∈w,(c.toNat:Int)≠b)→bD b (w++x::r) cur=(cur++w)::bD b r []
 |[],cur,_=>by simp[bD,hx]
 |c::w,cur,h=>by
  simp only[List.cons_append,bD];rw[if_neg (h c (.head _)),uq hx r (fun d hd=>h d (.tail _ hd))];simp
def rM {b:Int}{x:UInt8}(hx:(x.toNat:Int)=b):∀{ws:List ah},ws≠[]→(∀w∈ws,∀c∈w,(c.toNat:Int)≠b)→aj (aO [x] ws) b=ws
 |[],h,_=>absurd rfl h
 |[w],_,h=>by
  show bD b w []=[w];rw[nO (h w (.head _))];rfl
 |w::u::r,_,h=>by
  have ih:=rM (ws:=u::r) hx (by simp) (fun v hv=>h v (.tail _ hv));show bD b (w++[x]++aO [x] (u::r)) []=_;rw[List.append_assoc,List.singleton_append,uq hx _ (h w (.head _))];rw[show bD b (aO [x] (u::r)) []=u::r from ih];rfl
def nD {b:Int}{x:UInt8}(hx:(x.toNat:Int)=b):∀(s cur:ah),aO [x] (bD b s cur)=cur++s
 |[],cur=>by simp[bD,aO]
 |c::r,cur=>by
  simp only[bD];split
  ·rename_i h;rw[fB _ _ _ (by intro h;have:=eM b r [];rw[h]at this;simp at this),nD hx r []];have:c=x:=UInt8.toNat_inj.1 (by omega);simp[this]
  ·rw[nD hx r];simp
def kY {b:Int}{x:UInt8}(hx:(x.toNat:Int)=b)(s:ah):aO [x] (aj s b)=s:=by
 unfold aj;rw[nD hx];rfl
def yu {n:Nat}(h:n<10):aX (dg n).toNat=true:=by
 have:=EM h;simp only[aX,Bool.and_eq_true,decide_eq_true_eq];omega
def yt {Q:Nat→Prop}(h1:∀n,n<10→Q n)(h2:∀n,9<n→Q (n/10)→Q n)(n:Nat):Q n:=by
 induction n using Nat.strongRecOn with
 |ind n ih=>
  by_cases h:n<10
  ·exact h1 n h
  ·exact h2 n (by omega) (ih _ (by omega))
def nn (n:Nat):∀c∈cP n,aX c.toNat=true:=by
 refine yt (Q:=fun n=>∀c∈cP n,aX c.toNat=true) (fun n h c hc=>?_) (fun n h ih c hc=>?_) n
 ·rw[n5 h]at hc;obtain rfl:=List.mem_singleton.1 hc;exact yu h
 ·rw[n4 h]at hc;rcases List.mem_append.1 hc with hc|hc
  ·exact ih c hc
  ·obtain rfl:=List.mem_singleton.1 hc;exact yu (by omega)
def He (n:Nat):cP n≠[]:=by
 refine yt (Q:=fun n=>cP n≠[]) (fun n h=>?_) (fun n h ih=>?_) n
 ·rw[n5 h];simp
 ·rw[n4 h];simp
def oc (x:UInt8):∀(ws:List ah)(c:UInt8),c∈aO [x] ws→c=x∨∃w∈ws,c∈w
 |[],c,h=>by simp[aO]at h
 |[w],c,h=>.inr ⟨w,.head _,h⟩
 |w::u::r,c,h=>by
  rw[fB _ _ _ (by simp)]at h;simp only[List.mem_append,List.mem_singleton]at h;rcases h with(h|h)|h
  ·exact .inr ⟨w,.head _,h⟩
  ·exact .inl h
  ·rcases oc x (u::r) c h with h|⟨v,hv,hc⟩
   ·exact .inl h
   ·exact .inr ⟨v,.tail _ hv,hc⟩
def Gg {s:ah}{p:Bool}(h:nP s p=true){c:UInt8}(hc:c∈s):kf c.toNat=true∨c=46:=by
 simp only[nP,Bool.or_eq_true,decide_eq_true_eq,jS,Bool.and_eq_true,dy]at h;rcases h with rfl|⟨_,h⟩
 ·cases hc
 ·rw[←kY (b:=46) (x:=46) rfl s]at hc;rcases oc 46 _ c hc with rfl|⟨w,hw,hcw⟩
  ·exact .inr rfl
  ·left;obtain⟨i,hi,rfl⟩:=List.getElem_of_mem hw;have:=h i (by omega) hi;rw[show(aj s 46)[i]! =(aj s 46)[i]by simp[hi]]at this;simp only[eV,mU,Bool.and_eq_true]at this;exact(yi kf _).1 this.1.2 c hcw
def EN {c:UInt8}(h:aX c.toNat=true):c.toNat≠46∧c.toNat≠45∧c.toNat≠43∧c.toNat≠32∧c.toNat≠10:=by
 simp only[aX,Bool.and_eq_true,decide_eq_true_eq]at h;omega
def hv (c:UInt8):Nat:=if aX c.toNat=true then c.toNat-48 else c.toNat-87
def rV (s:ah):Nat:=s.foldl (fun n c=>n*16+hv c) 0
def Ic {s:ah}(h:bI s=true){c:UInt8}(hc:c∈s):uB c.toNat=true:=by
 simp only[bI,Bool.and_eq_true]at h;exact(yi uB s).1 h.2 c hc
def qn.wf (x:qn):Prop:=0≤x.sum∧x.sum<18446744073709551616
def xY.wf (l:xY):Prop:=∀x∈l.lines,x.wf
end Go.Abs
section
namespace Go.Abs
def rN {b:Int}{x:UInt8}(hx:(x.toNat:Int)=b):∀(s cur:ah),bD b s cur=match s.findIdx? (fun c=>c==x)with
  |some k=>(cur++s.take k)::bD b (s.drop (k+1)) []
  |none=>[cur++s]
 |[],cur=>by simp[bD]
 |c::r,cur=>by
  simp only[bD,List.findIdx?_cons];by_cases h:c=x
  ·subst h;rw[if_pos hx];simp
  ·have h1:¬(c.toNat:Int)=b:=fun e=>h (UInt8.toNat_inj.1 (by omega))
   have h2:(c==x)=false:=by simpa using h
   rw[if_neg h1,h2,rN hx r (cur++[c])];cases r.findIdx? (fun c=>c==x)with
   |none=>simp
   |some k=>simp
def wq (s:ah)(x:UInt8):aj s x.toNat=if(eD s x).2.2=true then(eD s x).1::aj (eD s x).2.1 x.toNat else [s]:=by
 unfold aj eD;rw[rN (x:=x) rfl];cases s.findIdx? (fun c=>c==x)with
 |none=>simp
 |some k=>simp
def we {s:ah}:(((eD s 47).2.2=true∧ey (eD s 47).1=true)∧bI (eD s 47).2.1=true)↔(((aj s 47).length:Int)=2∧ey (aj s 47)[0]! =true)∧bI (aj s 47)[1]! =true:=by
 have h:=wq s 47;rw[show(((47:UInt8).toNat:Nat):Int)=47 from rfl]at h;by_cases hc:(eD s 47).2.2=true
 ·rw[if_pos hc]at h;rw[h];have hj:=kY (b:=47) (x:=47) rfl (eD s 47).2.1;constructor
  ·rintro⟨⟨_,h1⟩,h2⟩;have h3:aj (eD s 47).2.1 47=[(eD s 47).2.1]:=by
    show bD 47 _ []=_;rw[nO (fun c hc=>?_)]
    ·rfl
    ·have:=Ic h2 hc;simp only[uB,fC,aX,Bool.or_eq_true,Bool.and_eq_true,decide_eq_true_eq]at this;omega
   rw[h3];exact⟨⟨rfl,h1⟩,h2⟩
  ·rintro⟨⟨h1,h2⟩,h3⟩;refine⟨⟨hc,h2⟩, ?_⟩;generalize aj (eD s 47).2.1 47=q at hj h1 h3
   match q,h1 with
   |[y],_=>
    have:y=(eD s 47).2.1:=hj;rw[←this];exact h3
   |[],h1=>simp at h1
   |_::_::_,h1=>simp at h1;omega
 ·rw[if_neg hc]at h;rw[h];constructor
  ·rintro⟨⟨h1,_⟩,_⟩;exact absurd h1 hc
  ·rintro⟨⟨h1,_⟩,_⟩;simp at h1
def yQ {s:ah}:(dq s [63]).2=true↔0<(s.length:Int)∧at8 s 0=63:=by
 match s with
 |[]=>simp[dq,List.isPrefixOf]
 |c::r=>
  have e:((c.toNat:Int)=63)↔c=63:=⟨fun h=>UInt8.toNat_inj.1 (by have:(63:UInt8).toNat=63:=rfl;omega),fun h=>by subst h;rfl⟩;simp only[dq,List.isPrefixOf,Bool.and_true,at8,List.getD_cons_zero,List.length_cons];by_cases h:c=63
  ·subst h;simp
  ·have:¬(c.toNat:Int)=63:=fun h2=>h (e.1 h2)
   have h3:((63:UInt8)==c)=false:=by simpa using fun h2=>h h2.symm
   simp[h3,this]
def vM {s:ah}(h:(dq s [63]).2=true):(dq s [63]).1=s.drop 1:=by
 unfold dq at h⊢;split at h
 ·rename_i hp;rw[if_pos hp];rfl
 ·cases h
def Hy {s:ah}(h0:bI s=false)(h:(dq s [63]).2=true∧bI (dq s [63]).1=true):b6 s=(2,(dq s [63]).1,[]):=by
 rw[vM h.1]at h⊢;exact BR h0 ⟨yQ.1 h.1,h.2⟩
def BT {s:ah}(h:(dq s [63]).2=false∨bI (dq s [63]).1=false):(¬0<(s.length:Int)∨¬at8 s 0=63)∨bI (s.drop 1)=false:=by
 by_cases hp:(dq s [63]).2=true
 ·rw[vM hp]at h;rcases h with h|h
  ·rw[hp]at h;cases h
  ·exact .inr h
 ·have:=fun h2=>hp (yQ.2 h2)
  by_cases h1:0<(s.length:Int)
  ·exact .inl (.inr fun h2=>this ⟨h1,h2⟩)
  ·exact .inl (.inl h1)
def Hz {s:ah}(h0:bI s=false)(h:(dq s [63]).2=false∨bI (dq s [63]).1=false)(h2:((eD s 47).2.2=true∧ey (eD s 47).1=true)∧bI (eD s 47).2.1=true):b6 s=((3:Int),(eD s 47).1,(eD s 47).2.1):=by
 have h3:=we.1 h2;rw[BS h0 (BT h) h3];have hs:=wq s 47;rw[show(((47:UInt8).toNat:Nat):Int)=47 from rfl,if_pos h2.1.1]at hs;have hj:=kY (b:=47) (x:=47) rfl (eD s 47).2.1;have hl:=h3.1.1;rw[hs]at hl⊢;generalize aj (eD s 47).2.1 47=q at hj hl
 match q,hl with
 |[y],_=>
  have:y=(eD s 47).2.1:=hj;rw[←this];rfl
 |[],h1=>simp at h1
 |_::_::_,h1=>simp at h1;omega
def Hx {s:ah}(h0:bI s=false)(h:(dq s [63]).2=false∨bI (dq s [63]).1=false)(h2:((eD s 47).2.2=false∨ey (eD s 47).1=false)∨bI (eD s 47).2.1=false):b6 s=(0,[],[]):=by
 refine BO h0 (BT h) ?_;have hn:¬((((aj s 47).length:Int)=2∧ey (aj s 47)[0]! =true)∧bI (aj s 47)[1]! =true):=fun h3=>by
  obtain⟨⟨g1,g2⟩,g3⟩:=we.2 h3;rcases h2 with(h2|h2)|h2
  ·rw[g1]at h2;cases h2
  ·rw[g2]at h2;cases h2
  ·rw[g3]at h2;cases h2
 by_cases k1:((aj s 47).length:Int)=2
 ·by_cases k2:ey (aj s 47)[0]! =true
  ·right;cases k3:bI (aj s 47)[1]! with
   |false=>rfl
   |true=>exact absurd ⟨⟨k1,k2⟩,k3⟩ hn
  ·exact .inl (.inr (by simpa using k2))
 ·exact .inl (.inl k1)
end Go.Abs
namespace Go.Abs
def C3 {l:List bz}{i:Nat}(h:(!bI l[i]!.name ||(decide ((0:Int)<(i:Int))&& !Op.bytesLess l[i-1]!.name l[i]!.name) ||decide ((6:Int)<(l[i]!.of.length:Int)) ||!rising l[i]!.of)=false):
  gJ l i=bJ (fun j=>iS l l[i]!.of[j]!) 0 l[i]!.of.length:=by
 simp only[Bool.or_eq_false_iff,Bool.not_eq_false',decide_eq_false_iff_not]at h;obtain⟨⟨⟨h1,h2⟩,h3⟩,h4⟩:=h;have e:(decide (0<i)&& !Op.bytesLess l[i-1]!.name l[i]!.name)=false:=by
  rw[show decide (0<i)=decide ((0:Int)<(i:Int))from decide_eq_decide.2 (by omega)];exact h2
 simp only[gJ,iT,h1,e,h4];rw[decide_eq_true (by omega)];rfl
def C2 {l:List bz}{i:Nat}(h:(!bI l[i]!.name ||(decide ((0:Int)<(i:Int))&& !Op.bytesLess l[i-1]!.name l[i]!.name) ||decide ((6:Int)<(l[i]!.of.length:Int)) ||!rising l[i]!.of)=true):
  gJ l i=false:=by
 have e:decide ((0:Int)<(i:Int))=decide (0<i):=decide_eq_decide.2 (by omega);have e6:decide ((6:Int)<(l[i]!.of.length:Int))=!decide (l[i]!.of.length≤6):=by
  by_cases h6:l[i]!.of.length≤6
  ·rw[decide_eq_true h6,decide_eq_false (by omega)];rfl
  ·rw[decide_eq_false h6,decide_eq_true (by omega)];rfl
 rw[e,e6]at h;simp only[gJ,iT];revert h;generalize bI l[i]!.name=a;generalize (decide (0<i)&& !Op.bytesLess l[i-1]!.name l[i]!.name)=b;generalize decide (l[i]!.of.length≤6)=c;generalize rising l[i]!.of=d;cases a<;>cases b<;>cases c<;>cases d<;>simp
end Go.Abs
end
section
namespace Go.Abs
def cj (op:Int):ah:=if op=1 then [61]else if op=2 then [33,61]else if op=3 then [60]else if op=4 then [60,61]else if op=5 then [62]else if op=6 then [62,61]else if op=7 then [94]else if op=8 then [126]else []
def qV (op:Int):(cj op).length≤2:=by
 unfold cj;repeat' split
 all_goals decide
def mM (s w:ah):Bool:=decide (w.length≤s.length)&&decide (s.take w.length=w)
def mN (c:b9):Bool:=(decide (0<c.parts) ||decide (c.v.major=0))&&(decide (1<c.parts) ||decide (c.v.minor=0))&&(decide (2<c.parts) ||decide (c.v.patch=0))
def iO (c:b9):Bool:=decide (1≤c.op)&&decide (c.op≤9)&&iD c.v&&decide (c.v.build=[])&&decide ((if c.op=9 then 0 else 1)≤c.parts)&&decide (c.parts≤if c.op=9 then 2 else 3)&&(decide (3≤c.parts) ||decide (c.v.pre=[]))&&mN c
def b9.sm (c:b9):Prop:=c.v.sm
def yp {c:b9}(h:(decide (c.op<1) ||decide (9<c.op) ||!iD c.v ||!decide (c.v.build=[]))=true):iO c=false:=by
 unfold iO;rw[show decide (c.op<1)=!decide (1≤c.op)by rw[←decide_not];exact decide_eq_decide.2 (by omega),show decide (9<c.op)=!decide (c.op≤9)by rw[←decide_not];exact decide_eq_decide.2 (by omega)]at h;revert h;generalize decide (1≤c.op)=a1;generalize decide (c.op≤9)=a2;generalize iD c.v=a3;generalize decide (c.v.build=[])=a4;cases a1<;>cases a2<;>cases a3<;>cases a4<;>simp
def vx {c:b9}(h:(decide (c.op<1) ||decide (9<c.op) ||!iD c.v ||!decide (c.v.build=[]))=false):1≤c.op∧c.op≤9∧iD c.v=true∧c.v.build=[]:=by
 simp only[Bool.or_eq_false_iff,decide_eq_false_iff_not,Bool.not_eq_false',decide_eq_true_eq]at h;exact⟨by omega,by omega,h.1.2,h.2⟩
end Go.Abs
namespace Go.Abs
def nX {c:b9}(hy:1≤c.op∧c.op≤9∧iD c.v=true∧c.v.build=[]){lo hi:Int}(hlo:(if c.op=9 then 0 else 1)=lo)(hhi:(if c.op=9 then 2 else 3)=hi):
  iO c=(!(decide (c.parts<lo) ||decide (hi<c.parts) ||(decide (c.parts<3)&& !decide (c.v.pre=[])))&&mN c):=by
 obtain⟨h1,h2,h3,h4⟩:=hy;unfold iO;rw[decide_eq_true h1,decide_eq_true h2,h3,decide_eq_true h4,hlo,hhi];rw[show decide (c.parts<lo)=!decide (lo≤c.parts)by rw[←decide_not];exact decide_eq_decide.2 (by omega),show decide (hi<c.parts)=!decide (c.parts≤hi)by rw[←decide_not];exact decide_eq_decide.2 (by omega),show decide (c.parts<3)=!decide (3≤c.parts)by rw[←decide_not];exact decide_eq_decide.2 (by omega)];generalize decide (lo≤c.parts)=a1;generalize decide (c.parts≤hi)=a2;generalize decide (3≤c.parts)=a3;generalize decide (c.v.pre=[])=a4;cases a1<;>cases a2<;>cases a3<;>cases a4<;>simp
end Go.Abs
namespace Go.Abs
def b9.js (c:b9):List Int:=[c.v.major,c.v.minor,c.v.patch]
def dT (c:b9):Nat→ah
 |0=>[]
 |i+1=>dT c i++(if 0<i then [46]else [])++cP (c.js[i]!).toNat
def iM (c:b9):ah:=if c.op=9 then(if 0<c.parts then [46]else [])++[42]else if c.v.pre=[]then []else 45::c.v.pre
def jm (c:b9):ah:=cj c.op++dT c c.parts.toNat++iM c
def cD (c:b9):ah:=if iO c=true then jm c else []
def nF {c:b9}(h:iD c.v=true)(i:Nat):0≤c.js[i]! ∧c.js[i]! ≤9999:=by
 simp only[iD,ko,Bool.and_eq_true,decide_eq_true_eq]at h
 match i with
 |0=>exact h.1.1.1.1
 |1=>exact h.1.1.1.2
 |2=>exact h.1.1.2
 |k+3=>exact(by simp[b9.js]:0≤c.js[k+3]! ∧c.js[k+3]! ≤9999)
def om {c:b9}(h:iD c.v=true):∀i,(dT c i).length≤5*i
 |0=>by simp[dT]
 |i+1=>by
  have:=om h i;have hn:=nF h i;have:=dr 4 (c.js[i]!).toNat (by omega) (by omega);simp only[dT,List.length_append];split
  ·simp only[List.length_singleton];omega
  ·simp only[List.length_nil];omega
def lL {c:b9}(h:iO c=true):iD c.v=true∧0≤c.parts∧c.parts≤3∧1≤c.op∧c.op≤9:=by
 simp only[iO,Bool.and_eq_true,decide_eq_true_eq]at h;obtain⟨⟨⟨⟨⟨⟨⟨h1,h2⟩,h3⟩,h4⟩,h5⟩,h6⟩,h7⟩,h8⟩:=h;refine⟨h3, ?_, ?_,h1,h2⟩
 ·split at h5<;>omega
 ·split at h6<;>omega
end Go.Abs
namespace Go.Abs
def jx (c:b9):List ah:=(c.js.map fun n=>cP n.toNat).take c.parts.toNat
def vU (c:b9):∀i,i≤3→aO [46] ((c.js.map fun n=>cP n.toNat).take i)=dT c i
 |0,_=>by simp[aO,dT]
 |i+1,h=>by
  have hl:i<(c.js.map fun n=>cP n.toNat).length:=by simp[b9.js];omega
  have hl2:i<c.js.length:=by show i<3;omega
  rw[mq _ _ _ hl,vU c i (by omega)];simp only[dT];have e:(c.js.map fun n=>cP n.toNat)[i]! =cP (c.js[i]!).toNat:=by simp[hl2]
  rw[e];split
  ·simp
  ·obtain rfl:i=0:=by omega
   simp[dT]
def zI {c:b9}(h:c.parts≤3):(jx c).length=c.parts.toNat:=by
 simp[jx,b9.js];omega
def wA {c:b9}(h:c.parts≤3):aO [46] (jx c)=dT c c.parts.toNat:=vU c _ (by omega)
def ra {c:b9}(h0:0≤c.parts)(h:c.parts≤3):aO [46] (jx c++[[42]])=dT c c.parts.toNat++((if 0<c.parts then [46]else [])++[42]):=by
 by_cases hp:0<c.parts
 ·rw[pc _ _ _ (by intro hn;have:=congrArg List.length hn;rw[zI h]at this;simp only[List.length_nil]at this;omega),wA h,if_pos hp];simp
 ·have:c.parts.toNat=0:=by omega
  rw[if_neg hp,this];have e:jx c=[]:=by simp[jx,this]
  rw[e];rfl
end Go.Abs
namespace Go.Abs
def opsL:List Int:=[2,4,6,1,3,5,7,8]
def mA (s:ah)(i:Nat):Option Int:=(opsL.drop i).find? fun o=>mM s (cj o)
def dQ (s:ah):Int×ah:=match mA s 0 with
 |some o=>(o,s.drop (cj o).length)
 |none=>if 0<s.length∧at8 s (s.length-1)=42 then(9,s)else(7,s)
def Ca {s:ah}{i:Nat}(h:i<8)(hb:mM s (cj opsL[i]!)=true):mA s i=some opsL[i]! :=by
 have hl:i<opsL.length:=h;unfold mA;rw[List.drop_eq_getElem_cons hl,List.find?_cons];rw[show opsL[i]! =opsL[i]by simp[hl]]at hb⊢;rw[hb]
def Cb {s:ah}{i:Nat}(h:i<8)(hb:mM s (cj opsL[i]!)=false):mA s i=mA s (i+1):=by
 have hl:i<opsL.length:=h;unfold mA;rw[List.drop_eq_getElem_cons hl,List.find?_cons];rw[show opsL[i]! =opsL[i]by simp[hl]]at hb;rw[hb]
def tI {s:ah}{i:Nat}(h:8≤i):mA s i=none:=by
 unfold mA;rw[List.drop_eq_nil_of_le h];rfl
def eE (s:ah)(i:Nat):ah×ah:=match(s.drop i).findIdx? (fun c=>c==45)with
 |some k=>(s.take (i+k),s.drop (i+k+1))
 |none=>(s,[])
def Cd {s:ah}{i:Nat}(h:i<s.length)(he:at8 s i=45):eE s i=(s.take i,s.drop (i+1)):=by
 unfold eE;rw[jg s i h,List.findIdx?_cons];have:s.getD i 0=45:=UInt8.toNat_inj.1 (by simp only[at8]at he;show(s.getD i 0).toNat=45;omega);rw[this];rfl
def Ce {s:ah}{i:Nat}(h:i<s.length)(he:¬at8 s i=45):eE s i=eE s (i+1):=by
 unfold eE;rw[jg s i h,List.findIdx?_cons];have:(s.getD i 0==45)=false:=by
  rw[beq_eq_false_iff_ne];intro e;exact he (by simp only[at8,e];rfl)
 rw[this];simp only[Bool.false_eq_true,if_false];cases(s.drop (i+1)).findIdx? (fun c=>c==45)with
 |none=>rfl
 |some k=>simp only[Option.map_some];rw[show i+(k+1)=i+1+k by omega]
def y7 {s:ah}{i:Nat}(h:s.length≤i):eE s i=(s,[]):=by
 unfold eE;rw[List.drop_eq_nil_of_le h];rfl
end Go.Abs
namespace Go.Abs
def dp (l:List ah):Bool:=decide (l.length≤3)&&bJ (fun i=>ea l[i]!) 0 l.length
def Fk (l:List ah):dc:=⟨if 0<l.length then dm l[0]! else 0,if 1<l.length then dm l[1]! else 0,if 2<l.length then dm l[2]! else 0,[],[]⟩
def se (l:List ah):dc:=if dp l=true then Fk l else iE
end Go.Abs
namespace Go.Abs
def cL:b9:=⟨0,0,iE⟩
def v7 (op:Int)(l:List ah):List ah:=if op=9 then l.take (l.length-1)else l
def dS (op:Int)(l:List ah)(pre:ah):b9:=⟨op,(l.length:Nat),{Fk l with pre:=pre}⟩
def rE (s:ah)(op:Int)(l:List ah)(pre:ah):Bool:=dp l&& !(decide (cD (dS op l pre)=[]) ||(!decide (cD (dS op l pre)=s)&& !decide (cD (dS op l pre)=94::s)))
def cR (s:ah):Option b9:=
 let o:=dQ s
 let p:=eE o.2 0
 let l:=v7 o.1 (aj p.1 46)
 if rE s o.1 l p.2=true then some (dS o.1 l p.2)else none
def uj (s:ah):(dQ s).2.length≤s.length:=by
 unfold dQ;split
 ·simp
 ·split<;>exact Nat.le_refl _
def tP (s:ah):(eE s 0).1.length≤s.length∧(eE s 0).2.length≤s.length:=by
 unfold eE;split<;>simp<;>omega
end Go.Abs
namespace Go.Abs
def cu (s:ah):Int×ah:=match mA s 0 with
 |some o=>(o,s.drop (cj o).length)
 |none=>(9,s)
def dk (s:ah):ah×ah:=eE (cu s).2 0
def cY (s:ah):List ah:=v7 (cu s).1 (aj (dk s).1 46)
def kI (s:ah):Prop:=(cu s).1=9→(aj (dk s).1 46)[(aj (dk s).1 46).length-1]! =[42]
instance (s:ah):Decidable (kI s):=by unfold kI;exact inferInstance
def dd (s:ah):b9:=dS (cu s).1 (cY s) (dk s).2
def eg (s:ah):Option b9:=if kI s∧dp (cY s)=true∧iO (dd s)=true∧cD (dd s)=s then some (dd s)else none
def B9 (l:List ah)(i:Nat):dc:=⟨if 0<i then dm l[0]! else 0,if 1<i then dm l[1]! else 0,if 2<i then dm l[2]! else 0,[],[]⟩
def Dx (s:ah):(cu s).2.length≤s.length:=by
 unfold cu;split<;>simp
def iv {s:ah}(h:¬(kI s∧dp (cY s)=true∧iO (dd s)=true∧cD (dd s)=s)):eg s=none:=by
 unfold eg;rw[if_neg h]
end Go.Abs
namespace Go.Abs
def iK (s:ah):Option b9:=if(eg s).isSome=true then eg s else eg (94::s)
def zH (c:b9):bj:=.buf 1 [.str (cP c.v.major.toNat),.str (cP c.v.minor.toNat),.str (cP c.v.patch.toNat)]
def uu (c:b9):[D.str (cP c.v.major.toNat),D.str (cP c.v.minor.toNat),D.str (cP c.v.patch.toNat)].take c.parts.toNat=(jx c).map D.str:=by
 unfold jx b9.js;rw[List.map_take];rfl
def H9 {c:b9}{m:List (Nat×bj)}{l:Nat}(hl:look m l=some (zH c)):xV m [.sl 1 [.a]] (.own l 1 0 c.parts.toNat)=.sl 1 ((jx c).map D.str):=by
 show D.sl 1 _=_;simp only[aM,hl,zH,List.drop_zero,uu,List.map_map];congr 1
def Gk {c:b9}{m:List (Nat×bj)}{l:Nat}(h:c.parts≤3)(hl:look m l=some (zH c)):GK m [.sl 1 [.a]] (.own l 1 0 c.parts.toNat):=by
 simp only[GK,IW,IV];refine⟨by simp[dJ,hl,zH];omega, ?_⟩;simp only[aM,hl,zH,List.drop_zero,uu];intro e he;obtain⟨x,_,rfl⟩:=List.mem_map.1 he;trivial
end Go.Abs
end
namespace Go.Abs
def nY {c:b9}(h:cD c≠[]):iO c=true∧cD c=jm c:=by
 unfold cD at h⊢;split at h
 ·rename_i hb;exact⟨hb,if_pos hb⟩
 ·exact absurd rfl h
def xm {s:ah}{op:Int}{l:List ah}{pre:ah}:rE s op l pre=true↔dp l=true∧cD (dS op l pre)≠[]∧(cD (dS op l pre)=s∨cD (dS op l pre)=94::s):=by
 simp only[rE,Bool.and_eq_true,Bool.not_eq_true',Bool.or_eq_false_iff,decide_eq_false_iff_not,Bool.and_eq_false_iff,Bool.not_eq_false',decide_eq_true_eq]
def qM (c:UInt8):Prop:=c≠33∧c≠60∧c≠61∧c≠62∧c≠94∧c≠126
def nr {c:UInt8}(h:aX c.toNat=true):qM c∧c≠42:=by
 simp only[aX,Bool.and_eq_true,decide_eq_true_eq]at h;refine⟨⟨?_, ?_, ?_, ?_, ?_, ?_⟩, ?_⟩<;>rintro rfl<;>revert h<;>decide
def yW {k:b9}:∀(i:Nat)(c:UInt8),c∈dT k i→aX c.toNat=true∨c=46
 |0,c,h=>by simp[dT]at h
 |i+1,c,h=>by
  simp only[dT,List.mem_append]at h;rcases h with(h|h)|h
  ·exact yW i c h
  ·split at h
   ·exact .inr (List.mem_singleton.1 h)
   ·cases h
  ·exact .inl (nn _ c h)
def tF (k:b9):∀i,0<i→∃c r,dT k i=c::r∧aX c.toNat=true
 |0,h=>by omega
 |1,_=>by
  have hd:=nn (k.js[0]!).toNat;have hn:=He (k.js[0]!).toNat;simp only[dT,Nat.lt_irrefl,if_false,List.nil_append];generalize cP (k.js[0]!).toNat=w at hd hn
  match w,hn with
  |c::r,_=>exact⟨c,r,rfl,hd c (.head _)⟩
 |i+2,_=>by
  obtain⟨c,r,h1,h2⟩:=tF k (i+1) (by omega);refine⟨c,r++(if 0<i+1 then [46]else [])++cP (k.js[i+1]!).toNat, ?_,h2⟩;show dT k (i+1)++_++_=_;rw[h1];simp
def CV {c:b9}(h:iO c=true)(h9:c.op≠9):0<c.parts.toNat:=by
 simp only[iO,Bool.and_eq_true,decide_eq_true_eq]at h;have:=h.1.1.1.2;rw[if_neg h9]at this;omega
def Dq {s:ah}{o:Int}(h:mA s 0=some o):1≤o∧o≤8∧∃x t,s=x::t∧¬qM x∧(x=94→o=7):=by
 have hm:=List.mem_of_find?_eq_some h;have hb:=List.find?_some h;simp only[mM,Bool.and_eq_true,decide_eq_true_eq]at hb;obtain⟨h1,h2⟩:=hb;have hne:s≠[]∨cj o=[]:=by
  by_cases e:s=[]
  ·right;subst e;simpa using h1
  ·exact .inl e
 simp only[opsL,List.drop_zero,List.mem_cons,List.not_mem_nil,or_false]at hm;have key:∀w:ah,w≠[]→s.take w.length=w→∃x t t',s=x::t∧w=x::t':=by
  intro w hw hs
  match w,hw with
  |x::t',_=>
   match s with
   |[]=>simp at hs
   |y::t=>
    simp only[List.length_cons,List.take_succ_cons,List.cons.injEq]at hs;exact⟨x,t,t',by rw[hs.1],rfl⟩
 rcases hm with rfl|rfl|rfl|rfl|rfl|rfl|rfl|rfl
 all_goals
  refine⟨by omega,by omega, ?_⟩;obtain⟨x,t,t',e1,e2⟩:=key _ (by decide) h2;have hxx:=congrArg (fun w:ah=>w.headD 0) e2;simp only[List.headD_cons]at hxx;refine⟨x,t,e1, ?_, ?_⟩
  ·rw[←hxx];unfold qM;decide
  ·rw[←hxx];decide
def tH (t:ah):mA (94::t) 0=some 7:=by
 unfold mA opsL;have hn:∀w:ah,w≠[]→w.headD 0≠94→mM (94::t) w=false:=by
  intro w hw hx
  match w,hw with
  |x::r,_=>
   unfold mM;rw[Bool.and_eq_false_iff];right;rw[decide_eq_false_iff_not];intro h;simp only[List.length_cons,List.take_succ_cons,List.cons.injEq]at h;exact hx h.1.symm
 have hy:mM (94::t) (cj 7)=true:=by
  unfold mM;rw[show cj 7=[94]by decide];simp
 simp only[List.drop_zero,List.find?_cons,hn _ (show cj 2≠[]by decide) (by decide),hn _ (show cj 4≠[]by decide) (by decide),hn _ (show cj 6≠[]by decide) (by decide),hn _ (show cj 1≠[]by decide) (by decide),
  hn _ (show cj 3≠[]by decide) (by decide),hn _ (show cj 5≠[]by decide) (by decide),hy]
def y9 (t:ah):cu (94::t)=(7,t):=by
 simp only[cu,tH];rw[show cj 7=[94]by decide];rfl
def um (b:Int):∀(s cur:ah),∃r l,bD b s cur=(cur++r)::l
 |[],cur=>⟨[],[],by simp[bD]⟩
 |c::s,cur=>by
  simp only[bD];split
  ·exact⟨[],_,by rw[List.append_nil]⟩
  ·obtain⟨r,l,h⟩:=um b s (cur++[c]);exact⟨c::r,l,by rw[h];simp⟩
def DS {x:UInt8}{t:ah}(h:¬qM x):dp (aj (eE (x::t) 0).1 46)=false:=by
 have hx:x≠45∧x≠46∧aX x.toNat=false:=by
  refine⟨?_, ?_, ?_⟩
  ·rintro rfl;exact h (by unfold qM;decide)
  ·rintro rfl;exact h (by unfold qM;decide)
  ·cases hd:aX x.toNat with
   |false=>rfl
   |true=>exact absurd (nr hd).1 h
 have hp:∃r,(eE (x::t) 0).1=x::r:=by
  unfold eE;rw[List.drop_zero,List.findIdx?_cons];rw[if_neg (by simpa using hx.1)];cases t.findIdx? (fun c=>c==45)with
  |none=>exact⟨t,rfl⟩
  |some k=>exact⟨t.take k,by simp⟩
 obtain⟨r,hr⟩:=hp;rw[hr];have h46:¬((x.toNat:Int)=46):=fun e=>hx.2.1 (UInt8.toNat_inj.1 (by show x.toNat=46;omega))
 obtain⟨q,l,hs⟩:=um 46 r [x];have e:aj (x::r) 46=(x::q)::l:=by
  unfold aj;simp only[bD];rw[if_neg h46];simpa using hs
 rw[e];unfold dp;rw[Bool.and_eq_false_iff];right;rw[aD (by simp)];have hn:ea ((x::q)::l)[0]! =false:=by
  show ea (x::q)=false;rw[AO];rw[aD (by simp)];have:aX (at8 (x::q) 0)=false:=by simpa[at8]using hx.2.2
  rw[this];simp
 rw[hn];rfl
def IK {s:ah}(h:dQ s=cu s):cR s=if rE s (cu s).1 (cY s) (dk s).2=true then some (dd s)else none:=by
 unfold cR;simp only[h];rfl
def ua {s:ah}:eg s=if kI s∧dp (cY s)=true∧iO (dd s)=true∧cD (dd s)=s then some (dd s)else none:=rfl
def Dv {s:ah}(h:∀c∈s,c≠45):eE s 0=(s,[]):=by
 unfold eE;rw[List.drop_zero,List.findIdx?_eq_none_iff.2 (fun c hc=>by simpa using h c hc)]
def wv {k:b9}(hb:iO k=true)(h9:k.op=9):jm k=aO [46] (jx k++[[42]]):=by
 obtain⟨_,h0,h3,_,_⟩:=lL hb;rw[ra h0 h3];unfold jm iM;rw[if_pos h9,h9];rfl
def nR {k:b9}{w:ah}(h:w∈jx k++[[42]]){c:UInt8}(hc:c∈w):aX c.toNat=true∨c=42:=by
 rcases List.mem_append.1 h with h|h
 ·have:=List.mem_of_mem_take h;obtain⟨n,_,rfl⟩:=List.mem_map.1 this;exact .inl (nn _ c hc)
 ·obtain rfl:=List.mem_singleton.1 h;exact .inr (List.mem_singleton.1 hc)
def wu {k:b9}{s:ah}(hb:iO k=true)(h9:k.op=9)(hs:jm k=s):(0<s.length∧at8 s (s.length-1)=42)∧eE s 0=(s,[])∧aj s 46=jx k++[[42]]:=by
 have ht:=wv hb h9;obtain⟨_,h0,h3,_,_⟩:=lL hb;rw[hs]at ht;have hch:∀c∈s,aX c.toNat=true∨c=42∨c=46:=by
  intro c hc;rw[ht]at hc;rcases oc 46 _ c hc with h|⟨w,hw,hcw⟩
  ·exact .inr (.inr h)
  ·rcases nR hw hcw with h|h
   ·exact .inl h
   ·exact .inr (.inl h)
 refine⟨?_,Dv (fun c hc=>?_), ?_⟩
 ·have he:∃q,s=q++[42]:=by
   rw[ht,ra h0 h3];exact⟨dT k k.parts.toNat++(if 0<k.parts then [46]else []),by rw[List.append_assoc]⟩
  obtain⟨q,rfl⟩:=he;simp[at8]
 ·rintro rfl;rcases hch 45 hc with h|h|h
  ·revert h;decide
  ·revert h;decide
  ·revert h;decide
 ·rw[ht];refine rM (b:=46) (x:=46) rfl (by simp) fun w hw c hc=>?_
  rcases nR hw hc with h|h
  ·have:=(EN h).1;omega
  ·rw[h];decide
def sW {k:b9}{s:ah}(hb:iO k=true)(h7:k.op=7)(hs:jm k=94::s):(∀c∈s,c≠42)∧∃c r,s=c::r∧aX c.toNat=true:=by
 have hp:=CV hb (by omega);have e:s=dT k k.parts.toNat++iM k:=by
  unfold jm at hs;rw[h7,show cj 7=[94]by decide]at hs;simpa using hs.symm
 obtain⟨c,r,h1,h2⟩:=tF k _ hp;refine⟨fun c hc=>?_,c,r++iM k,by rw[e,h1];rfl,h2⟩;rw[e]at hc;rcases List.mem_append.1 hc with hc|hc
 ·rcases yW _ c hc with h|h
  ·exact(nr h).2
  ·rw[h];decide
 ·unfold iM at hc;rw[if_neg (by omega)]at hc;split at hc
  ·cases hc
  ·rcases List.mem_cons.1 hc with rfl|hc
   ·decide
   ·have hv:=(lL hb).1;simp only[iD,Bool.and_eq_true]at hv;rcases Gg hv.1.2 hc with h|h
    ·rintro rfl;revert h;decide
    ·rw[h];decide
def sF {s:ah}:rE s (cu s).1 (cY s) (dk s).2=true↔dp (cY s)=true∧cD (dd s)≠[]∧(cD (dd s)=s∨cD (dd s)=94::s):=xm
def EH (s:ah):iK s=cR s:=by
 have hcar:cu (94::s)=(7,s):=y9 s;have hL7:cY (94::s)=aj (eE s 0).1 46:=by
  unfold cY dk;rw[hcar];rfl
 have hK7:dd (94::s)=dS 7 (aj (eE s 0).1 46) (eE s 0).2:=by
  unfold dd;rw[hL7];unfold dk;rw[hcar]
 cases ho:mA s 0 with
 |some o=>
  obtain⟨o1,o8,x,t,hs,hx,hx94⟩:=Dq ho;have hrw:cu s=(o,s.drop (cj o).length):=by simp only[cu,ho]
  have hsp:dQ s=cu s:=by rw[hrw];simp only[dQ,ho]
  have hstar:kI s:=by
   intro h;rw[hrw]at h;simp only at h;omega
  have hcn:eg (94::s)=none:=iv fun h=>by
   have:=h.2.1;rw[hL7,hs,DS hx]at this;cases this
  have hop:(dd s).op=o:=by show(cu s).1=o;rw[hrw]
  rw[IK hsp];by_cases hk:dp (cY s)=true∧cD (dd s)=s
  ·have hne:cD (dd s)≠[]:=by rw[hk.2,hs];simp
   have hb:=(nY hne).1;have hr:eg s=some (dd s):=by rw[ua,if_pos ⟨hstar,hk.1,hb,hk.2⟩]
   have hok:rE s (cu s).1 (cY s) (dk s).2=true:=sF.2 ⟨hk.1,hne,.inl hk.2⟩;rw[if_pos hok];unfold iK;rw[hr];rfl
  ·have hr:eg s=none:=iv fun h=>hk ⟨h.2.1,h.2.2.2⟩
   have hok:¬rE s (cu s).1 (cY s) (dk s).2=true:=fun h=>by
    obtain⟨h1,h2,h3⟩:=sF.1 h;rcases h3 with h3|h3
    ·exact hk ⟨h1,h3⟩
    ·obtain⟨hb,he⟩:=nY h2;have h3':jm (dd s)=94::s:=by rw[←he];exact h3
     have h7:o=7:=by
      have hh:∃y w,cj o=y::w∧(y=94→o=7):=by
       have:o=1∨o=2∨o=3∨o=4∨o=5∨o=6∨o=7∨o=8:=by omega
       rcases this with rfl|rfl|rfl|rfl|rfl|rfl|rfl|rfl
       ·exact⟨61,[],by decide,by decide⟩
       ·exact⟨33,[61],by decide,by decide⟩
       ·exact⟨60,[],by decide,by decide⟩
       ·exact⟨60,[61],by decide,by decide⟩
       ·exact⟨62,[],by decide,by decide⟩
       ·exact⟨62,[61],by decide,by decide⟩
       ·exact⟨94,[],by decide,by decide⟩
       ·exact⟨126,[],by decide,by decide⟩
      obtain⟨y,w,e1,e2⟩:=hh;unfold jm at h3';rw[hop,e1]at h3';simp only[List.cons_append,List.cons.injEq]at h3';exact e2 h3'.1
     obtain⟨_,c,r,e1,e2⟩:=sW hb (by rw[hop];exact h7) h3';rw[hs]at e1;simp only[List.cons.injEq]at e1;rw[←e1.1]at e2;exact hx (nr e2).1
   rw[if_neg hok];unfold iK;rw[hr,if_neg (by simp),hcn]
 |none=>
  have hrw:cu s=(9,s):=by simp only[cu,ho]
  have h94:∀t,s≠94::t:=by
   rintro t rfl;rw[tH]at ho;cases ho
  have hop:(dd s).op=9:=by show(cu s).1=9;rw[hrw]
  have hst7:kI (94::s):=by
   intro h;rw[hcar]at h;simp only at h;omega
  by_cases hl:0<s.length∧at8 s (s.length-1)=42
  ·have hsp:dQ s=cu s:=by rw[hrw];simp only[dQ,ho,if_pos hl]
   have hcn:eg (94::s)=none:=iv fun h=>by
    obtain⟨_,h2,h3,h4⟩:=h;have he:=(nY (c:=dd (94::s)) (by rw[h4];simp)).2;rw[h4]at he;have hno:=(sW h3 (by rw[hK7];rfl) he.symm).1;have hmem:s[s.length-1]'(by omega)∈s:=List.getElem_mem _;refine hno _ hmem (UInt8.toNat_inj.1 ?_);have:=hl.2;rw[wN s _ (by omega)]at this;show _=42;omega
   rw[IK hsp];by_cases hk:dp (cY s)=true∧cD (dd s)=s
   ·have hne:cD (dd s)≠[]:=by
     rw[hk.2];intro h;rw[h]at hl;simp at hl
    obtain⟨hb,he⟩:=nY hne;obtain⟨_,g2,g3⟩:=wu (s:=s) hb hop (he.symm.trans hk.2);have hstar:kI s:=by
     intro _;have hP:dk s=(s,[]):=by unfold dk;rw[hrw];exact g2
     rw[hP];simp only;rw[g3];simp
    have hr:eg s=some (dd s):=by rw[ua,if_pos ⟨hstar,hk.1,hb,hk.2⟩]
    have hok:rE s (cu s).1 (cY s) (dk s).2=true:=sF.2 ⟨hk.1,hne,.inl hk.2⟩;rw[if_pos hok];unfold iK;rw[hr];rfl
   ·have hr:eg s=none:=iv fun h=>hk ⟨h.2.1,h.2.2.2⟩
    have hok:¬rE s (cu s).1 (cY s) (dk s).2=true:=fun h=>by
     obtain⟨h1,h2,h3⟩:=sF.1 h;rcases h3 with h3|h3
     ·exact hk ⟨h1,h3⟩
     ·obtain⟨hb,he⟩:=nY h2;have h3':jm (dd s)=94::s:=by rw[←he];exact h3
      have ht:=wv hb hop;rw[h3']at ht;have hm:(94:UInt8)∈aO [46] (jx (dd s)++[[42]]):=by rw[←ht];simp
      rcases oc 46 _ _ hm with h|⟨w,hw,hcw⟩
      ·revert h;decide
      ·rcases nR hw hcw with h|h
       ·revert h;decide
       ·revert h;decide
    rw[if_neg hok];unfold iK;rw[hr,if_neg (by simp),hcn]
  ·have hsp:dQ s=(7,s):=by simp only[dQ,ho,if_neg hl]
   have hr:eg s=none:=iv fun h=>by
    obtain⟨h1,h2,h3,h4⟩:=h;have he:jm (dd s)=s:=(if_pos h3:cD (dd s)=jm (dd s)).symm.trans h4;exact hl (wu h3 hop he).1
   have h6:cR s=if rE s 7 (aj (eE s 0).1 46) (eE s 0).2=true then some (dd (94::s))else none:=by
    unfold cR;simp only[hsp];rw[hK7];rfl
   have hRC:iK s=eg (94::s):=by
    unfold iK;rw[hr];rfl
   rw[hRC,h6,ua];by_cases hok:rE s 7 (aj (eE s 0).1 46) (eE s 0).2=true
   ·rw[if_pos hok];obtain⟨h1,h2,h3⟩:=xm.1 hok;obtain⟨hb,he⟩:=nY h2;rcases h3 with h3|h3
    ·exfalso;rw[he]at h3;have hh:∃w,jm (dS 7 (aj (eE s 0).1 46) (eE s 0).2)=94::w:=by
      unfold jm;exact⟨_,rfl⟩
     obtain⟨w,hw⟩:=hh;exact h94 w (by rw[←h3,hw])
    ·rw[if_pos ⟨hst7,by rw[hL7];exact h1,by rw[hK7];exact hb,by rw[hK7];exact h3⟩]
   ·rw[if_neg hok,if_neg];rintro⟨_,g2,g3,g4⟩;rw[hK7]at g3 g4;rw[hL7]at g2;exact hok (xm.2 ⟨g2,by rw[g4];simp,.inr g4⟩)
abbrev Alt:=List b9
abbrev oJ:=List Alt
def na (a:Alt):D:=.sl 7 (a.map b9.D)
def Ae (a:Alt):(na a).aW=true:=rfl
def kV (l k:Nat)(es:List D)(r:List Alt):kO l k es (r.map na)=r.map na:=tk l k es _ (bX Ae _)
def c9 (r:oJ):D:=.agg [.sl 1 (r.map na)]
def hY (a:Alt):Bool:=decide (1≤a.length)&&decide (a.length≤6)&&bJ (fun k=>iO a[k]!) 0 a.length
def fQ (r:oJ):Bool:=decide (1≤r.length)&&decide (r.length≤6)&&bJ (fun i=>hY r[i]!) 0 r.length
def fX (a:Alt):ah:=aO [44,32] (a.map cD)
def ug (r:oJ):ah:=aO [32,124,124,32] (r.map fX)
def b9.lo (c:b9):Prop:=c.v.pre.length≤1000∧c.v.build.length≤1000
def b9.lo.sm {c:b9}(h:c.lo):c.v.sm:=⟨Nat.le_trans h.1 (by decide),Nat.le_trans h.2 (by decide)⟩
def fh (r:oJ):Prop:=∀a∈r,∀c∈a,c.lo
def oE (b:ah)(l:List ah)(i:Nat):ah:=if 0<i then aO b (l.take i)++b else []
def qF (b:ah)(l:List ah)(i:Nat)(h:i<l.length):aO b (l.take (i+1))=oE b l i++l[i]! :=mq b l i h
def FB (b:ah)(l:List ah){i:Nat}(h:¬0<i):aO b (l.take i)=oE b l i:=by
 obtain rfl:i=0:=by omega
 simp[oE,aO]
def sX {c:b9}(h:c.lo):(cD c).length≤1100:=by
 unfold cD;split
 ·rename_i hb;obtain⟨hv,h0,h3,_⟩:=lL hb;have h1:=qV c.op;have h2:=om hv c.parts.toNat;have ht:(iM c).length≤1001:=by
   unfold iM;have:=h.1;split
   ·split<;>simp
   ·split
    ·simp
    ·simp only[List.length_cons];omega
  simp only[jm,List.length_append];omega
 ·simp
def nB (b:ah)(M:Nat):∀(l:List ah),(∀t∈l,t.length≤M)→(aO b l).length≤l.length*(M+b.length)
 |[],_=>by simp[aO]
 |[t],h=>by
  have:=h t (.head _);simp only[aO,List.length_singleton,Nat.one_mul];omega
 |t::u::r,h=>by
  have h1:=h t (.head _);have h2:=nB b M (u::r) fun x hx=>h x (.tail _ hx)
  simp only[aO,List.length_append];simp only[List.length_cons,Nat.add_mul,Nat.one_mul]at h2⊢;omega
def xh {α β:Type} [Inhabited α] [Inhabited β](f:α→β)(l:List α){i:Nat}(h:i<l.length):(l.map f)[i]! =f l[i]! :=by
 simp[h]
def sN {a:Alt}(h:∀c∈a,c.lo)(hl:a.length≤6):(fX a).length≤6612:=by
 have:=nB [44,32] 1100 (a.map cD) (fun t ht=>by
  obtain⟨c,hc,rfl⟩:=List.mem_map.1 ht;exact sX (h c hc))
 simp only[List.length_map]at this;have h2:a.length*(1100+([44,32]:ah).length)≤6*1102:=Nat.mul_le_mul hl (by decide);unfold fX;omega
def tc {r:oJ}(h:fQ r=true){i:Nat}(hi:i<r.length):hY r[i]! =true:=by
 simp only[fQ,Bool.and_eq_true,decide_eq_true_eq]at h;exact dy.1 h.2 i (by omega) hi
def qp {a:Alt}(h:hY a=true):1≤a.length∧a.length≤6:=by
 simp only[hY,Bool.and_eq_true,decide_eq_true_eq]at h;exact h.1
def F9 {r:oJ}(h:fQ r=true)(hs:fh r):(ug r).length≤40000:=by
 have h6:r.length≤6:=by simp only[fQ,Bool.and_eq_true,decide_eq_true_eq]at h;exact h.1.2
 have:=nB [32,124,124,32] 6612 (r.map fX) (fun t ht=>by
  obtain⟨a,ha,rfl⟩:=List.mem_map.1 ht;obtain⟨i,hi,rfl⟩:=List.mem_iff_getElem.1 ha;have h1:=tc h hi;rw[show r[i]! =r[i]by simp[hi]]at h1;exact sN (hs _ ha) (qp h1).2)
 simp only[List.length_map]at this;have h2:r.length*(6612+([32,124,124,32]:ah).length)≤6*6616:=Nat.mul_le_mul h6 (by decide);unfold ug;omega
def eX {α β:Type} [Inhabited α](f:α→β)(l:List α){i:Nat}(h:i<l.length):(l.map f).take (i+1)=(l.map f).take i++[f l[i]!]:=by
 rw[List.take_add_one];simp[h]
def mQ (r:oJ):Bool:=fQ r&&decide ((ug r).length≤96)
def nN (r:oJ):ah:=if mQ r=true then ug r else []
def aw:ah→ah→List ah
 |[],cur=>[cur]
 |[c],cur=>[cur++[c]]
 |c::d::r,cur=>if c=124∧d=124 then cur::aw r []else aw (d::r) (cur++[c])
def ib:ah→ah
 |[]=>[]
 |c::r=>if c=32 then ib r else c::r
def cQ (s:ah):ah:=(ib (ib s).reverse).reverse
def lH:∀s,(ib s).length≤s.length
 |[]=>Nat.le_refl _
 |c::r=>by
  unfold ib;split
  ·have:=lH r;simp only[List.length_cons];omega
  ·exact Nat.le_refl _
def qt (s:ah):(cQ s).length≤s.length:=by
 have h1:=lH s;have h2:=lH (ib s).reverse;simp only[List.length_reverse]at h2;simp only[cQ,List.length_reverse];omega
def kH:∀(s cur:ah),(aw s cur).length≤s.length+1∧(∀t∈aw s cur,t.length≤cur.length+s.length)
 |[],cur=>by simp[aw]
 |[c],cur=>by simp[aw]
 |c::d::r,cur=>by
  unfold aw;split
  ·have:=kH r [];refine⟨by simp only[List.length_cons];omega,fun t ht=>?_⟩;rcases List.mem_cons.1 ht with rfl|ht
   ·simp
   ·have:=this.2 t ht;simp only[List.length_nil,List.length_cons]at this⊢;omega
  ·have:=kH (d::r) (cur++[c]);refine⟨by have:=this.1;simp only[List.length_cons]at this⊢;omega,fun t ht=>?_⟩;have:=this.2 t ht;simp only[List.length_append,List.length_cons,List.length_nil]at this⊢;omega
def OJ (t:ah):Bool:=bJ (fun k=>(cR (cQ (aj t 44)[k]!)).isSome) 0 (aj t 44).length
def uf (s:ah):Bool:=bJ (fun i=>OJ (aw s [])[i]!) 0 (aw s []).length
def jE (t:ah):Alt:=(aj t 44).map fun x=>(cR (cQ x)).getD cL
def eU (s:ah):oJ:=(aw s []).map jE
def dV (s:ah):oJ×Int:=
 if 96<s.length then([],3)else if uf s=false then([],6)else if fQ (eU s)=false then([],6)else if 96<(ug (eU s)).length then([],3)else(eU s,0)
def mC (s:ah):Bool:=decide ((dV s).2=0)&&decide (nN (dV s).1=s)
def EG {s:ah}(h:s.length≤1000):((cR s).getD cL).lo:=by
 unfold cR;simp only;split
 ·have h1:=uj s;have h2:=tP (dQ s).2;exact⟨by show(eE (dQ s).2 0).2.length≤1000;omega,by show([]:ah).length≤1000;decide⟩
 ·exact⟨by show([]:ah).length≤1000;decide,by show([]:ah).length≤1000;decide⟩
def xI {s:ah}(h:s.length≤1000):fh (eU s):=by
 intro a ha c hc;obtain⟨t,ht,rfl⟩:=List.mem_map.1 ha;obtain⟨x,hx,rfl⟩:=List.mem_map.1 hc;have h1:=(kH s []).2 t ht;have h2:=dE t 44 hx;have h3:=qt x;simp only[List.length_nil]at h1;exact EG (by omega)
def Co {s:ah}:fh (dV s).1∧((dV s).2=0→fQ (dV s).1=true):=by
 unfold dV;split
 ·exact⟨(fun a ha=>by cases ha),fun h=>by cases h⟩
 ·split
  ·exact⟨(fun a ha=>by cases ha),fun h=>by cases h⟩
  ·split
   ·exact⟨(fun a ha=>by cases ha),fun h=>by cases h⟩
   ·rename_i hf;split
    ·exact⟨(fun a ha=>by cases ha),fun h=>by cases h⟩
    ·exact⟨xI (by omega),fun _=>by simpa using hf⟩
def Bl {s:ah}{i:Nat}(cur:ah)(h:i+1<s.length)(h1:at8 s i=124)(h2:at8 s (i+1)=124):aw (s.drop i) cur=cur::aw (s.drop (i+2)) []:=by
 rw[jg s i (by omega),jg s (i+1) h];have e1:s.getD i 0=124:=UInt8.toNat_inj.1 (by simp only[at8]at h1;show(s.getD i 0).toNat=124;omega);have e2:s.getD (i+1) 0=124:=UInt8.toNat_inj.1 (by simp only[at8]at h2;show(s.getD (i+1) 0).toNat=124;omega);rw[e1,e2];simp only[aw,and_self,if_true]
def zC {s:ah}{i:Nat}(cur:ah)(h:i+1<s.length)(hn:¬(at8 s i=124∧at8 s (i+1)=124)):aw (s.drop i) cur=aw (s.drop (i+1)) (cur++[s.getD i 0]):=by
 rw[jg s i (by omega),jg s (i+1) h];simp only[aw];rw[if_neg];rintro⟨e1,e2⟩;exact hn ⟨by simp only[at8,e1];rfl,by simp only[at8,e2];rfl⟩
def Bk {s:ah}{i:Nat}(cur:ah)(h:s.length≤i+1):aw (s.drop i) cur=[cur++s.drop i]:=by
 have hl:(s.drop i).length≤1:=by rw[List.length_drop];omega
 match s.drop i,hl with
 |[],_=>simp[aw]
 |[c],_=>simp[aw]
def EK {s:ah}{i fr:Nat}(h:i<s.length)(hf:fr≤i):(s.take i).drop fr++[s.getD i 0]=(s.take (i+1)).drop fr:=by
 rw[List.take_add_one,List.drop_append_of_le_length (by rw[List.length_take];omega)];simp[h]
def oK (s:ah)(i fr:Nat)(acc:List ah):Prop:=aw s []=acc++aw (s.drop (max i fr)) ((s.take (max i fr)).drop fr)
def CM {s:ah}{i fr:Nat}{acc:List ah}(hI:oK s i fr acc)(h:i+1<s.length)(hc:(at8 s i=124∧at8 s (i+1)=124)∧(fr:Int)≤i):oK s (i+1) (i+2) (acc++[(s.take i).drop fr]):=by
 unfold oK at hI⊢;rw[hI,Nat.max_eq_left (by omega),Bl _ h hc.1.1 hc.1.2,Nat.max_eq_right (by omega),show(s.take (i+2)).drop (i+2)=[]from List.drop_eq_nil_of_le (by rw[List.length_take];omega)];simp
def Ev {s:ah}{i fr:Nat}{acc:List ah}(hI:oK s i fr acc)(h:i+1<s.length)(hf:fr≤i+1)(hc:(¬at8 s i=124∨¬at8 s (i+1)=124)∨¬(fr:Int)≤i):oK s (i+1) fr acc:=by
 unfold oK at hI⊢;by_cases hl:fr≤i
 ·rw[hI,Nat.max_eq_left hl,zC _ h (by rcases hc with(hc|hc)|hc;exact fun h=>hc h.1;exact fun h=>hc h.2;omega),Nat.max_eq_left (by omega),EK (by omega) hl]
 ·rw[hI,Nat.max_eq_right (by omega),Nat.max_eq_right (by omega)]
def CL {s:ah}{i fr:Nat}{acc:List ah}(hI:oK s i fr acc)(h:s.length≤i+1)(hl:fr≤s.length):aw s []=acc++[s.drop fr]:=by
 unfold oK at hI;rw[hI,Bk _ (by have:=Nat.le_max_left i fr;omega)];congr 2
 conv=>rhs;rw[←List.take_append_drop (max i fr) s]
 by_cases hm:max i fr≤s.length
 ·rw[List.drop_append_of_le_length (by rw[List.length_take];have:=Nat.le_max_right i fr;omega)]
 ·rw[List.drop_eq_nil_of_le (by omega:s.length≤max i fr),List.append_nil,List.append_nil]
def vr {t:ah}(h:0<t.length)(h0:at8 t 0=32):ib t=ib (t.drop 1):=by
 match t,h with
 |c::r,_=>
  have:c=32:=UInt8.toNat_inj.1 (by have h0:((c.toNat:Nat):Int)=32:=h0;show c.toNat=32;omega);subst this;simp[ib]
def sQ {t:ah}(h:¬(0:Int)<(t.length:Nat)∨¬at8 t 0=32):ib t=t:=by
 match t with
 |[]=>rfl
 |c::r=>
  rcases h with h|h
  ·simp only[List.length_cons]at h;omega
  ·simp only[ib];rw[if_neg];rintro rfl;exact h rfl
def sR (u:ah):ah:=(ib u.reverse).reverse
def BB {u:ah}(h:0<u.length):at8 u.reverse 0=at8 u (u.length-1):=by
 unfold at8;congr 2;rw[List.getD_eq_getElem?_getD,List.getD_eq_getElem?_getD,List.getElem?_reverse h,Nat.sub_zero]
def CO {u:ah}(h:0<u.length)(h0:at8 u (u.length-1)=32):sR u=sR (u.take (u.length-1)):=by
 unfold sR;rw[vr (by simpa using h) (by rw[BB h];exact h0)];congr 2;rw[List.drop_reverse]
def Ai {u:ah}(h:¬(0:Int)<(u.length:Nat)∨¬at8 u (u.length-1)=32):sR u=u:=by
 unfold sR;by_cases hu:0<u.length
 ·rw[sQ (by rw[BB hu];rcases h with h|h;omega;exact Or.inr h)];simp
 ·have:u=[]:=List.length_eq_zero_iff.1 (by omega);subst this;rfl
def Nd.eq (a b:Nd):gw (Nd.D a).cells (Nd.D b).cells=decide (a=b):=by
 obtain⟨a1,a2,a3,a4,a5⟩:=a;obtain⟨b1,b2,b3,b4,b5⟩:=b;simp only[Nd.D,D.cells,gw,pU,sy,Nd.mk.injEq,Bool.and_true];simp only[Bool.decide_and]
def fU (n:Nd):Bool:=decide (n.key=0)&&decide (n.text=[])
def ku (n:Nd):Bool:=decide (n.op=1)&&decide (0≤n.key)&&decide (n.key<3)&&bI n.text&&decide (n.a=0)&&decide (n.b=0)
def fK (n:Nd)(i:Nat)(o:List Int):Option (List Int):=
 if ku n=true then some (o++[(i:Int)])
 else if(((n.op=2∧fU n=true)∧0<o.length)∧n.a=o[o.length-1]!)∧n.b=0 then some (o.take (o.length-1)++[(i:Int)])
 else if((((n.op=3∨n.op=4)∧fU n=true)∧1<o.length)∧n.a=o[o.length-2]!)∧n.b=o[o.length-1]! then some (o.take (o.length-2)++[(i:Int)])
 else none
def jO:List Nd→Nat→List Int→Option (List Int)
 |[],_,o=>some o
 |n::r,i,o=>match fK n i o with
  |some o'=>jO r (i+1) o'
  |none=>none
def jT (l:List Nd):Bool:=match jO l 0 []with
 |some o=>decide (l.length=0) ||decide (o.length=1)
 |none=>false
def vy {α:Type} [Inhabited α](l:List α){i:Nat}(h:i<l.length):l.drop i=l[i]! ::l.drop (i+1):=by
 rw[List.drop_eq_getElem_cons h];simp[h]
def fF {l:List Nd}{i:Nat}{o o':List Int}(h:i<l.length)(hs:fK l[i]! i o=some o'):jO (l.drop i) i o=jO (l.drop (i+1)) (i+1) o':=by
 rw[vy l h];simp only[jO,hs]
def ec {l:List Nd}{i:Nat}{o:List Int}(h:i<l.length)(hs:fK l[i]! i o=none):jO (l.drop i) i o=none:=by
 rw[vy l h];simp only[jO,hs]
def vV {l:List Nd}{i:Nat}{o:List Int}(h:l.length≤i):jO (l.drop i) i o=some o:=by
 rw[List.drop_eq_nil_of_le h];rfl
def zJ {l:List Nd}(h:jO l 0 []=none):jT l=false:=by simp only[jT,h]
def gW {l:List Nd}(h:jO l 0 []=none):(true&&jT l)=false:=by rw[zJ h];rfl
def x5 (S:List Int):Int→List Int→Prop
 |e,[]=>e=0
 |e,t::r=>t=e-1∧0≤t∧0≤S[t.toNat]! ∧S[t.toNat]! ≤t∧x5 S S[t.toNat]! r
def wU {S:List Int}{i:Nat}{v:Int}:∀{r:List Int}{e:Int},e≤i→x5 S e r→x5 (S.set i v) e r
 |[],e,_,h=>h
 |t::r,e,he,⟨h1,h2,h3,h4,h5⟩=>by
  have hg:(S.set i v)[t.toNat]! =S[t.toNat]! :=by
   have:i≠t.toNat:=by omega
   simp[List.getElem?_set,this]
  exact⟨h1,h2,by rw[hg];exact h3,by rw[hg];exact h4,by rw[hg];exact wU (by omega) h5⟩
def H6 {S:List Int}{i:Nat}{v:Int}(h:i<S.length):(S.set i v)[i]! =v:=by
 simp[h]
def pO {S:List Int}{i:Nat}{v:Int}{r:List Int}(h:i<S.length)(h0:0≤v)(h1:v≤i)(hc:x5 S v r):x5 (S.set i v) ((i+1:Nat):Int) ((i:Int)::r):=by
 have hg:(S.set i v)[((i:Nat):Int).toNat]! =v:=by rw[Int.toNat_natCast];exact H6 h
 exact⟨by omega,by omega,by rw[hg];exact h0,by rw[hg];exact h1,by rw[hg];exact wU (by omega) hc⟩
def pP {S:List Int}{i:Nat}{o:List Int}(h:x5 S (i:Nat) o.reverse):(0<o.length↔1≤i)∧(1≤i→o[o.length-1]! =(i:Int) -1∧0≤S[i-1]! ∧S[i-1]! ≤(i:Int) -1∧x5 S S[i-1]! (o.take (o.length-1)).reverse):=by
 rcases List.eq_nil_or_concat o with rfl|⟨p,t,rfl⟩
 ·have h:((i:Nat):Int)=0:=h;exact⟨⟨fun h=>absurd h (by simp),fun h2=>by omega⟩,fun h2=>by omega⟩
 ·rw[List.concat_eq_append,List.reverse_append,List.reverse_singleton,List.singleton_append]at h;obtain⟨h1,h2,h3,h4,h5⟩:=h;have ht:t.toNat=i-1:=by omega
  rw[ht]at h3 h4 h5;rw[List.concat_eq_append];refine⟨⟨fun _=>by omega,fun _=>by simp⟩,fun _=>⟨by simp[h1],h3,by omega, ?_⟩⟩;rw[List.take_append_of_le_length (by simp),List.take_of_length_le (by simp)];exact h5
def wV {S:List Int}{i:Nat}{o:List Int}(h:x5 S (i:Nat) o.reverse):(1<o.length↔1≤i∧1≤S[i-1]!)∧(1<o.length→o[o.length-2]! =S[i-1]! -1∧0≤S[(S[i-1]! -1).toNat]! ∧S[(S[i-1]! -1).toNat]! ≤S[i-1]! -1∧x5 S S[(S[i-1]! -1).toNat]! (o.take (o.length-2)).reverse):=by
 obtain⟨h1,h2⟩:=pP h;by_cases hi:1≤i
 ·obtain⟨g1,g2,g3,g4⟩:=h2 hi;have hl:=h1.2 hi;rcases List.eq_nil_or_concat o with rfl|⟨p,t,rfl⟩
  ·simp at hl
  ·rw[List.concat_eq_append]at g4⊢;rw[List.take_append_of_le_length (by simp),List.take_of_length_le (by simp)]at g4;rcases List.eq_nil_or_concat p with rfl|⟨q,u,rfl⟩
   ·have g4:S[i-1]! =0:=g4;exact⟨⟨fun h=>absurd h (by simp),fun h=>by omega⟩,fun h=>absurd h (by simp)⟩
   ·rw[List.concat_eq_append]at g4⊢;rw[List.reverse_append,List.reverse_singleton,List.singleton_append]at g4;obtain⟨k1,k2,k3,k4,k5⟩:=g4;subst k1;refine⟨⟨fun _=>⟨hi,by omega⟩,fun _=>by simp⟩,fun _=>⟨by simp,k3,k4, ?_⟩⟩;rw[List.append_assoc,List.take_append_of_le_length (by simp),List.take_of_length_le (by simp)];exact k5
 ·have:¬0<o.length:=fun h=>hi (h1.1 h)
  exact⟨⟨fun h=>by omega,fun h=>absurd h.1 hi⟩,fun h=>by omega⟩
def Gm {S:List Int}{n:Nat}{o:List Int}(t1:0<o.length↔1≤n)(t2:1≤n→o[o.length-1]! =(n:Int) -1∧0≤S[n-1]! ∧S[n-1]! ≤(n:Int) -1∧x5 S S[n-1]! (o.take (o.length-1)).reverse)(u1:1<o.length↔1≤n∧1≤S[n-1]!):
  (decide (n=0) ||decide (o.length=1))=(decide ((n:Nat)=(0:Int)) ||decide (S[n-1]! =0)):=by
 rw[Bool.eq_iff_iff];simp only[Bool.or_eq_true,decide_eq_true_eq];constructor
 ·rintro(h|h)
  ·left;omega
  ·by_cases hn:1≤n
   ·have:=t2 hn;right;omega
   ·left;omega
 ·rintro(h|h)
  ·left;omega
  ·by_cases hn:1≤n
   ·right;omega
   ·left;omega
def tu {n:Nd}(h:ku n=true):n.op=1:=by simp only[ku,Bool.and_eq_true,decide_eq_true_eq]at h;exact h.1.1.1.1.1
def Bo {n:Nd}{i:Nat}{o:List Int}(h:ku n=true):fK n i o=some (o++[(i:Int)]):=if_pos h
def xK {n:Nd}{i:Nat}{o:List Int}(h1:n.op=1)(h:ku n=false):fK n i o=none:=by
 unfold fK;rw[if_neg (by simp[h]),if_neg (by rintro⟨⟨⟨⟨h,_⟩,_⟩,_⟩,_⟩;omega),if_neg (by rintro⟨⟨⟨⟨h|h,_⟩,_⟩,_⟩,_⟩<;>omega)]
def zE {n:Nd}{i:Nat}{o:List Int}(h1:n.op≠1)(h2:n.op≠2)(h3:n.op≠3)(h4:n.op≠4):fK n i o=none:=by
 unfold fK;rw[if_neg (fun h=>h1 (tu h)),if_neg (by rintro⟨⟨⟨⟨h,_⟩,_⟩,_⟩,_⟩;exact h2 h),if_neg (by rintro⟨⟨⟨⟨h|h,_⟩,_⟩,_⟩,_⟩;exact h3 h;exact h4 h)]
def qZ {S:List Int}{n:Nd}{i:Nat}{o:List Int}(hc:x5 S (i:Nat) o.reverse)(h2:n.op=2):fK n i o=if(1≤i∧n.a=(i:Int) -1∧n.b=0)∧fU n=true then some (o.take (o.length-1)++[(i:Int)])else none:=by
 obtain⟨t1,t2⟩:=pP hc;unfold fK;rw[if_neg (fun h=>by have:=tu h;omega)];by_cases hk:(1≤i∧n.a=(i:Int) -1∧n.b=0)∧fU n=true
 ·rw[if_pos hk,if_pos ⟨⟨⟨⟨h2,hk.2⟩,t1.2 hk.1.1⟩,by rw[(t2 hk.1.1).1];exact hk.1.2.1⟩,hk.1.2.2⟩]
 ·rw[if_neg hk,if_neg,if_neg (by rintro⟨⟨⟨⟨h|h,_⟩,_⟩,_⟩,_⟩<;>omega)];rintro⟨⟨⟨⟨_,g1⟩,g2⟩,g3⟩,g4⟩;have hi:=t1.1 g2;exact hk ⟨⟨hi,by rw[g3];exact(t2 hi).1,g4⟩,g1⟩
def ke {S:List Int}{n:Nd}{i:Nat}{o:List Int}(hc:x5 S (i:Nat) o.reverse)(h2:n.op=3∨n.op=4):fK n i o=if(2≤i∧n.b=(i:Int) -1∧1≤S[i-1]! ∧n.a=S[i-1]! -1)∧fU n=true then some (o.take (o.length-2)++[(i:Int)])else none:=by
 obtain⟨t1,t2⟩:=pP hc;obtain⟨u1,u2⟩:=wV hc;unfold fK;rw[if_neg (fun h=>by have:=tu h;omega),if_neg (by rintro⟨⟨⟨⟨h,_⟩,_⟩,_⟩,_⟩;omega)];by_cases hk:(2≤i∧n.b=(i:Int) -1∧1≤S[i-1]! ∧n.a=S[i-1]! -1)∧fU n=true
 ·have hl:=u1.2 ⟨by omega,hk.1.2.2.1⟩;rw[if_pos hk,if_pos ⟨⟨⟨⟨h2,hk.2⟩,hl⟩,by rw[(u2 hl).1];exact hk.1.2.2.2⟩,by rw[(t2 (by omega)).1];exact hk.1.2.1⟩]
 ·rw[if_neg hk,if_neg];rintro⟨⟨⟨⟨_,g1⟩,g2⟩,g3⟩,g4⟩;obtain⟨hi,hS⟩:=u1.1 g2;obtain⟨w1,w2,w3,_⟩:=t2 hi;exact hk ⟨⟨by omega,by rw[g4];exact w1,hS,by rw[g3];exact(u2 g2).1⟩,g1⟩
def dM (l:List Nd):Prop:=∀j,j<l.length→(l[j]!.op=1→0≤l[j]!.key∧l[j]!.key<3∧l[j]!.text.length≤12)∧(l[j]!.op≠1→0≤l[j]!.a∧l[j]!.a<j)∧(l[j]!.op≠1→l[j]!.op≠2→0≤l[j]!.b∧l[j]!.b<j)
def AQ {l:List Nd}:∀(k i:Nat)(o o':List Int),i+k=l.length→(∀x∈o,0≤x∧x<(i:Int))→jO (l.drop i) i o=some o'→
  ∀j,i≤j→j<l.length→(l[j]!.op=1→0≤l[j]!.key∧l[j]!.key<3∧l[j]!.text.length≤12)∧(l[j]!.op≠1→0≤l[j]!.a∧l[j]!.a<j)∧(l[j]!.op≠1→l[j]!.op≠2→0≤l[j]!.b∧l[j]!.b<j):=by
 intro k;induction k with
 |zero=>intro i o o' h1 h2 h3 j h4 h5;omega
 |succ k ih=>
  intro i o o' h1 h2 h3 j h4 h5;have hi:i<l.length:=by omega
  cases hs:fK l[i]! i o with
  |none=>rw[ec hi hs]at h3;cases h3
  |some o2=>
   rw[fF hi hs]at h3;have hm:∀m,0<m→m≤o.length→0≤o[o.length-m]! ∧o[o.length-m]! <(i:Int):=fun m hm1 hm2=>h2 _ (bw (by omega))
   have hsub:∀m,∀x∈o.take m++[(i:Int)],0≤x∧x<((i+1:Nat):Int):=fun m x hx=>by
    rcases List.mem_append.1 hx with hx|hx
    ·have:=h2 x (List.mem_of_mem_take hx);omega
    ·simp only[List.mem_singleton]at hx;omega
   unfold fK at hs;split at hs
   ·rename_i hl;cases hs;rcases Nat.lt_or_ge i j with hj|hj
    ·exact ih (i+1) _ o' (by omega) (by have:=hsub o.length;rwa [List.take_of_length_le (Nat.le_refl _)]at this) h3 j hj h5
    ·obtain rfl:i=j:=by omega
     simp only[ku,Bool.and_eq_true,decide_eq_true_eq]at hl;have hw:=hl.1.1.2;simp only[bI,Bool.and_eq_true,decide_eq_true_eq]at hw;exact⟨fun _=>⟨hl.1.1.1.1.2,hl.1.1.1.2,hw.1.2⟩,fun h=>absurd hl.1.1.1.1.1 h,fun h=>absurd hl.1.1.1.1.1 h⟩
   ·split at hs
    ·rename_i hl;cases hs;rcases Nat.lt_or_ge i j with hj|hj
     ·exact ih (i+1) _ o' (by omega) (hsub _) h3 j hj h5
     ·obtain rfl:i=j:=by omega
      obtain⟨⟨⟨⟨g1,g2⟩,g3⟩,g4⟩,g5⟩:=hl;have:=hm 1 (by omega) (by omega);exact⟨fun h=>by omega,fun _=>by rw[g4];exact this,fun _ h=>absurd g1 h⟩
    ·split at hs
     ·rename_i hl;cases hs;rcases Nat.lt_or_ge i j with hj|hj
      ·exact ih (i+1) _ o' (by omega) (hsub _) h3 j hj h5
      ·obtain rfl:i=j:=by omega
       obtain⟨⟨⟨⟨g1,g2⟩,g3⟩,g4⟩,g5⟩:=hl;have q1:=hm 1 (by omega) (by omega);have q2:=hm 2 (by omega) (by omega);exact⟨fun h=>by omega,fun _=>by rw[g4];exact q2,fun _ _=>by rw[g5];exact q1⟩
     ·cases hs
def mE {l:List Nd}(h:jT l=true):dM l:=by
 unfold jT at h;cases ho:jO l 0 []with
 |none=>rw[ho]at h;cases h
 |some o=>exact fun j hj=>AQ l.length 0 [] o (by omega) (by simp) ho j (Nat.zero_le _) hj
def CR (n:Nd)(o:List Int):Bool:=(((decide (n.op=2)&&(decide (n.key=0)&&decide (n.text=[])))&&decide ((0:Int)<(o.length:Nat)))&&decide (n.a=o[o.length-1]!))&&decide (n.b=0)
def CS (n:Nd)(o:List Int):Bool:=((((decide (n.op=3) ||decide (n.op=4))&&(decide (n.key=0)&&decide (n.text=[])))&&decide ((1:Int)<(o.length:Nat)))&&decide (n.a=o[o.length-2]!))&&decide (n.b=o[o.length-1]!)
def sH (n:Nd)(i:Nat)(o:List Int):fK n i o=if ku n=true then some (o++[(i:Int)])else if CR n o=true then some (o.take (o.length-1)++[(i:Int)])else if CS n o=true then some (o.take (o.length-2)++[(i:Int)])else none:=by
 have e1:(CR n o=true)=((((n.op=2∧fU n=true)∧0<o.length)∧n.a=o[o.length-1]!)∧n.b=0):=by
  simp only[CR,fU,Bool.and_eq_true,decide_eq_true_eq,eq_iff_iff,Int.natCast_pos]
 have e2:(CS n o=true)=(((((n.op=3∨n.op=4)∧fU n=true)∧1<o.length)∧n.a=o[o.length-2]!)∧n.b=o[o.length-1]!):=by
  simp only[CS,fU,Bool.and_eq_true,Bool.or_eq_true,decide_eq_true_eq,eq_iff_iff];rw[show((1:Int)<(o.length:Nat))↔1<o.length from by omega]
 simp only[fK,e1,e2]
def BY {n:Nd}(h:n.op=1):ku n=!((((decide (n.key<0) ||decide (3≤n.key)) ||!bI n.text) ||!decide (n.a=0)) ||!decide (n.b=0)):=by
 simp only[ku,h,decide_true,Bool.true_and];rw[show decide (n.key<0)=!decide (0≤n.key)from by rw[←decide_not];exact decide_eq_decide.2 (by omega),show decide (3≤n.key)=!decide (n.key<3)from by rw[←decide_not];exact decide_eq_decide.2 (by omega)];generalize decide (0≤n.key)=a;generalize decide (n.key<3)=b;generalize bI n.text=c;generalize decide (n.a=0)=d;generalize decide (n.b=0)=e;cases a<;>cases b<;>cases c<;>cases d<;>cases e<;>rfl
def sG {S:List Int}{i:Nat}(h:i<S.length)(v:Int):(S.map (D.int .i64)).set (0+i) (sj ((S.map (D.int .i64)).getD (0+i) .any) 1 1 0 (.int .i64 v))=(S.set i v).map (D.int .i64):=by
 rw[Nat.zero_add,getD_map (q:=D.int .i64) h,List.map_set];rfl
abbrev Bx:=List Nd
def ew (m:Bx):D:=.agg [.sl 5 (m.map Nd.D)]
def mI:List ah:=[[111,115],[97,114,99,104],[97,98,105]]
def oB (k:Int):ah:=if k=0 then [111,115]else if k=1 then [97,114,99,104]else [97,98,105]
def gY (s:ah)(b:Bool):ah:=if b=true then [40,32]++s++[32,41]else s
def nS (l:List Nd):Nat→Int→ah
 |0,_=>[]
 |f+1,i=>
  if l[i.toNat]!.op=1 then oB l[i.toNat]!.key++[32,61,32]++l[i.toNat]!.text
  else if l[i.toNat]!.op=2 then
   if l[l[i.toNat]!.a.toNat]!.op=1 then oB l[l[i.toNat]!.a.toNat]!.key++[32,33,61,32]++l[l[i.toNat]!.a.toNat]!.text
   else [110,111,116,32]++gY (nS l f l[i.toNat]!.a) (!decide (l[l[i.toNat]!.a.toNat]!.op=2))
  else if l[i.toNat]!.op=3 then gY (nS l f l[i.toNat]!.a) (decide (l[l[i.toNat]!.a.toNat]!.op=4))++[32,97,110,100,32]++gY (nS l f l[i.toNat]!.b) (decide (l[l[i.toNat]!.b.toNat]!.op=4) ||decide (l[l[i.toNat]!.b.toNat]!.op=3))
  else nS l f l[i.toNat]!.a++[32,111,114,32]++gY (nS l f l[i.toNat]!.b) (decide (l[l[i.toNat]!.b.toNat]!.op=4))
def gS (l:List Nd)(i:Int):ah:=nS l (i.toNat+1) i
def sK {l:List Nd}(hk:dM l):∀(f g:Nat)(i:Int),0≤i→i<l.length→i<f→i<g→nS l f i=nS l g i
 |0,_,_,_,_,h,_=>by omega
 |_,0,_,_,_,_,h=>by omega
 |f+1,g+1,i,h0,h1,h2,h3=>by
  obtain⟨k1,k2,k3⟩:=hk i.toNat (by omega);simp only[nS];by_cases e1:l[i.toNat]!.op=1
  ·rw[if_pos e1,if_pos e1]
  ·rw[if_neg e1,if_neg e1];have ka:=k2 e1;rw[sK hk f g l[i.toNat]!.a (by omega) (by omega) (by omega) (by omega)];by_cases e2:l[i.toNat]!.op=2
   ·rw[if_pos e2,if_pos e2]
   ·have kb:=k3 e1 e2;rw[sK hk f g l[i.toNat]!.b (by omega) (by omega) (by omega) (by omega)]
def Cw {l:List Nd}(hk:dM l){i:Int}(h0:0≤i)(h1:i<l.length):gS l i=
  if l[i.toNat]!.op=1 then oB l[i.toNat]!.key++[32,61,32]++l[i.toNat]!.text
  else if l[i.toNat]!.op=2 then
   if l[l[i.toNat]!.a.toNat]!.op=1 then oB l[l[i.toNat]!.a.toNat]!.key++[32,33,61,32]++l[l[i.toNat]!.a.toNat]!.text
   else [110,111,116,32]++gY (gS l l[i.toNat]!.a) (!decide (l[l[i.toNat]!.a.toNat]!.op=2))
  else if l[i.toNat]!.op=3 then gY (gS l l[i.toNat]!.a) (decide (l[l[i.toNat]!.a.toNat]!.op=4))++[32,97,110,100,32]++gY (gS l l[i.toNat]!.b) (decide (l[l[i.toNat]!.b.toNat]!.op=4) ||decide (l[l[i.toNat]!.b.toNat]!.op=3))
  else gS l l[i.toNat]!.a++[32,111,114,32]++gY (gS l l[i.toNat]!.b) (decide (l[l[i.toNat]!.b.toNat]!.op=4)):=by
 obtain⟨k1,k2,k3⟩:=hk i.toNat (by omega)
 conv=>lhs;unfold gS
 simp only[nS];by_cases e1:l[i.toNat]!.op=1
 ·rw[if_pos e1,if_pos e1]
 ·rw[if_neg e1,if_neg e1];have ka:=k2 e1;rw[show nS l i.toNat l[i.toNat]!.a=gS l l[i.toNat]!.a from sK hk _ _ _ (by omega) (by omega) (by omega) (by omega)];by_cases e2:l[i.toNat]!.op=2
  ·rw[if_pos e2,if_pos e2]
  ·have kb:=k3 e1 e2;rw[show nS l i.toNat l[i.toNat]!.b=gS l l[i.toNat]!.b from sK hk _ _ _ (by omega) (by omega) (by omega) (by omega)]
def ki (s:ah)(b:Bool):(gY s b).length≤s.length+4:=by
 unfold gY;split<;>simp
def od {k:Int}(h0:0≤k)(h3:k<3):mI[k.toNat]! =oB k:=by
 obtain rfl|rfl|rfl:k=0∨k=1∨k=2:=by omega
 ·rfl
 ·rfl
 ·rfl
def E6 {k:Int}(h0:0≤k)(h3:k<3):lQ (([.str [111,115],.str [97,114,99,104],.str [97,98,105]]:List D).getD (0+k.toNat) .any) 1 1 0 false=.str (oB k):=by
 obtain rfl|rfl|rfl:k=0∨k=1∨k=2:=by omega
 ·rfl
 ·rfl
 ·rfl
def lP (k:Int):(oB k).length≤4:=by
 unfold oB;split
 ·decide
 ·split<;>decide
def uw {l:List Nd}(hk:dM l):∀(f:Nat)(i:Int),0≤i→i<l.length→(nS l f i).length+20≤20*2^(f+1)
 |0,i,_,_=>by simp[nS]
 |f+1,i,h0,h1=>by
  obtain⟨k1,k2,k3⟩:=hk i.toNat (by omega);have hp:20*2^(f+1+1)=20*2^(f+1)+20*2^(f+1):=by rw[Nat.pow_succ 2 (f+1)];omega
  have h1p:1≤2^(f+1):=Nat.one_le_two_pow;simp only[nS];by_cases e1:l[i.toNat]!.op=1
  ·rw[if_pos e1];have:=lP l[i.toNat]!.key;have:=k1 e1;simp only[List.length_append,List.length_cons,List.length_nil];omega
  ·rw[if_neg e1];have ka:=k2 e1;have la:=uw hk f l[i.toNat]!.a (by omega) (by omega);have wa:=fun b=>ki (nS l f l[i.toNat]!.a) b
   by_cases e2:l[i.toNat]!.op=2
   ·rw[if_pos e2];split
    ·rename_i e3;have:=lP l[l[i.toNat]!.a.toNat]!.key;have:=((hk l[i.toNat]!.a.toNat (by omega)).1 e3).2.2;simp only[List.length_append,List.length_cons,List.length_nil];omega
    ·have:=wa (!decide (l[l[i.toNat]!.a.toNat]!.op=2));simp only[List.length_append,List.length_cons,List.length_nil];omega
   ·rw[if_neg e2];have kb:=k3 e1 e2;have lb:=uw hk f l[i.toNat]!.b (by omega) (by omega);have wb:=fun b=>ki (nS l f l[i.toNat]!.b) b
    split
    ·have:=wa (decide (l[l[i.toNat]!.a.toNat]!.op=4));have:=wb (decide (l[l[i.toNat]!.b.toNat]!.op=4) ||decide (l[l[i.toNat]!.b.toNat]!.op=3));simp only[List.length_append,List.length_cons,List.length_nil];omega
    ·have:=wb (decide (l[l[i.toNat]!.b.toNat]!.op=4));simp only[List.length_append,List.length_cons,List.length_nil];omega
def nT {l:List Nd}(hk:dM l)(hl:l.length≤15){i:Int}(h0:0≤i)(h1:i<l.length):(gS l i).length≤1310720:=by
 have h:=uw hk (i.toNat+1) i h0 h1;have:2^(i.toNat+1+1)≤2^16:=Nat.pow_le_pow_right (by omega) (by omega);unfold gS;omega
def jL (l:List Nd):ah:=if l.length=0 then []else gS l ((l.length:Int) -1)
def pg (l:List Nd):Bool:=(decide (l.length≤15)&&jT l)&&decide ((jL l).length≤96)
def FD (l:List Nd):ah:=if pg l=true then jL l else []
abbrev PR:=Option (Int×List ah×List Nd)
def eJ (k:ah):Int:=if k=[111,115]then 0 else if k=[97,114,99,104]then 1 else if k=[97,98,105]then 2 else-1
def jF (k s v:ah):Bool:=(decide (0≤eJ k)&&bI v)&&(decide (s=[61]) ||decide (s=[33,61]))
def rj (k s v:ah)(r:List ah)(nd:List Nd):Int×List ah×List Nd:=
 if s=[33,61]then(((nd++[(⟨1,0,0,eJ k,v⟩:Nd)]).length:Nat),r,(nd++[⟨1,0,0,eJ k,v⟩])++[⟨2,(nd.length:Nat),0,0,[]⟩])
 else((nd.length:Nat),r,nd++[⟨1,0,0,eJ k,v⟩])
def nb (k:ah)(w:List ah)(nd:List Nd):PR:=match w with
 |s::v::r=>if jF k s v=true then some (rj k s v r nd)else none
 |_=>none
def iL (part:List ah→List Nd→PR)(wd:ah)(op:Int):Nat→Int→List ah→List Nd→PR
 |0,a,w,nd=>some (a,w,nd)
 |f+1,a,w,nd=>match w with
  |[]=>some (a,w,nd)
  |x::r=>if x=wd then(match part r nd with
    |none=>none
    |some (b,w',nd')=>iL part wd op f (nd'.length:Nat) w' (nd'++[⟨op,a,b,0,[]⟩]))
   else some (a,w,nd)
def eZ (part:List ah→List Nd→PR)(wd:ah)(op:Int)(w:List ah)(nd:List Nd):PR:=match part w nd with
 |none=>none
 |some (a,w',nd')=>iL part wd op w'.length a w' nd'
def mK:ah:=[110,111,116]
def ez:ah:=[40]
def iF:ah:=[41]
def iN:ah:=[97,110,100]
def mW:ah:=[111,114]
def lv (r:PR):PR:=match r with
 |some (a,x::w',nd')=>if x=iF then some (a,w',nd')else none
 |_=>none
def Kh (r:PR):PR:=match r with
 |some (a,w',nd')=>some ((nd'.length:Nat),w',nd'++[⟨2,a,0,0,[]⟩])
 |none=>none
def oA:Nat→List ah→List Nd→PR
 |0,_,_=>none
 |f+1,w,nd=>match w with
  |[]=>none
  |k::r=>if k=mK then Kh (oA f r nd)
   else if k=ez then lv (eZ (eZ (oA f) iN 3) mW 4 r nd)
   else nb k r nd
def PB (w:List ah)(nd:List Nd)(w':List ah)(nd':List Nd):Prop:=w'.length≤w.length∧nd'.length+2*w'.length≤nd.length+2*w.length∧w'<:+w
def pI (part:List ah→List Nd→PR):Prop:=∀w nd a w' nd',part w nd=some (a,w',nd')→PB w nd w' nd'∧w'.length<w.length
def PB.refl (w:List ah)(nd:List Nd):PB w nd w nd:=⟨Nat.le_refl _,Nat.le_refl _,List.suffix_refl _⟩
def PB.trans {w nd w' nd' w2 nd2}(h:PB w nd w' nd')(h2:PB w' nd' w2 nd2):PB w nd w2 nd2:=⟨Nat.le_trans h2.1 h.1,Nat.le_trans h2.2.1 h.2.1,h2.2.2.trans h.2.2⟩
def PB.tail {x:ah}{w:List ah}{nd:List Nd}{w':List ah}{nd':List Nd}(h:PB w nd w' nd')(n:Nd):PB (x::w) nd w' (nd'++[n]):=by
 obtain⟨h1,h2,h3⟩:=h;refine⟨by simp only[List.length_cons];omega,by simp only[List.length_append,List.length_cons,List.length_nil];omega,h3.trans (List.suffix_cons x w)⟩
def PB.qh {x:ah}{w:List ah}{nd:List Nd}{w':List ah}{nd':List Nd}(h:PB w nd w' nd'):PB (x::w) nd w' nd':=by
 obtain⟨h1,h2,h3⟩:=h;exact⟨by simp only[List.length_cons];omega,by simp only[List.length_cons];omega,h3.trans (List.suffix_cons x w)⟩
def tv {part:List ah→List Nd→PR}(hp:pI part)(wd:ah)(op:Int):∀(f:Nat)(a:Int)(w:List ah)(nd:List Nd)(a':Int)(w':List ah)(nd':List Nd),iL part wd op f a w nd=some (a',w',nd')→PB w nd w' nd'
 |0,a,w,nd,a',w',nd',h=>by simp only[iL,Option.some.injEq,Prod.mk.injEq]at h;obtain⟨rfl,rfl,rfl⟩:=h;exact .refl _ _
 |f+1,a,[],nd,a',w',nd',h=>by simp only[iL,Option.some.injEq,Prod.mk.injEq]at h;obtain⟨rfl,rfl,rfl⟩:=h;exact .refl _ _
 |f+1,a,x::r,nd,a',w',nd',h=>by
  simp only[iL]at h;by_cases hx:x=wd
  ·rw[if_pos hx]at h;cases hq:part r nd with
   |none=>rw[hq]at h;cases h
   |some t=>
    obtain⟨b,w2,nd2⟩:=t;rw[hq]at h;exact((hp _ _ _ _ _ hq).1.tail _).trans (tv hp wd op f _ _ _ _ _ _ h)
  ·rw[if_neg hx]at h;simp only[Option.some.injEq,Prod.mk.injEq]at h;obtain⟨rfl,rfl,rfl⟩:=h;exact .refl _ _
def jl {part:List ah→List Nd→PR}(hp:pI part)(wd:ah)(op:Int):pI (eZ part wd op):=by
 intro w nd a w' nd' h;unfold eZ at h;cases hq:part w nd with
 |none=>rw[hq]at h;cases h
 |some t=>
  obtain⟨b,w2,nd2⟩:=t;rw[hq]at h;obtain⟨h1,h2⟩:=hp _ _ _ _ _ hq;have:=tv hp wd op _ _ _ _ _ _ _ h;exact⟨h1.trans this,Nat.lt_of_le_of_lt this.1 h2⟩
def me {k:ah}{w:List ah}{nd:List Nd}{a:Int}{w':List ah}{nd':List Nd}(h:nb k w nd=some (a,w',nd')):PB w nd w' nd':=by
 match w,h with
 |s::v::r,h=>
  simp only[nb]at h;split at h
  ·simp only[Option.some.injEq]at h;unfold rj at h;have hs:r<:+s::v::r:=(List.suffix_cons v r).trans (List.suffix_cons s _);split at h<;>(simp only[Prod.mk.injEq]at h;obtain⟨rfl,rfl,rfl⟩:=h;exact⟨by simp only[List.length_cons];omega,by simp only[List.length_append,List.length_cons,List.length_nil];omega,hs⟩)
  ·cases h
 |[_],h=>cases h
 |[],h=>cases h
def iQ:∀f,pI (oA f)
 |0=>fun w nd a w' nd' h=>by cases h
 |f+1=>by
  intro w nd a w' nd' h
  match w,h with
  |[],h=>cases h
  |k::r,h=>
   simp only[oA]at h;split at h
   ·cases hq:oA f r nd with
    |none=>rw[hq]at h;cases h
    |some t=>
     obtain⟨b,w2,nd2⟩:=t;rw[hq]at h;simp only[Kh,Option.some.injEq,Prod.mk.injEq]at h;obtain⟨rfl,rfl,rfl⟩:=h;obtain⟨h1,h2⟩:=iQ f _ _ _ _ _ hq;exact⟨h1.tail _,by simp only[List.length_cons];omega⟩
   ·split at h
    ·cases hq:eZ (eZ (oA f) iN 3) mW 4 r nd with
     |none=>rw[hq]at h;cases h
     |some t=>
      obtain⟨b,w2,nd2⟩:=t;rw[hq]at h;obtain⟨h1,h2⟩:=jl (jl (iQ f) _ _) _ _ _ _ _ _ _ hq
      match w2,h,h1,h2 with
      |[],h,_,_=>cases h
      |x::w3,h,h1,h2=>
       simp only[lv]at h;split at h
       ·simp only[Option.some.injEq,Prod.mk.injEq]at h;obtain⟨rfl,rfl,rfl⟩:=h;exact⟨(h1.trans (PB.refl _ _).qh).qh,by simp only[List.length_cons]at h2⊢;omega⟩
       ·cases h
    ·exact⟨(me h).qh,by have:=(me h).1;simp only[List.length_cons];omega⟩
def yP {p p':List ah→List Nd→PR}(hp:pI p)(wd:ah)(op:Int){u:Nat}(h:∀w nd,w.length<u→p w nd=p' w nd):∀(f:Nat)(a:Int)(w:List ah)(nd:List Nd),w.length≤u→iL p wd op f a w nd=iL p' wd op f a w nd
 |0,a,w,nd,hu=>rfl
 |f+1,a,[],nd,hu=>rfl
 |f+1,a,x::r,nd,hu=>by
  simp only[List.length_cons]at hu;simp only[iL];split
  ·rw[←h r nd (by omega)];cases hq:p r nd with
   |none=>rfl
   |some t=>
    obtain⟨b,w2,nd2⟩:=t;have:=hp _ _ _ _ _ hq;exact yP hp wd op h f _ _ _ (by omega)
  ·rfl
def nW {p p':List ah→List Nd→PR}(hp:pI p)(wd:ah)(op:Int){u:Nat}(h:∀w nd,w.length<u→p w nd=p' w nd):∀w nd,w.length<u→eZ p wd op w nd=eZ p' wd op w nd:=by
 intro w nd hu;unfold eZ;rw[←h w nd hu];cases hq:p w nd with
 |none=>rfl
 |some t=>
  obtain⟨b,w2,nd2⟩:=t;have:=hp _ _ _ _ _ hq;exact yP hp wd op h _ _ _ _ (by omega)
def BJ:∀(u f g:Nat)(w:List ah)(nd:List Nd),w.length<u→w.length≤f→w.length≤g→oA f w nd=oA g w nd
 |0,_,_,_,_,h,_,_=>absurd h (Nat.not_lt_zero _)
 |u+1,f,g,[],nd,hu,hf,hg=>by cases f<;>cases g<;>rfl
 |u+1,0,_,_::_,_,_,h,_=>by simp at h
 |u+1,_,0,_::_,_,_,_,h=>by simp at h
 |u+1,f+1,g+1,k::r,nd,hu,hf,hg=>by
  simp only[List.length_cons]at hu hf hg;have ih:∀w nd,w.length<r.length+1→oA f w nd=oA g w nd:=fun w nd h=>BJ u f g w nd (by omega) (by omega) (by omega)
  simp only[oA];rw[ih r nd (by omega),nW (jl (iQ f) _ _) mW 4 (nW (iQ f) iN 3 ih) r nd (by omega)]
def gI (w:List ah)(nd:List Nd):PR:=oA w.length w nd
def ie:List ah→List Nd→PR:=eZ gI iN 3
def fe:List ah→List Nd→PR:=eZ ie mW 4
def qA:pI gI:=fun w nd a w' nd' h=>iQ _ w nd a w' nd' h
def sT:pI ie:=jl qA _ _
def sz (k:ah)(r:List ah)(nd:List Nd):gI (k::r) nd=if k=mK then Kh (gI r nd)else if k=ez then lv (fe r nd)else nb k r nd:=by
 show oA (r.length+1) (k::r) nd=_;simp only[oA];have ih:∀w nd,w.length<r.length+1→oA r.length w nd=gI w nd:=fun w nd h=>BJ (r.length+1) _ _ w nd h (by omega) (Nat.le_refl _)
 rw[show oA r.length r nd=gI r nd from rfl,nW (jl (iQ _) _ _) mW 4 (nW (iQ _) iN 3 ih) r nd (by omega)];rfl
def vL {part:List ah→List Nd→PR}{wd:ah}{op:Int}{f:Nat}{a:Int}{nd:List Nd}:iL part wd op f a [] nd=some (a,[],nd):=by cases f<;>rfl
def Fa {part:List ah→List Nd→PR}{wd:ah}{op:Int}{f:Nat}{a:Int}{w:List ah}{nd:List Nd}(h:w.head? ≠some wd):iL part wd op f a w nd=some (a,w,nd):=by
 cases f with
 |zero=>rfl
 |succ f=>match w,h with
  |[],_=>rfl
  |x::r,h=>simp only[iL];rw[if_neg (by rintro rfl;exact h rfl)]
def tw {part:List ah→List Nd→PR}(hp:pI part){wd:ah}{op:Int}:∀(f g:Nat)(a:Int)(w:List ah)(nd:List Nd),w.length≤f→w.length≤g→iL part wd op f a w nd=iL part wd op g a w nd
 |_,_,a,[],nd,_,_=>by rw[vL,vL]
 |0,_,_,_::_,_,h,_=>by simp at h
 |_,0,_,_::_,_,_,h=>by simp at h
 |f+1,g+1,a,x::r,nd,hf,hg=>by
  simp only[List.length_cons]at hf hg;simp only[iL];split
  ·cases hq:part r nd with
   |none=>rfl
   |some t=>
    obtain⟨b,w2,nd2⟩:=t;have:=hp _ _ _ _ _ hq;exact tw hp f g _ _ _ (by omega) (by omega)
  ·rfl
def BZ (part:List ah→List Nd→PR)(wd:ah)(op:Int)(a:Int)(w:List ah)(nd:List Nd):PR:=iL part wd op w.length a w nd
def Df {part:List ah→List Nd→PR}(hp:pI part){wd:ah}{op:Int}{a:Int}{r:List ah}{nd:List Nd}:BZ part wd op a (wd::r) nd=match part r nd with
  |none=>none
  |some (b,w',nd')=>BZ part wd op (nd'.length:Nat) w' (nd'++[⟨op,a,b,0,[]⟩]):=by
 show iL part wd op (r.length+1) a (wd::r) nd=_;simp only[iL,if_true];cases hq:part r nd with
 |none=>rfl
 |some t=>
  obtain⟨b,w2,nd2⟩:=t;have:=hp _ _ _ _ _ hq;exact tw hp _ _ _ _ _ (by omega) (Nat.le_refl _)
structure PO where
 a:Int
 w:List ah
 nd:List Nd
 bad:Bool
def cK (R:PR)(w:List ah)(nd:List Nd)(o:PO):Prop:=(R=some (o.a,o.w,o.nd)∧o.bad=false∨R=none∧o.bad=true)∧PB w nd o.w o.nd
def AM (s:ah):Option (List Nd):=match fe (aj s 32) []with
 |some (_,[],nd)=>if pg nd=true then some nd else none
 |_=>none
def gz (s:ah):List Nd×Int:=if 96<s.length then([],3)else if s=[]then([],0)else match AM s with
 |some nd=>(nd,0)
 |none=>([],7)
def kZ (s:ah):Bool:=decide ((gz s).2=0)&&decide (FD (gz s).1=s)
abbrev yc:=List ah→D→Bool→D
def eO:yc:=fun w X b=>.agg [.sl 1 (w.map D.str),X,.bool b]
def fk (W:List ah):yc:=fun w X b=>.agg [.sl 1 (W.map D.str),.int .i64 ((W.length-w.length:Nat):Int),X,.bool b]
def lu (Γ:Ctx)(k:Nat)(ob:yc)(n:Nat)(Yk:List D)(w:List ah)(nd:List Nd)(b:Bool)(P:PO→Prop)(V:PO→D):Prop:=
 ∀(nx lp ln:Nat) (m:List (Nat×bj)) (K:D→St→Prop),look m lp=some (.buf k [ob w (.own ln 5 0 nd.length) b])→look m ln=some (.buf 5 (nd.map Nd.D))→lp<nx→ln<nx→
  (∀o,P o→K (V o) ⟨nx+1,(nx,.buf 5 (o.nd.map Nd.D))::cw (cd m ln) lp (.buf k [ob o.w (.own nx 5 0 o.nd.length) o.bad])⟩)→Γ.tr n (.ptr lp k 0 0::Yk) ⟨nx,m⟩ K
def G4 (Γ:Ctx)(k:Nat)(ob:yc)(n:Nat)(Yk:List D)(w:List ah)(nd:List Nd)(b:Bool)(P:PO→Prop)(V:PO→D):Prop:=
 ∀(nx lp ln:Nat) (m:List (Nat×bj)) (K:D→St→Prop),look m lp=some (.buf k [ob w (.own ln 5 0 nd.length) b])→look m ln=some (.buf 5 (nd.map Nd.D))→lp<nx→ln<nx→
  (∀o,P o→K (V o) ⟨nx,cw m lp (.buf k [ob o.w (.own ln 5 0 nd.length) o.bad])⟩)→Γ.tr n (.ptr lp k 0 0::Yk) ⟨nx,m⟩ K
def rR (k:Nat)(ob:yc)(P:PO→Prop)(V:PO→D):D→List (Nat×bj)→Prop:=fun d m=>∃(o:PO)(j:Nat),2≤j∧P o∧d=V o∧look m 0=some (.buf k [ob o.w (.own j 5 0 o.nd.length) o.bad])∧look m j=some (.buf 5 (o.nd.map Nd.D))
def By (k:Nat)(ob:yc)(nd:List Nd)(P:PO→Prop)(V:PO→D):D→List (Nat×bj)→Prop:=fun d m=>∃(o:PO),P o∧d=V o∧look m 0=some (.buf k [ob o.w (.own 1 5 0 nd.length) o.bad])∧look m 1=some (.buf 5 (nd.map Nd.D))
def Va:PO→D:=fun o=>.int .i64 o.a
def Kc {m:List (Nat×bj)}(x:Nd):GK m [.a,.a,.a,.a,.a] (Nd.D x):=⟨rfl,rfl,rfl,rfl,rfl,rfl⟩
def Fj {m:List (Nat×bj)}{lp ln:Nat}{w:List ah}{nd:List Nd}{b:Bool}(h1:look m lp=some (.buf 3 [eO w (.own ln 5 0 nd.length) b]))(h2:look m ln=some (.buf 5 (nd.map Nd.D))):
  jj m [[.pt [.sl 1 [.a],.sl 5 [.a,.a,.a,.a,.a],.a]]] [.ptr lp 3 0 0]:=by
 refine⟨⟨by simp[dJ,h1], ?_⟩,trivial⟩;intro e he;simp only[aM,h1,List.mem_singleton]at he;subst he;refine⟨rfl,⟨by simp[dJ,h2], ?_⟩,rfl,rfl⟩;simp only[aM,h2,List.drop_zero,aP];intro e he;obtain⟨x,_,rfl⟩:=List.mem_map.1 he;exact Kc x
def aK (w:List ah):ah:=w.headD []
def ba (w:List ah):List ah:=if aK w=[]then w else w.drop 1
def cr (w:List ah)(b:Bool):Bool:=if aK w=[]then true else b
def ov {w:List ah}{x:ah}(hx:x≠[])(h:aK w=x):∃r,w=x::r:=by
 match w,h with
 |[],h=>exact absurd h.symm hx
 |y::r,h=>exact⟨r,by rw[show y=x from h]⟩
def Gi {w:List ah}(h:¬aK w=[]):1≤w.length:=by
 match w,h with
 |[],h=>exact absurd rfl h
 |_::_,_=>simp
def gR {x:ah}{r:List ah}(hx:x≠[]):ba (x::r)=r:=if_neg hx
def gQ {x:ah}{r:List ah}{b:Bool}(hx:x≠[]):cr (x::r) b=b:=if_neg hx
def DW (w:List ah):ba w<:+w:=by
 unfold ba;split
 ·exact List.suffix_refl _
 ·exact List.drop_suffix 1 w
def ma (w:List ah)(nd:List Nd):PB w nd (ba w) nd:=by
 have h:=DW w;have:=h.length_le;exact⟨this,by omega,h⟩
def zG {w:List ah}{b:Bool}(h:cr w b=false):b=false∧aK w≠[]∧w=aK w::ba w:=by
 unfold cr at h;split at h
 ·cases h
 ·rename_i hs;refine⟨h,hs, ?_⟩
  match w,hs with
  |x::r,hs=>rw[gR (x:=x) (r:=r) hs];rfl
def kl (b:Bool)(k:ah)(w:List ah)(nd:List Nd):PR:=if b=true then none else nb k w nd
def yJ {j:Nat}{k:ah}(hj:j<3)(h:mI[j]! =k):eJ k=(j:Nat):=by
 obtain rfl|rfl|rfl:j=0∨j=1∨j=2:=by omega
 all_goals (subst h;rfl)
def vI {k:ah}(h:0≤eJ k):∃j,j<3∧mI[j]! =k∧eJ k=(j:Nat):=by
 unfold eJ at h⊢;by_cases h1:k=[111,115]
 ·exact⟨0,by omega,h1.symm,by rw[if_pos h1];rfl⟩
 ·by_cases h2:k=[97,114,99,104]
  ·exact⟨1,by omega,h2.symm,by rw[if_neg h1,if_pos h2];rfl⟩
  ·by_cases h3:k=[97,98,105]
   ·exact⟨2,by omega,h3.symm,by rw[if_neg h1,if_neg h2,if_pos h3];rfl⟩
   ·rw[if_neg h1,if_neg h2,if_neg h3]at h;omega
def AA (j:Nat)(k s v:ah)(bad:Bool):Bool:=!(((!decide (mI[j]! =k) ||bad) ||(!decide (s=[61])&& !decide (s=[33,61]))) ||!bI v)
def EX {j:Nat}{k:ah}{w:List ah}{nd:List Nd}{b:Bool}(hj:j<3)(h:AA j k (aK w) (aK (ba w)) (cr (ba w) (cr w b))=true):
  kl b k w nd=some (rj k (aK w) (aK (ba w)) (ba (ba w)) nd)∧eJ k=(j:Nat)∧cr (ba w) (cr w b)=false:=by
 have h0:=h;simp only[AA,Bool.not_or,Bool.and_eq_true,Bool.not_not,decide_eq_true_eq,Bool.not_eq_true',Bool.not_and,Bool.or_eq_true]at h;obtain⟨⟨⟨h1,h2⟩,h3⟩,h4⟩:=h;have hk:=yJ hj h1;obtain⟨g1,g2,g3⟩:=zG h2;obtain⟨g4,g5,g6⟩:=zG g1;refine⟨?_,hk,h2⟩;unfold kl;rw[g4,if_neg (by simp)]
 conv=>lhs;rw[g6,g3]
 simp only[nb];rw[if_pos];simp only[jF,Bool.and_eq_true,Bool.or_eq_true,decide_eq_true_eq];exact⟨⟨by omega,h4⟩,h3⟩
def Ht {k:ah}{w:List ah}{nd:List Nd}{b:Bool}(h:∀j,j<3→AA j k (aK w) (aK (ba w)) (cr (ba w) (cr w b))=false):kl b k w nd=none:=by
 unfold kl;split
 ·rfl
 ·rename_i hb
  match w with
  |[]=>rfl
  |[_]=>rfl
  |s::v::r=>
   simp only[nb];rw[if_neg];intro ha;simp only[jF,Bool.and_eq_true,Bool.or_eq_true,decide_eq_true_eq]at ha;obtain⟨⟨h1,h2⟩,h3⟩:=ha;obtain⟨j,hj,hj2,_⟩:=vI h1;have hs:s≠[]:=by rintro rfl;rcases h3 with h|h<;>cases h
   have hv:v≠[]:=by rintro rfl;cases h2
   have:=h j hj;rw[gR hs,gQ hs,gQ hv]at this;simp only[Bool.not_eq_true]at hb;subst hb;revert this;simp only[AA,aK,List.headD_cons,hj2,h2,decide_true];rcases h3 with rfl|rfl<;>simp
def BC (w:List ah)(nd:List Nd):PB w nd (ba (ba w)) nd:=(ma w nd).trans (ma _ nd)
def sO {b:Bool}{k:ah}{w:List ah}{nd:List Nd}{a:Int}{w':List ah}{nd':List Nd}(h:kl b k w nd=some (a,w',nd')):PB w nd w' nd':=by
 unfold kl at h;split at h
 ·cases h
 ·exact me h
def ER {w:List ah}{nd:List Nd}(h1:aK w≠mK)(h2:aK w≠ez):gI w nd=kl (cr w false) (aK w) (ba w) nd:=by
 match w with
 |[]=>rfl
 |k::r=>
  have h1:k≠mK:=h1;have h2:k≠ez:=h2;rw[sz,if_neg h1,if_neg h2];by_cases hk:k=[]
  ·subst hk;show nb [] r nd=none
   match r with
   |[]=>rfl
   |[_]=>rfl
   |s::v::r=>rfl
  ·rw[gR hk,gQ hk];rfl
def EE {R:PR}{o:PO}{w:List ah}{nd:List Nd}(h:cK R w nd o)(hs:aK o.w≠iF):lv R=none:=by
 rcases h.1 with⟨h1,_⟩|⟨h1,_⟩
 ·rw[h1]
  match ho:o.w,hs with
  |[],_=>rfl
  |x::r,hs=>simp only[lv];exact if_neg hs
 ·rw[h1];rfl
def cK.pb {R:PR}{o:PO}{w:List ah}{nd:List Nd}(h:cK R w nd o):PB w nd o.w o.nd:=h.2
def Cc {r:List ah}{nd:List Nd}{o:PO}(h:cK (gI r nd) r nd o):cK (gI (mK::r) nd) (mK::r) nd ⟨(o.nd.length:Nat),o.w,o.nd++[⟨2,o.a,0,0,[]⟩],o.bad⟩:=by
 refine⟨?_,h.2.tail _⟩;rw[sz,if_pos rfl];rcases h.1 with⟨h1,h2⟩|⟨h1,h2⟩
 ·left;rw[h1];exact⟨rfl,h2⟩
 ·right;rw[h1];exact⟨rfl,h2⟩
def pX (r:List ah)(nd:List Nd):gI (ez::r) nd=lv (fe r nd):=by rw[sz,if_neg (by decide),if_pos rfl]
def yZ {r:List ah}{nd:List Nd}{o:PO}(h:cK (fe r nd) r nd o)(hs:¬aK o.w=iF):cK (gI (ez::r) nd) (ez::r) nd ⟨o.a,ba o.w,o.nd,true⟩:=
 ⟨.inr ⟨by rw[pX,EE h hs],rfl⟩,h.2.qh.trans (ma _ _)⟩
def Fz {r:List ah}{nd:List Nd}{o:PO}(h:cK (fe r nd) r nd o)(hs:aK o.w=iF):cK (gI (ez::r) nd) (ez::r) nd ⟨o.a,ba o.w,o.nd,cr o.w o.bad⟩:=by
 refine⟨?_,h.2.qh.trans (ma _ _)⟩;obtain⟨q,hq⟩:=ov (by decide) hs;rw[pX,hq,gR (by decide),gQ (by decide)];rcases h.1 with⟨h1,h2⟩|⟨h1,h2⟩
 ·left;rw[h1,hq];exact⟨by simp only[lv,if_true],h2⟩
 ·right;rw[h1];exact⟨rfl,h2⟩
def Fy {w:List ah}{nd:List Nd}{o:PO}(hf:gI w nd=kl (cr w false) (aK w) (ba w) nd)(h:cK (kl (cr w false) (aK w) (ba w) nd) (ba w) nd o):cK (gI w nd) w nd o:=
 ⟨by rw[hf];exact h.1,(ma w nd).trans h.2⟩
def Fc {s:ah}{o:PO}(h:cK (fe (aj s 32) []) (aj s 32) [] o)(hc:((o.bad ||decide ((0:Int)<(o.w.length:Nat))) ||!pg o.nd)=true):AM s=none:=by
 unfold AM;rcases h.1 with⟨h1,h2⟩|⟨h1,h2⟩
 ·rw[h1]
  match hw:o.w with
  |[]=>
   simp only[h2,hw,List.length_nil,Bool.false_or]at hc;have:pg o.nd=false:=by simpa using hc
   simp only[this,Bool.false_eq_true,if_false]
  |x::r=>rfl
 ·rw[h1]
def B3 {s:ah}{o:PO}(h:cK (fe (aj s 32) []) (aj s 32) [] o)(hc:((o.bad ||decide ((0:Int)<(o.w.length:Nat))) ||!pg o.nd)=false):AM s=some o.nd:=by
 simp only[Bool.or_eq_false_iff,decide_eq_false_iff_not,Bool.not_eq_false']at hc;unfold AM;rcases h.1 with⟨h1,h2⟩|⟨h1,h2⟩
 ·rw[h1]
  match hw:o.w with
  |[]=>simp only[hc.2,if_true]
  |x::r=>exact absurd hc.1.2 (by rw[hw];simp)
 ·rw[h2]at hc;exact absurd hc.1.1 (by simp)
def B2 {s:ah}{nd:List Nd}(h1:¬96<s.length)(h2:¬s=[])(h:AM s=some nd):gz s=(nd,0):=by simp only[gz,h,if_neg h1,if_neg h2]
def B1 {s:ah}(h1:¬96<s.length)(h2:¬s=[])(h:AM s=none):gz s=([],7):=by simp only[gz,h,if_neg h1,if_neg h2]
def zW (part:List ah→List Nd→PR)(wd:ah)(op:Int)(R:PR)(w:List ah)(nd:List Nd)(o:PO):Prop:=(o.bad=false∧R=BZ part wd op o.a o.w o.nd∨o.bad=true∧R=none)∧PB w nd o.w o.nd
def zW.first {part:List ah→List Nd→PR}{wd:ah}{op:Int}{w:List ah}{nd:List Nd}{o:PO}(h:cK (part w nd) w nd o):zW part wd op (eZ part wd op w nd) w nd o:=by
 refine⟨?_,h.2⟩;rcases h.1 with⟨h1,h2⟩|⟨h1,h2⟩
 ·left;refine⟨h2, ?_⟩;unfold eZ;rw[h1];rfl
 ·right;refine⟨h2, ?_⟩;unfold eZ;rw[h1]
def zW.next {part:List ah→List Nd→PR}(hp:pI part){wd:ah}{op:Int}{R:PR}{w:List ah}{nd:List Nd}{a:Int}{r:List ah}{nd1:List Nd}{o:PO}(h:zW part wd op R w nd ⟨a,wd::r,nd1,false⟩)(h2:cK (part r nd1) r nd1 o):
  zW part wd op R w nd ⟨(o.nd.length:Nat),o.w,o.nd++[⟨op,a,o.a,0,[]⟩],o.bad⟩:=by
 refine⟨?_,h.2.trans (h2.2.tail _)⟩;rcases h.1 with⟨_,h1⟩|⟨h1,_⟩
 ·rw[Df hp]at h1;rcases h2.1 with⟨g1,g2⟩|⟨g1,g2⟩
  ·left;exact⟨g2,by rw[h1,g1]⟩
  ·right;exact⟨g2,by rw[h1,g1]⟩
 ·cases h1
def zW.last {part:List ah→List Nd→PR}{wd:ah}{op:Int}{R:PR}{w:List ah}{nd:List Nd}{o:PO}(h:zW part wd op R w nd o)(hx:o.bad=true∨o.w.head? ≠some wd):cK R w nd o:=by
 refine⟨?_,h.2⟩;rcases h.1 with⟨h1,h2⟩|⟨h1,h2⟩
 ·left;refine⟨?_,h1⟩;rw[h2];unfold BZ;rw[Fa];rcases hx with hx|hx
  ·rw[h1]at hx;cases hx
  ·exact hx
 ·right;exact⟨h2,h1⟩
def ee (w:List ah)(s:ah):Bool:=match w with
 |x::_=>decide (x=s)
 |[]=>false
def k8 (w:List ah)(s:ah):List ah:=if ee w s=true then w.drop 1 else w
def rB (w:List ah)(b:Bool):Bool:=if w=[]then true else b
def j8 {w:List ah}{s:ah}(h:ee w s=true):∃r,w=s::r:=by
 match w,h with
 |x::r,h=>exact⟨r,by rw[show x=s by simpa[ee]using h]⟩
def pj (s:ah)(r:List ah):ee (s::r) s=true:=by simp[ee]
def iX (s:ah)(r:List ah):k8 (s::r) s=r:=by unfold k8;rw[if_pos (pj s r)];rfl
def lS {w:List ah}{s:ah}(h:ee w s=false):k8 w s=w:=by unfold k8;rw[if_neg (by rw[h];simp)]
def tC {w:List ah}{s:ah}(h:ee w s=false):w.head? ≠some s:=by
 match w,h with
 |[],_=>simp
 |x::r,h=>intro e;have e:x=s:=(by simpa using e);subst e;rw[pj]at h;cases h
def Cq {W w:List ah}(h:w<:+W)(hw:1≤w.length):W.length-w.length<W.length∧W[W.length-w.length]! =w[0]! :=by
 have hl:=h.length_le;have he:=List.suffix_iff_eq_drop.1 h;refine⟨by omega, ?_⟩;have h1:(W.drop (W.length-w.length))[0]! =w[0]! :=by rw[←he]
 rw[←h1];have h2:W.length-w.length<W.length:=by omega
 simp[h2]
def B7 {W w:List ah}(h:w<:+W)(s:ah):(decide (((W.length-w.length:Nat):Int)<(W.length:Nat))&&decide (W[W.length-w.length]! =s))=ee w s:=by
 have hl:=h.length_le
 match w with
 |[]=>
  have:decide (((W.length-([]:List ah).length:Nat):Int)<(W.length:Nat))=false:=decide_eq_false (by simp);rw[this];rfl
 |x::r=>
  obtain⟨h1,h2⟩:=Cq h (by simp);rw[h2,decide_eq_true (by omega),Bool.true_and];rfl
def Cj {W:List ah}{x:ah}{r:List ah}{X:D}{b:Bool}(h:(x::r).length≤W.length):sj (fk W (x::r) X b) 4 1 1 (.int .i64 (((W.length-(x::r).length:Nat):Int)+1))=fk W r X b:=by
 have:((W.length-(x::r).length:Nat):Int)+1=((W.length-r.length:Nat):Int):=by simp only[List.length_cons]at h⊢;omega
 rw[this];rfl
def ta (w:List ah)(nd:List Nd):PR:=match w with
 |k::r=>nb k r nd
 |[]=>none
def BU (k:ah)(i:Nat):Int:=if eJ k<i then eJ k else-1
def BV (k:ah):-1≤eJ k:=by
 unfold eJ;split
 ·decide
 ·split
  ·decide
  ·split<;>decide
def HC (k:ah):eJ k<3:=by
 unfold eJ;split
 ·decide
 ·split
  ·decide
  ·split<;>decide
def HB {k:ah}{i:Nat}(hi:i<3)(h:oB (i:Int)=k):BU k (i+1)=(i:Int):=by
 have:eJ k=(i:Nat):=yJ hi (by rw[←h];exact od (k:=(i:Int)) (by omega) (by omega));unfold BU;rw[this,if_pos (by omega)]
def J6 {k:ah}{i:Nat}(hi:i<3)(h:¬oB (i:Int)=k):BU k (i+1)=BU k i:=by
 have h1:eJ k≠(i:Nat):=by
  intro e;obtain⟨j,hj,hj2,hj3⟩:=vI (k:=k) (by omega);have:j=i:=by omega
  subst this;exact h (by rw[←hj2];exact(od (k:=(j:Int)) (by omega) (by omega)).symm)
 have:=BV k;unfold BU;by_cases h2:eJ k<i
 ·rw[if_pos (by omega),if_pos h2]
 ·rw[if_neg (by omega),if_neg h2]
def NS (k:ah):BU k 0=-1:=by
 have:=BV k;unfold BU;split
 ·omega
 ·rfl
def NT (k:ah):BU k 3=eJ k:=by
 have:=HC k;unfold BU;rw[if_pos (by omega)]
def vo (k s v:ah):(((decide (eJ k<0) ||!bI v)) ||(!decide (s=[61])&& !decide (s=[33,61])))=!jF k s v:=by
 unfold jF;rw[show decide (0≤eJ k)=!decide (eJ k<0)from by rw[←decide_not];exact decide_eq_decide.2 (by omega)];generalize decide (eJ k<0)=a;generalize bI v=b;generalize decide (s=[61])=c;generalize decide (s=[33,61])=d;cases a<;>cases b<;>cases c<;>cases d<;>rfl
def CN {w:List ah}{nd:List Nd}(h:jF (aK w) (aK (w.drop 1)) (aK ((w.drop 1).drop 1))=true):∃r,w=aK w::aK (w.drop 1)::aK ((w.drop 1).drop 1)::r∧ta w nd=some (rj (aK w) (aK (w.drop 1)) (aK ((w.drop 1).drop 1)) r nd):=by
 match w,h with
 |[],h=>cases h
 |[_],h=>simp[jF,aK,bI]at h
 |[_,_],h=>simp[jF,aK,bI]at h
 |k::s::v::r,h=>exact⟨r,rfl,by simp only[ta,nb];exact if_pos h⟩
def EA {w:List ah}{nd:List Nd}(h:jF (aK w) (aK (w.drop 1)) (aK ((w.drop 1).drop 1))=false):ta w nd=none:=by
 match w,h with
 |[],h=>rfl
 |[_],h=>rfl
 |[_,_],h=>rfl
 |k::s::v::r,h=>simp only[ta,nb];exact if_neg (by rw[show jF k s v=false from h];simp)
def wX (w:List ah)(nd:List Nd):PB w nd (w.drop 1) nd:=by
 have h:w.drop 1<:+w:=List.drop_suffix 1 w;have:=h.length_le;exact⟨this,by omega,h⟩
def vz {w:List ah}{nd:List Nd}{a:Int}{w':List ah}{nd':List Nd}(h:ta w nd=some (a,w',nd')):PB w nd w' nd':=by
 match w,h with
 |k::r,h=>exact(me h).qh
def JY {w:List ah}{nd:List Nd}(h1:ee w mK=false)(h2:ee w ez=false):gI w nd=ta w nd:=by
 match w,h1,h2 with
 |[],_,_=>rfl
 |k::r,h1,h2=>
  have h1:¬k=mK:=by simpa[ee]using h1
  have h2:¬k=ez:=by simpa[ee]using h2
  rw[sz,if_neg h1,if_neg h2];rfl
def CU {R:PR}{o:PO}{w:List ah}{nd:List Nd}(h:cK R w nd o)(hs:ee o.w iF=false):lv R=none:=by
 rcases h.1 with⟨h1,_⟩|⟨h1,_⟩
 ·rw[h1]
  match ho:o.w,hs with
  |[],_=>rfl
  |x::r,hs=>simp only[lv];exact if_neg (by simpa[ee]using hs)
 ·rw[h1];rfl
def xp {r:List ah}{nd:List Nd}{o:PO}(h:cK (fe r nd) r nd o)(hs:ee o.w iF=false):cK (gI (ez::r) nd) (ez::r) nd ⟨o.a,o.w,o.nd,true⟩:=
 ⟨.inr ⟨by rw[pX,CU h hs],rfl⟩,h.2.qh⟩
def Dt {r:List ah}{nd:List Nd}{o:PO}{q:List ah}(h:cK (fe r nd) r nd o)(hs:o.w=iF::q):cK (gI (ez::r) nd) (ez::r) nd ⟨o.a,q,o.nd,o.bad⟩:=by
 refine⟨?_,(h.2.qh (x:=ez)).trans (by rw[hs];exact(PB.refl _ _).qh)⟩;rw[pX];rcases h.1 with⟨h1,h2⟩|⟨h1,h2⟩
 ·left;rw[h1,hs];exact⟨by simp only[lv,if_true],h2⟩
 ·right;rw[h1];exact⟨rfl,h2⟩
def PB.Ea {w w':List ah}{nd nd':List Nd}{W:List ah}(h:PB w nd w' nd')(hW:w<:+W):w'<:+W:=h.2.2.trans hW
def qC (f:Nat→Int):Nat→Nat→Int
 |_,0=>0
 |i,k+1=>if f i=0 then qC f (i+1) k else f i
def ig (f:Nat→Int)(i n:Nat):Int:=qC f i (n-i)
def n8 {f:Nat→Int}{i n:Nat}(h:i<n)(hf:f i=0):ig f i n=ig f (i+1) n:=by
 unfold ig;obtain⟨k,hk⟩:∃k,n-i=k+1:=⟨n-i-1,by omega⟩
 rw[hk,show n-(i+1)=k by omega];simp only[qC,hf,if_true]
def kn {f:Nat→Int}{i n:Nat}(h:i<n)(hf:f i≠0):ig f i n=f i:=by
 unfold ig;obtain⟨k,hk⟩:∃k,n-i=k+1:=⟨n-i-1,by omega⟩
 rw[hk];simp only[qC,hf,if_false]
def n7 {f:Nat→Int}{i n:Nat}(h:n≤i):ig f i n=0:=by
 unfold ig;rw[show n-i=0 by omega];rfl
def ml (f:Nat→Int):Nat→Nat→Int×Int
 |_,0=>(0,0)
 |i,k+1=>if f i=0 then ml f (i+1) k else(f i,((i:Nat):Int))
def fA (f:Nat→Int)(i n:Nat):Int×Int:=ml f i (n-i)
def j6 {f:Nat→Int}{i n:Nat}(h:i<n)(hf:f i=0):fA f i n=fA f (i+1) n:=by
 unfold fA;obtain⟨k,hk⟩:∃k,n-i=k+1:=⟨n-i-1,by omega⟩
 rw[hk,show n-(i+1)=k by omega];simp only[ml,hf,if_true]
def gK {f:Nat→Int}{i n:Nat}(h:i<n)(hf:f i≠0):fA f i n=(f i,((i:Nat):Int)):=by
 unfold fA;obtain⟨k,hk⟩:∃k,n-i=k+1:=⟨n-i-1,by omega⟩
 rw[hk];simp only[ml,hf,if_false]
def j5 {f:Nat→Int}{i n:Nat}(h:n≤i):fA f i n=(0,0):=by
 unfold fA;rw[show n-i=0 by omega];rfl
def dX (r:Rec)(name rng:ah):Int:=if ey name=false then 4 else if name=r.name then 8 else if mC rng=false then 6 else 0
def Ib (l:List ah)(i:Nat):Bool:=bI l[i]! && !(decide (0<i)&& !Op.bytesLess l[i-1]! l[i]!)
def iG (l:List ah)(alone:Bool):Bool:=(decide (l.length≤6)&&(alone ||decide (l.length=0)))&&bJ (Ib l) 0 l.length
def fW (r:Rec)(w:bN)(alone:Bool):Int:=if dX r w.name w.range≠0 then dX r w.name w.range else if iG w.feats alone=false then 11 else 0
def lh (r:Rec)(l:List bN):Int:=ig (fun i=>fW r l[i]! (decide ((l.length:Int)=1))) 0 l.length
def eR (r:Rec)(n:bF):Int:=if n.any.length=0 then 9 else if 3<n.any.length then 3 else if lh r n.any≠0 then lh r n.any else
 if kZ n.when'=false then 7 else if n.option≠[]∧bI n.option=false then 14 else 0
def mL (r:Rec)(b:iJ):Int:=if dX r b.name b.range≠0 then dX r b.name b.range else if kZ b.when'=false then 7 else 0
def AR (l:List bF)(x:ah):Bool:=l.any fun n=>decide (n.option=x)
def tQ (l:List bF)(x:ah):Bool:=l.any fun n=>decide (n.any.length=1)&&decide (n.any[0]!.name=x)
def jq (r:Rec)(s:ah):Int:=if(b6 s).1=2∧AR r.needs (b6 s).2.1=false then 14 else if(b6 s).1=3∧tQ r.needs (b6 s).2.1=false then 16 else 0
def im (r:Rec)(of:List ah):Int:=ig (fun i=>jq r of[i]!) 0 of.length
def kD (r:Rec):Int×Int:=fA (fun i=>eR r r.needs[i]!) 0 r.needs.length
def pL (r:Rec):Int×Int:=fA (fun i=>mL r r.bars[i]!) 0 r.bars.length
def wZ (r:Rec):Int×Int:=fA (fun i=>im r r.feats[i]!.of) 0 r.feats.length
def cT (r:Rec):Int×Int:=if(kD r).1≠0 then kD r else if(pL r).1≠0 then pL r else if eI r.feats=false then(11,0)else wZ r
def Gr (n:Nat)(al:Bool):(decide ((6:Int)<(n:Nat)) ||(decide ((0:Int)<(n:Nat))&& !al))=!(decide (n≤6)&&(al ||decide (n=0))):=by
 rw[show decide ((6:Int)<(n:Nat))=!decide (n≤6)from by rw[←decide_not];exact decide_eq_decide.2 (by omega),show decide ((0:Int)<(n:Nat))=!decide (n=0)from by rw[←decide_not];exact decide_eq_decide.2 (by omega)];generalize decide (n≤6)=a;generalize decide (n=0)=b;cases a<;>cases b<;>cases al<;>rfl
def OK (l:List ah)(i:Nat):(!bI l[i]! ||(decide ((0:Int)<(i:Nat))&& !Op.bytesLess l[i-1]! l[i]!))=!Ib l i:=by
 unfold Ib;rw[show decide ((0:Int)<(i:Nat))=decide (0<i)from decide_eq_decide.2 (by omega)];generalize bI l[i]! =a;generalize decide (0<i)=b;generalize Op.bytesLess l[i-1]! l[i]! =c;cases a<;>cases b<;>cases c<;>rfl
def wf_2 (l:List ah)(al:Bool):(bJ (fun i=>bI l[i]!) 0 l.length&&((decide (l.length≤6)&&rising l)&&(al ||decide (l.length=0))))=iG l al:=by
 have h1:bJ (Ib l) 0 l.length=(bJ (fun i=>bI l[i]!) 0 l.length&&rising l):=by
  rw[Bool.eq_iff_iff,Bool.and_eq_true];unfold rising;simp only[dy,Ib,Bool.and_eq_true,Bool.not_eq_true',Bool.and_eq_false_iff,decide_eq_false_iff_not,Bool.not_eq_false'];constructor
  ·intro h;exact⟨fun j a b=>(h j a b).1,fun j a b=>((h j (by omega) b).2).resolve_left (by omega)⟩
  ·rintro⟨h1,h2⟩ j a b;exact⟨h1 j a b,by by_cases hj:0<j;exact .inr (h2 j (by omega) b);exact .inl hj⟩
 unfold iG;rw[h1];generalize bJ (fun i=>bI l[i]!) 0 l.length=a;generalize decide (l.length≤6)=b;generalize rising l=c;generalize decide (l.length=0)=d;cases a<;>cases b<;>cases c<;>cases d<;>cases al<;>rfl
def GB (k:Int)(x:ah)(n:bF):Bool:=(decide (k=2)&&decide (n.option=x)) ||((decide (k=3)&&decide ((n.any.length:Int)=1))&&decide (n.any[0]!.name=x))
def J5 (k:Int):Int:=if k=2 then 14 else if k=3 then 16 else 0
def E5 (r:Rec)(s:ah):jq r s=if r.needs.any (GB (b6 s).1 (b6 s).2.1)=true then 0 else J5 (b6 s).1:=by
 unfold jq J5 AR tQ;generalize (b6 s).1=k;generalize (b6 s).2.1=x;by_cases h2:k=2
 ·subst h2;have:GB 2 x=fun n=>decide (n.option=x):=by funext n;simp[GB]
  rw[this];cases r.needs.any fun n=>decide (n.option=x)<;>simp
 ·by_cases h3:k=3
  ·subst h3;have:GB 3 x=fun n=>decide (n.any.length=1)&&decide (n.any[0]!.name=x):=by
    funext n;simp only[GB];rw[show decide ((n.any.length:Int)=1)=decide (n.any.length=1)from decide_eq_decide.2 (by omega)];simp
   rw[this];cases r.needs.any fun n=>decide (n.any.length=1)&&decide (n.any[0]!.name=x)<;>simp
  ·have:GB k x=fun _=>false:=by funext n;simp[GB,h2,h3]
   rw[this];simp[h2,h3]
def wL {α:Type} [Inhabited α]{c:α→Bool}{l:List α}{i:Nat}(h:i<l.length)(hc:c l[i]! =true):(l.drop i).any c=true:=by
 rw[List.drop_eq_getElem_cons h,List.any_cons];have:l[i]! =l[i]:=by simp[h]
 rw[←this,hc,Bool.true_or]
def Af {α:Type} [Inhabited α]{c:α→Bool}{l:List α}{i:Nat}(h:i<l.length)(hc:c l[i]! =false):(l.drop i).any c=(l.drop (i+1)).any c:=by
 rw[List.drop_eq_getElem_cons h,List.any_cons];have:l[i]! =l[i]:=by simp[h]
 rw[←this,hc,Bool.false_or]
def wK {α:Type}{c:α→Bool}{l:List α}{i:Nat}(h:l.length≤i):(l.drop i).any c=false:=by
 rw[List.drop_eq_nil_of_le h];rfl
def jA:ah:=[110,101,101,100]
def jz:ah:=[97,110,121]
def kL:ah:=[119,104,101,110]
def dW:ah:=[111,112,116,105,111,110]
def j4:ah:=[98,97,114]
def cN:ah:=[102,101,97,116,117,114,101]
def dF:ah:=[112,97,99,107,97,103,101]
def kK:ah:=[102,117,108,108]
def gB:ah:=[98,97,114,101]
def bK (l:List ah):ah:=aO [32] l++[10]
def nU (w:bN):List ah:=[jz,w.name,if w.feats.length=0 then [45]else aO [44] w.feats,if w.bare=true then gB else kK,w.range]
def fV (s:ah):ah:=if s=[]then []else bK [kL,s]
def qc (s:ah):ah:=if s=[]then []else bK [dW,s]
def rA (n:bF):ah:=bK [jA]++(n.any.map fun w=>bK (nU w)).flatten++fV n.when'++qc n.option
def wP (b:iJ):ah:=bK [j4,b.name,b.range]++fV b.when'
def pY (f:bz):ah:=bK ([cN,f.name]++f.of)
def oN (r:Rec):ah:=bK [dF,r.name,kJ r.v]
def mJ (r:Rec):ah:=oN r++(r.needs.map rA).flatten++(r.bars.map wP).flatten++(r.feats.map pY).flatten
def bS (r:Rec):Int×Int:=if ey r.name=false then(4,0)else if iD r.v=false then(5,0)else if 8<r.needs.length∨8<r.bars.length then(3,0)else
 if(cT r).1≠0 then cT r else if 4096<(mJ r).length then(3,0)else(0,0)
def df (r:Rec):ah×Int:=if(bS r).1≠0 then([],(bS r).1)else(mJ r,0)
def bN.sm (w:bN):Prop:=(w.name.length≤1048576∧w.range.length≤1048576)∧∀t∈w.feats,t.length≤1048576
def bF.sm (n:bF):Prop:=(∀w∈n.any,w.sm)∧n.when'.length≤1048576∧n.option.length≤1048576
def iJ.sm (b:iJ):Prop:=b.name.length≤1048576∧b.range.length≤1048576∧b.when'.length≤1048576
def dx (r:Rec):Prop:=(r.name.length≤1048576∧r.v.sm)∧(∀n∈r.needs,n.sm)∧(∀b∈r.bars,b.sm)∧mj r.feats
def y0 {r:Rec}{e:Int×Int}(h:kD r=e)(hn:e.1≠0):cT r=e:=by rw[cT,if_pos (by rw[h];exact hn),h]
def tM {r:Rec}{e:Int×Int}(h0:kD r=(0,0))(h:pL r=e)(hn:e.1≠0):cT r=e:=by rw[cT,if_neg (by rw[h0];simp),if_pos (by rw[h];exact hn),h]
def y5 {r:Rec}(h0:kD r=(0,0))(h1:pL r=(0,0))(h:eI r.feats=false):cT r=(11,0):=by rw[cT,if_neg (by rw[h0];simp),if_neg (by rw[h1];simp),if_pos h]
def qd {r:Rec}{e:Int×Int}(h0:kD r=(0,0))(h1:pL r=(0,0))(h:eI r.feats=true)(h2:wZ r=e):cT r=e:=by rw[cT,if_neg (by rw[h0];simp),if_neg (by rw[h1];simp),if_neg (by rw[h];simp),h2]
def yA (f:Nat→Int):∀(k i:Nat),(ml f i k).1=0→ml f i k=(0,0)
 |0,_,_=>rfl
 |k+1,i,h=>by
  simp only[ml]at h⊢;by_cases hf:f i=0
  ·rw[if_pos hf]at h⊢;exact yA f k (i+1) h
  ·rw[if_neg hf]at h;exact absurd h hf
def y6 {r:Rec}(h:(cT r).1=0):cT r=(0,0):=by
 unfold cT at h⊢;split
 ·rename_i h1;rw[if_pos h1]at h;exact absurd h h1
 ·rename_i h1;rw[if_neg h1]at h;split
  ·rename_i h2;rw[if_pos h2]at h;exact absurd h h2
  ·rename_i h2;rw[if_neg h2]at h;split
   ·rename_i h3;rw[if_pos h3]at h;cases h
   ·rename_i h3;rw[if_neg h3]at h;exact yA _ _ _ h
def lK {r:Rec}{e:Int×Int}(h0:ey r.name=true)(h1:iD r.v=true)(h2:¬8<r.needs.length)(h3:¬8<r.bars.length)(hp:cT r=e)(hn:e.1≠0):bS r=e:=by
 rw[bS,if_neg (by simp[h0]),if_neg (by simp[h1]),if_neg (by rintro(h|h);exact h2 h;exact h3 h),if_pos (by rw[hp];exact hn),hp]
def pQ {r:Rec}(h0:ey r.name=true)(h1:iD r.v=true)(h2:¬8<r.needs.length)(h3:¬8<r.bars.length)(hp:cT r=(0,0)):bS r=if 4096<(mJ r).length then(3,0)else(0,0):=by
 rw[bS,if_neg (by simp[h0]),if_neg (by simp[h1]),if_neg (by rintro(h|h);exact h2 h;exact h3 h),if_neg (by rw[hp];simp)]
def oM (r:Rec):Prop:=(ey r.name=true∧iD r.v=true)∧(r.needs.length≤8∧r.bars.length≤8)∧cT r=(0,0)
def oW (n:Nat)(l:List ah):List ah:=if l.length≤n then l else l.take (n-1)++[aO [32] (l.drop (n-1))]
def dj (n:Nat)(op:Bool)(t:ah):List ah:=if op=true then oW n (aj t 32)else aj t 32
def kE (w:ah)(n:Nat)(op:Bool)(t:ah):Option (List ah):=
 if(dj n op t)[0]! =w∧(n=0∨(dj n op t).length=n)∧[]∉dj n op t then some (dj n op t)else none
def bM (w:ah)(n:Nat)(op:Bool):List ah→Option (List ah×List ah)
 |[]=>none
 |t::r=>match kE w n op t with
  |some l=>some (l,r)
  |none=>none
def bH (ls:List ah):ah×List ah:=match bM kL 2 true ls with
 |some (l,r)=>(l[1]!,r)
 |none=>([],ls)
def ry (l:List ah):Bool:=decide (l[3]! =gB) ||decide (l[3]! =kK)
def gr (l:List ah):bN:=⟨l[1]!,l[4]!,if l[2]! =[45]then []else aj l[2]! 44,decide (l[3]! =gB)⟩
def cv:List ah→List bN×List ah
 |[]=>([],[])
 |t::r=>match kE jz 5 true t with
  |some l=>if ry l=true then(gr l::(cv r).1,(cv r).2)else([],t::r)
  |none=>([],t::r)
def qK (ls:List ah):ah×List ah:=match bM dW 2 false ls with
 |some (l,r)=>(l[1]!,r)
 |none=>([],ls)
def dw (ls:List ah):bF×List ah:=(⟨(cv ls).1,(bH (cv ls).2).1,(qK (bH (cv ls).2).2).1⟩,(qK (bH (cv ls).2).2).2)
def jK:Nat→List ah→List bF×List ah
 |0,ls=>([],ls)
 |f+1,ls=>match bM jA 1 false ls with
  |some (_,r)=>((dw r).1::(jK f (dw r).2).1,(jK f (dw r).2).2)
  |none=>([],ls)
def mG:Nat→List ah→List iJ×List ah
 |0,ls=>([],ls)
 |f+1,ls=>match bM j4 3 true ls with
  |some (l,r)=>(⟨l[1]!,l[2]!,(bH r).1⟩::(mG f (bH r).2).1,(mG f (bH r).2).2)
  |none=>([],ls)
def dZ:List ah→List bz×List ah
 |[]=>([],[])
 |t::r=>match kE cN 0 false t with
  |some l=>if 2≤l.length then(⟨l[1]!,l.drop 2⟩::(dZ r).1,(dZ r).2)else([],t::r)
  |none=>([],t::r)
def oF:Rec:=⟨[],iE,[],[],[]⟩
def fE (ls:List ah):List bF×List ah:=jK ls.length ls
def kT (ls:List ah):List iJ×List ah:=mG ls.length ls
def sS (nm:ah)(v:dc)(r:List ah):Rec×List ah:=(⟨nm,v,(fE r).1,(kT (fE r).2).1,(dZ (kT (fE r).2).2).1⟩,(dZ (kT (fE r).2).2).2)
def qR (ls:List ah):Option (Rec×List ah):=match bM dF 3 false ls with
 |some (l,r)=>match mV l[2]! with
  |some v=>some (sS l[1]! v r)
  |none=>none
 |none=>none
def iW {w:ah}{n:Nat}{op:Bool}{ls l r:List ah}(h:bM w n op ls=some (l,r)):r.length+1=ls.length:=by
 match ls,h with
 |t::q,h=>
  simp only[bM]at h;split at h
  ·cases h;rfl
  ·cases h
 |[],h=>cases h
def rb (ls:List ah):(bH ls).2.length≤ls.length:=by
 unfold bH;split
 ·rename_i l r h;have:=iW h;simp only;omega
 ·exact Nat.le_refl _
def Fu (ls:List ah):(qK ls).2.length≤ls.length:=by
 unfold qK;split
 ·rename_i l r h;have:=iW h;simp only;omega
 ·exact Nat.le_refl _
def rQ:∀ls:List ah,(cv ls).2.length≤ls.length
 |[]=>Nat.le_refl _
 |t::r=>by
  have:=rQ r;simp only[cv];split
  ·split
   ·simp only[List.length_cons];omega
   ·exact Nat.le_refl _
  ·exact Nat.le_refl _
def vO (ls:List ah):(dw ls).2.length≤ls.length:=by
 have h1:=rQ ls;have h2:=rb (cv ls).2;have h3:=Fu (bH (cv ls).2).2;show(qK (bH (cv ls).2).2).2.length≤_;omega
def vP:∀(f g:Nat)(ls:List ah),ls.length≤f→ls.length≤g→jK f ls=jK g ls
 |0,0,_,_,_=>rfl
 |0,g+1,ls,h,_=>by
  have:ls=[]:=List.length_eq_zero_iff.1 (by omega);subst this;rfl
 |f+1,0,ls,_,h=>by
  have:ls=[]:=List.length_eq_zero_iff.1 (by omega);subst this;rfl
 |f+1,g+1,ls,hf,hg=>by
  simp only[jK];cases h:bM jA 1 false ls with
  |none=>rfl
  |some p=>
   obtain⟨l,r⟩:=p;have h1:=iW h;have h2:=vO r;simp only;rw[vP f g _ (by omega) (by omega)]
def ym:∀(f g:Nat)(ls:List ah),ls.length≤f→ls.length≤g→mG f ls=mG g ls
 |0,0,_,_,_=>rfl
 |0,g+1,ls,h,_=>by
  have:ls=[]:=List.length_eq_zero_iff.1 (by omega);subst this;rfl
 |f+1,0,ls,_,h=>by
  have:ls=[]:=List.length_eq_zero_iff.1 (by omega);subst this;rfl
 |f+1,g+1,ls,hf,hg=>by
  simp only[mG];cases h:bM j4 3 true ls with
  |none=>rfl
  |some p=>
   obtain⟨l,r⟩:=p;have h1:=iW h;have h2:=rb r;simp only;rw[ym f g _ (by omega) (by omega)]
def yT {ls l r:List ah}(h:bM jA 1 false ls=some (l,r)):fE ls=((dw r).1::(fE (dw r).2).1,(fE (dw r).2).2):=by
 have h1:=iW h;have h2:=vO r;unfold fE;rw[←h1];simp only[jK,h];rw[vP r.length (dw r).2.length _ h2 (Nat.le_refl _)]
def yS {ls:List ah}(h:bM jA 1 false ls=none):fE ls=([],ls):=by
 unfold fE
 match ls,h with
 |[],_=>rfl
 |t::r,h=>simp only[List.length_cons,jK,h]
def Ak {ls l r:List ah}(h:bM j4 3 true ls=some (l,r)):kT ls=(⟨l[1]!,l[2]!,(bH r).1⟩::(kT (bH r).2).1,(kT (bH r).2).2):=by
 have h1:=iW h;have h2:=rb r;unfold kT;rw[←h1];simp only[mG,h];rw[ym r.length (bH r).2.length _ h2 (Nat.le_refl _)]
def Aj {ls:List ah}(h:bM j4 3 true ls=none):kT ls=([],ls):=by
 unfold kT
 match ls,h with
 |[],_=>rfl
 |t::r,h=>simp only[List.length_cons,mG,h]
structure RdS where
 r:Rec
 st:Nat
 deriving Inhabited
end Go.Abs
