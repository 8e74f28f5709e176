/- A part of the proofs of the statements: AbsZ, LAsmG, LAsmR, RData, LPlain1, LPlain2, LPlain3, RSpec1, RSpec2, RSpec3, RSpec4, RSpec5, RSpec6, RPrs, RSpec7, RSpec8, RSpec9, RSpec10, RSpec11. -/
import Derived.Test.YtpdlhpamcaocgaaGreatDoorP04
set_option linter.all false
set_option maxRecDepth 4000
section
namespace Go.Abs
variable [bX]
section
variable {P:Program} {ν:List (Nat×Nat)} {bC:List Nat} {Γ:Ctx}
def RD.re {x x':X}{σ:List (Nat×Nat)}(hw:x'.w=x.w)(hI:x'.I=x.I)(hβ:∀l l',kD 0 σ l=some l'→x'.β l'=x.β l){v:Value}{d d':D}(hv:RD ν x v d)(hd:GU 0 σ d d'):RD ν x' v d':=by
 rcases hd with⟨rfl,hn⟩|hd|hd
 ·exact hv.aL hn (fun _ h=>by rw[hI];exact h) (fun _ _=>by rw[hw])
 ·exact RD.rn (x:=x) (x':=x') hw hI hβ hv _ hd
 ·exact RD.nl (x:=x) (x':=x') hw hI hv _ hd
def ko.re {x x':X}{σ:List (Nat×Nat)}(hw:x'.w=x.w)(hI:x'.I=x.I)(hβ:∀l l',kD 0 σ l=some l'→x'.β l'=x.β l){b base tot:Nat}{b0 blk:aW}(o2:ko ν x b base tot b0)(q3:nZ 0 σ b0 blk):ko ν x' b base tot blk:=by
 cases b0 with
 |iter s p=>
  cases blk with
  |iter s' p'=>simp only[nZ]at q3;obtain⟨rfl,rfl⟩:=q3;simp only[ko,hw]at o2⊢;exact o2
  |_=>simp[nZ]at q3
 |row s=>
  cases blk with
  |row s'=>simp only[nZ]at q3;subst q3;simp only[ko,hw]at o2⊢;exact o2
  |_=>simp[nZ]at q3
 |bld o n u=>
  cases blk with
  |bld o' n' u'=>
   simp only[nZ]at q3;obtain⟨q3,rfl,rfl⟩:=q3;obtain⟨p1,v,p2,p3⟩:=o2;refine⟨p1,v,by rw[hw];exact p2, ?_⟩;cases o with
   |none=>simp only at q3;subst q3;exact p3
   |some l0=>
    obtain⟨l1,q4,rfl⟩:=q3;obtain⟨g,t,p4,p5,p6⟩:=p3;exact⟨g,t,p4,p5,by rw[hβ l0 l1 q4];exact p6⟩
  |_=>simp[nZ]at q3
 |buf k es=>
  cases blk with
  |iter s' p'=>simp[nZ]at q3
  |row s'=>simp[nZ]at q3
  |bld o' n' u'=>simp[nZ]at q3
  |buf k' es'=>
   simp only[nZ]at q3;obtain⟨rfl,q3⟩:=q3;obtain⟨p1,p2,cc,T,fr,p3,p4,p5,p6⟩:=o2;rw[←hw]at p3;rcases q3 with⟨rfl,hn⟩|q3|q3
   ·exact⟨p1,p2,cc,T,fr,p3,p4,p5,fun i hi=>⟨(p6 i hi).1,fun j hj=>⟨((p6 i hi).2 j hj).1,RD.re hw hI hβ ((p6 i hi).2 j hj).2 (.inl ⟨rfl,hZ (bU hn i) j⟩)⟩⟩⟩
   ·obtain⟨r1,r2⟩:=iK q3;refine⟨p1,by omega,cc,T,fr,p3,p4,p5,fun i hi=>?_⟩;have hi':i<es.length:=by omega
    obtain⟨s1,s2⟩:=wx (r2 i hi');exact⟨s1.trans (p6 i hi').1,fun j hj=>⟨((p6 i hi').2 j hj).1,RD.re hw hI hβ ((p6 i hi').2 j hj).2 (.inr (.inl (s2 j (by rw[(p6 i hi').1];exact hj))))⟩⟩
   ·obtain⟨r1,r2⟩:=mn q3;refine⟨p1,by omega,cc,T,fr,p3,p4,p5,fun i hi=>?_⟩;have hi':i<es.length:=by omega
    obtain⟨s1,s2⟩:=vC (r2 i hi');exact⟨s1.trans (p6 i hi').1,fun j hj=>⟨((p6 i hi').2 j hj).1,RD.re hw hI hβ ((p6 i hi').2 j hj).2 (.inr (.inr (s2 j (by rw[(p6 i hi').1];exact hj))))⟩⟩
def Ce {lo c:Nat}{σ:List (Nat×Nat)}{l l':Nat}(h0:eR 0 c σ=true)(h:kD 0 σ l=some l'):l'<c∧(l,l')∈σ:=by
 obtain⟨h1,h2⟩:=pY h0 h;rcases h2 with⟨h2,_⟩|⟨_,h2⟩
 ·omega
 ·exact⟨h1,h2⟩
def pT {c:Nat}:∀{σ:List (Nat×Nat)}{a b:Nat},eR 0 c σ=true→(a,b)∈σ→kD 0 σ a=some b
 |[],a,b,_,h=>by cases h
 |(a0,b0)::r,a,b,h0,h=>by
  unfold kD;simp only[eR,Bool.and_eq_true,List.all_eq_true,Bool.not_eq_true']at h0;obtain⟨_,_,p4,p5⟩:=h0;rcases List.mem_cons.1 h with h|h
  ·simp only[Prod.mk.injEq]at h;obtain⟨rfl,rfl⟩:=h;simp
  ·have:=(p4 _ h).1;simp only at this;have hne:Nat.beq a0 a=false:=by
    cases hb:Nat.beq a0 a with
    |false=>rfl
    |true=>obtain rfl:=Nat.eq_of_beq_eq_true hb;simp at this
   rw[hne];exact pT p5 h
structure Fr (σi σo:List (Nat×Nat))(q q1:Nat)(m0 m1:List (Nat×aW))(st st':St):Prop where
 oki:eR 0 q σi=true
 oko:eR 0 st'.nx σo=true
 nx:st.nx≤st'.nx
 lt:∀l i,(l,i)∈σi→look st.m l≠none
 io:∀i l,(i,l)∈σo→(l,i)∈σi∨st.nx≤l
 m0:∀i b,look m0 i=some b→∃l b',(l,i)∈σi∧look st.m l=some b'∧nZ 0 σi b' b
 m1:∀l b,look st'.m l=some b→(∃i b1,(i,l)∈σo∧look m1 i=some b1∧nZ 0 σo b1 b)∨(jM σo l=none∧(∀i,(l,i)∉σi)∧look st.m l=some b)
def Hy {fid:Nat}{fn:Func}{af:aB}{K:D→St→Prop}(hΓ:Ok P ν bC Γ)(hmix:P.follows .mixedOrders=true)(hf:P.funcs[fid]? =some fn)(hc:compile P ν bC fn=some af)
  {x:X} {args:Array Value} {ds cs:List D} {st:St} {σi:List (Nat×Nat)} {q:Nat} {m0:List (Nat×aW)} (hl:args.size=ds.length) (hargs:∀i,i<ds.length→RD ν x (args.getD i undef) (ds.getD i .any))
  (hs:dx ν x (look st.m)) (hfr:dt st x) (hlen:cs.length=ds.length) (hds:∀i,i<ds.length→GU 0 σi (ds.getD i .any) (cs.getD i .any)) (hnp:cs.length=af.np)
  (oki:eR 0 q σi=true) (hlt:∀l i,(l,i)∈σi→look st.m l≠none) (hm0:∀i b,look m0 i=some b→∃l b',(l,i)∈σi∧look st.m l=some b'∧nZ 0 σi b' b)
  (hw:bB (Γ.at q) af.body (fun e env st1=>e.home∧mg st1.m env af.res∧∃(σo:List (Nat×Nat)) (q1:Nat) (m1:List (Nat×aW)) (st':St) (vd':D),Fr σi σo q q1 m0 m1 st st'∧GU 0 σo (ij af env st1) vd'∧K vd' st'∧∀i,look st1.m i=look m1 i) (eI af cs) ⟨q,m0⟩):
  Calls P fid args x.w fun
   | .returned v,w'=>∃x' d st',K d st'∧x'.w=w'∧Step x x'∧RD ν x' v d∧dx ν x' (look st'.m)∧dt st' x'
   |_,_=>False:=by
 obtain⟨body,c1,c2,c3,c4,c5,c6⟩:=eS hc
 let x0:X:=⟨x.w,x.I,fun i=>(jM σi i).bind x.β⟩
 have hx0:∀l i,(l,i)∈σi→x0.β i=x.β l:=fun l i h=>by simp only[x0,sJ oki h,Option.bind_some]
 have hβ0:∀l i,kD 0 σi l=some i→x0.β i=x.β l:=fun l i h=>hx0 l i (Ce (lo:=0) oki h).2
 have hx0':∀i p,x0.β i=some p→∃l,(l,i)∈σi∧x.β l=some p∧i<q:=by
  intro i p h;obtain⟨l,h1,h2⟩:=Option.bind_eq_some_iff.1 (show(jM σi i).bind x.β=some p from h);exact⟨l,iE h1,h2,nq oki (iE h1)⟩
 have hs0:dx ν x0 (look m0):=by
  refine⟨fun i blk b base tot e1 e2=>?_,fun i j b base tot base' tot' e1 e2 e3 e4=>?_,hs.imm,fun i b base tot e=>?_,bX.le x _ (fun _ h=>h) (fun _ _=>rfl) hs.gd⟩
  ·obtain⟨l,b',h1,h2,h3⟩:=hm0 i blk e1;rw[hx0 l i h1]at e2;obtain⟨o1,o2⟩:=hs.own l b' b base tot h2 e2;exact⟨o1,ko.re (x:=x) (x':=x0) rfl rfl hβ0 o2 h3⟩
  ·obtain⟨l,h1,h2,_⟩:=hx0' i _ e3;obtain⟨l',h1',h2',_⟩:=hx0' j _ e4;have:=hs.inj l l' b base tot base' tot' (hlt _ _ h1) (hlt _ _ h1') h2 h2';subst this;have:=pT oki h1;rw[pT oki h1']at this;exact(Option.some.inj this).symm
  ·obtain⟨l,_,h2,_⟩:=hx0' i _ e;exact hs.cO l b base tot h2
 have hf0:dt ⟨q,m0⟩ x0:=by
  refine⟨fun i hi=>?_,fun i hi=>?_⟩
  ·cases h:x0.β i with
   |none=>rfl
   |some p=>obtain⟨_,_,_,h4⟩:=hx0' i p h;simp only at hi;omega
  ·cases h:look m0 i with
   |none=>exact absurd h hi
   |some b=>obtain⟨l,b',h1,_⟩:=hm0 i b h;exact nq oki h1
 have hi:=rb (P:=P) (ν:=ν) (bC:=bC) (x:=x0) (ds:=cs) (st:=⟨q,m0⟩) c4 c5 c6 (args:=args) (by omega) hnp (fun i hi=>RD.re (x:=x) (x':=x0) rfl rfl hβ0 (hargs i (by omega)) (hds i (by omega))) hs0 hf0;have hcs:=oy (C:={P,ν,bC,slots:=slotsOf fn,ntmps:=fn.ntmps,vm:=D0 P fn}) (hΓ.at q) (kg fn).1 hmix x0 (fun l h=>hf0.β l h) body af.body c2 _ _ _ _ x0 hw hi (.refl _);refine calls_of_wp hf c1 (wp_mono hcs fun e a w' hp=>?_);obtain⟨e',x',env',st1,he,hxw,hst,hi',hh,hro,σo,q1,m1,st',vd',hfm,hvd,hK,hlk⟩:=hp;subst hxw;obtain⟨v,r1,r2,r3⟩:=m9 hi' c3 hro
 let x2:X:=⟨x'.w,x'.I,fun l=>match jM σo l with|some i=>x'.β i|none=>x.β l⟩
 have hx2:∀i l,(i,l)∈σo→x2.β l=x'.β i:=fun i l h=>by simp only[x2,sJ hfm.oko h]
 have hx2n:∀l,jM σo l=none→x2.β l=x.β l:=fun l h=>by simp only[x2,h]
 have hβ2:∀i l,kD 0 σo i=some l→x2.β l=x'.β i:=fun i l h=>hx2 i l (Ce (lo:=0) hfm.oko h).2
 have hx0s:∀l i p,(l,i)∈σi→x.β l=some p→x'.β i=some p:=fun l i p h e=>hst.β _ _ (by rw[hx0 l i h];exact e)

 have hnew:∀i p,x'.β i=some p→(∃l,(l,i)∈σi∧x.β l=some p)∨x.w.heap.size≤p.1∨∃l p',(∃j,(l,j)∈σi)∧x.β l=some p'∧p'.1=p.1:=by
  intro i p e;rcases hst.newβ i p e with h|h|⟨j,p',h1,h2⟩
  ·obtain⟨l,h3,h4,_⟩:=hx0' i p h;exact .inl ⟨l,h3,h4⟩
  ·exact .inr (.inl h)
  ·obtain⟨l,h3,h4,_⟩:=hx0' j p' h1;exact .inr (.inr ⟨l,p',⟨j,h3⟩,h4,h2⟩)
 have hstep:Step x x2:=by
  refine⟨hst.os,hst.tape,hst.output,hst.size,hst.I,hst.lH,fun l p hp=>?_,fun b hb hn=>hst.old b hb fun i p h e=>?_,fun b h=>?_,fun l p h=>?_⟩
  ·cases h:jM σo l with
   |none=>rw[hx2n l h];exact hp
   |some i=>
    have hm:=iE h;rw[hx2 i l hm];rcases hfm.io i l hm with h2|h2
    ·exact hx0s l i p h2 hp
    ·rw[hfr.β l h2]at hp;cases hp
  ·obtain⟨l,_,h2,_⟩:=hx0' i p h;exact hn l p h2 e
  ·rcases hst.newI b h with h|h|⟨i,p,h1,h2⟩
   ·exact .inl h
   ·exact .inr (.inl h)
   ·obtain⟨l,_,h3,_⟩:=hx0' i p h1;exact .inr (.inr ⟨l,p,h3,h2⟩)
  ·cases h1:jM σo l with
   |none=>rw[hx2n l h1]at h;exact .inl h
   |some i=>
    have hm:=iE h1;rw[hx2 i l hm]at h;rcases hnew i p h with⟨l',h2,h3⟩|h2|⟨l',p',_,h3,h4⟩
    ·exact .inr (.inr ⟨l',p,h3,rfl⟩)
    ·exact .inr (.inl h2)
    ·exact .inr (.inr ⟨l',p',h3,h4⟩)
 have hsim:dx ν x2 (look st'.m):=by
  refine⟨fun l blk b base tot e1 e2=>?_,fun l1 l2 b base tot base' tot' e1 e2 e3 e4=>?_,hi'.j4.imm,fun l b base tot e=>?_,bX.le x' _ (fun _ h=>h) (fun _ _=>rfl) hi'.j4.gd⟩
  ·rcases hfm.m1 l blk e1 with⟨i,b1,h1,h2,h3⟩|⟨h1,h2,h3⟩
   ·rw[hx2 i l h1]at e2;obtain⟨o1,o2⟩:=hi'.j4.own i b1 b base tot (by rw[hlk];exact h2) e2;exact⟨o1,ko.re (x:=x') (x':=x2) rfl rfl hβ2 o2 h3⟩
   ·rw[hx2n l h1]at e2;obtain⟨o1,o2⟩:=hs.own l blk b base tot h3 e2;have hlt:=hs.cO l b base tot e2;have hno:∀i p,x0.β i=some p→p.1≠b:=by
     rintro i ⟨b',base',tot'⟩ h e;simp only at e;subst e;obtain⟨l',h4,h5,_⟩:=hx0' i _ h;have:=hs.inj l' l b' base' tot' base tot (hfm.lt _ _ h4) (by rw[h3];simp) h5 e2;subst this;exact h2 _ h4
    refine⟨fun h=>?_,o2.mono hstep.le (hst.old b hlt hno)⟩;rcases hst.newI b h with h|h|⟨i,p,h4,h5⟩
    ·exact o1 h
    ·exact absurd hlt (Nat.not_lt.2 h)
    ·exact hno i p h4 h5
  ·have mix:∀l1 l2 base tot base' tot',(∃i b1,(i,l1)∈σo∧look m1 i=some b1)→jM σo l2=none→(∀i,(l2,i)∉σi)→look st.m l2≠none→x2.β l1=some (b,base,tot)→x2.β l2=some (b,base',tot')→False:=by
    rintro l1 l2 base tot base' tot' ⟨i,b1,h1,h2⟩ h3 h4 h5 e3 e4;rw[hx2 i l1 h1]at e3;rw[hx2n l2 h3]at e4;rcases hnew i _ e3 with⟨l',h6,h7⟩|h6|⟨l',⟨pb,pt,pq⟩,⟨j,h6⟩,h7,h8⟩
    ·have:=hs.inj l' l2 b base tot base' tot' (hfm.lt _ _ h6) h5 h7 e4;subst this;exact h4 _ h6
    ·have:=hs.cO l2 b base' tot' e4;simp only at h6;omega
    ·simp only at h8;subst h8;have:=hs.inj l' l2 pb pt pq base' tot' (hfm.lt _ _ h6) h5 h7 e4;subst this;exact h4 _ h6
   cases f1:look st'.m l1 with
   |none=>exact absurd f1 e1
   |some b1=>
    cases f2:look st'.m l2 with
    |none=>exact absurd f2 e2
    |some b2=>
     rcases hfm.m1 l1 b1 f1 with⟨i,c1,h1,h2,_⟩|⟨h1,h2,h3⟩<;>rcases hfm.m1 l2 b2 f2 with⟨j,c2,k1,k2,_⟩|⟨k1,k2,k3⟩
     ·rw[hx2 i l1 h1]at e3;rw[hx2 j l2 k1]at e4;have:=hi'.j4.inj i j b base tot base' tot' (by rw[hlk,h2];simp) (by rw[hlk,k2];simp) e3 e4;subst this;have:=pT hfm.oko h1;rw[pT hfm.oko k1]at this;exact(Option.some.inj this).symm
     ·exact(mix l1 l2 base tot base' tot' ⟨i,c1,h1,h2⟩ k1 k2 (by rw[k3];simp) e3 e4).elim
     ·exact(mix l2 l1 base' tot' base tot ⟨j,c2,k1,k2⟩ h1 h2 (by rw[h3];simp) e4 e3).elim
     ·rw[hx2n l1 h1]at e3;rw[hx2n l2 k1]at e4;exact hs.inj l1 l2 b base tot base' tot' (by rw[h3];simp) (by rw[k3];simp) e3 e4
  ·cases h1:jM σo l with
   |none=>rw[hx2n l h1]at e;exact Nat.lt_of_lt_of_le (hs.cO l b base tot e) hst.size
   |some i=>
    rw[hx2 i l (iE h1)]at e;exact hi'.j4.cO i b base tot e
 have hfr2:dt st' x2:=by
  refine⟨fun l hl=>?_,fun l hl=>?_⟩
  ·cases h1:jM σo l with
   |none=>rw[hx2n l h1];exact hfr.β l (by have:=hfm.nx;omega)
   |some i=>have:=nq hfm.oko (iE h1);omega
  ·cases f1:look st'.m l with
   |none=>exact absurd f1 hl
   |some b1=>
    rcases hfm.m1 l b1 f1 with⟨i,c1,h1,_⟩|⟨_,_,h3⟩
    ·exact nq hfm.oko h1
    ·have:=hfr.m l (by rw[h3];simp);have:=hfm.nx;omega
 have hrd:=RD.re (ν:=ν) (x:=x') (x':=x2) rfl rfl hβ2 r2 hvd;rcases Ex.xG hh with h|h<;>rw[h]at he<;>subst he<;>exact⟨hi'.defers,v,r1,x2,vd',st',hK,rfl,hstep,hrd,hsim,hfr2⟩
end
end Go.Abs
end
section
namespace Go.Abs
structure Nr where
 tr:List D→St→(D→St→Prop)→Prop
 mu:List D→St→Nat
 mono:∀(ds:List D) (st:St) (K K':D→St→Prop),(∀d st',K d st'→K' d st')→tr ds st K→tr ds st K'
def Nr.no:Nr:=⟨fun _ _ _=>False,fun _ _=>0,fun _ _ _ _ _ h=>h⟩
def oe (af:aB)(Q:D→List (Nat×aW)→Prop):Ex→List aY→St→Prop:=fun e env st=>e.home∧mg st.m env af.res∧∃m1,(∀i,look st.m i=look m1 i)∧Q (ij af env st) m1
def eg {af:aB}{Q:D→List (Nat×aW)→Prop}{vd:D}{m1:List (Nat×aW)}{e:Ex}{env:List aY}{st:St}(h1:e.home)(h2:mg st.m env af.res)(h3:ij af env st=vd)(h4:st.m=m1)(h5:Q vd m1):oe af Q e env st:=⟨h1,h2,m1,fun i=>by rw[h4],by rw[h3];exact h5⟩
def One (vd:D)(m1:List (Nat×aW)):D→List (Nat×aW)→Prop:=fun d m=>d=vd∧m=m1
def oneq (vd:D)(m1:List (Nat×aW)):One vd m1 vd m1:=⟨rfl,rfl⟩
section
variable [bX] {P:Program} {ν:List (Nat×Nat)} {bC:List Nat} {Γ:Ctx}
def Eo (P:Program)(ν:List (Nat×Nat))(Γ':Ctx)(bC:List Nat)(tr:List D→St→(D→St→Prop)→Prop)(fid:Nat):Prop:=
 ∀(ds:List D) (st:St) (K:D→St→Prop),tr ds st K→Ok P ν bC Γ'→∀(x:X) (args:Array Value),args.size=ds.length→(∀i,i<ds.length→RD ν x (args.getD i undef) (ds.getD i .any))→dx ν x (look st.m)→dt st x→
  fF P x (fun v x'=>∃d st',K d st'∧Step x x'∧RD ν x' v d∧dx ν x' (look st'.m)∧dt st' x') ((callFunc fid args).run P x.w)
end
end Go.Abs
end
section
namespace Go.Abs
abbrev RT:=List D→D→Prop
abbrev FT:=D→List D→D→D→Prop
abbrev TT:=List D→St→(D→St→Prop)→Prop
def yg (T:TT):Prop:=∀ds st K K',(∀d st',K d st'→K' d st')→T ds st K→T ds st K'
def xD (A:RT→Prop):RT:=fun ds d=>∀T,A T→T ds d
def ku (A:FT→Prop):FT:=fun d ds v s=>∀T,A T→T d ds v s
def GA (T:TT):Ctx:=⟨fun _ _=>False,fun _ _=>.any,fun _=>T,fun _ _ _=>False,fun _ _ _=>.any,fun _ _ _=>.any,0⟩
def AR (C:Ctx→Prop):TT:=fun ds st K=>∀T,yg T→C (GA T)→T ds st K
def rE (C:Ctx→Prop):yg (AR C):=fun _ _ _ _ h h1 T hT hC=>hT _ _ _ _ h (h1 T hT hC)
def noR:RT:=fun _ _=>False
def NF:FT:=fun _ _ _ _=>False
def noT:TT:=fun _ _ _=>False
def tZ:yg noT:=fun _ _ _ _ _ h=>h.elim
structure nS where
 key:Nat
 rel:RT
 mu:List D→Nat
 relF:FT
 tr:TT
 muE:List D→St→Nat
 mono:yg tr
def ND:List D→Nat:=fun _=>0
def Fs:List D→St→Nat:=fun _ _=>0
def jU:nS:=⟨0,noR,ND,NF,noT,Fs,tZ⟩
def rP (k:Nat)(A:RT→Prop)(mu:List D→Nat:=ND):nS:=⟨k,xD A,mu,NF,noT,Fs,tZ⟩
def rF (k:Nat)(A:FT→Prop):nS:=⟨k,noR,ND,ku A,noT,Fs,tZ⟩
def rG (k:Nat)(C:Ctx→Prop)(mu:List D→St→Nat:=Fs):nS:=⟨k,noR,ND,NF,AR C,mu,rE C⟩
def rFG (k:Nat)(A:FT→Prop)(C:Ctx→Prop):nS:=⟨k,noR,ND,ku A,AR C,Fs,rE C⟩
noncomputable def pick (r:D→Prop):D:=Classical.epsilon r
def ib {r:D→Prop}(h:∃d,r d):r (pick r):=Classical.epsilon_spec h
def MQ (R:RT):Prop:=∀ds d d',R ds d→R ds d'→d=d'
def sX (R:FT):Prop:=∀d ds v s v' s',R d ds v s→R d ds v' s'→v=v'∧s=s'
def Kk {A:RT→Prop}(h:A fun ds d=>A fun ds' d'=>ds'=ds→d=d'):MQ (xD A):=fun ds d d' h1 h2=>h2 _ (h1 _ h) rfl
def Hs {A:FT→Prop}(h:A fun d ds v s=>A fun d' ds' v' s'=>d'=d→ds'=ds→v=v'∧s=s'):sX (ku A):=fun d ds v s v' s' h1 h2=>h2 _ (h1 _ h) rfl rfl
noncomputable def va (t:List (Nat×nS)):Ctx where
 pre n ds:=∃d,(lk t n jU).rel ds d
 val n ds:=pick ((lk t n jU).rel ds)
 tr n:=(lk t n jU).tr
 fp n d ds:=∃v s,(lk t n jU).relF d ds v s
 fv n d ds:=pick fun v=>∃s,(lk t n jU).relF d ds v s
 fs n d ds:=pick fun s=>∃v,(lk t n jU).relF d ds v s
 lo:=0
def Gm (t:List (Nat×nS)):J8:=⟨fun n=>(lk t n jU).key,fun n=>(lk t n jU).mu,fun n=>(lk t n jU).muE⟩
noncomputable abbrev under (t:List (Nat×nS))(k u:Nat):Ctx:=(va t).under (Gm t) k u
def aO (t:List (Nat×nS))(k u n:Nat):(((va t).under (Gm t) k u).at n).bq:=
 fun f ds st K K' h hh=>⟨hh.1,(lk t f jU).mono ds st K K' h hh.2⟩
section
variable {t:List (Nat×nS)} {n k u:Nat} {ds:List D} {d v s:D} {st:St} {K:D→St→Prop}
def dA (hD:MQ (lk t n jU).rel)(hk:(lk t n jU).key<k∨(lk t n jU).key=k∧(lk t n jU).mu ds<u)(h:(lk t n jU).rel ds d):(under t k u).pre n ds∧(under t k u).val n ds=d:=
 ⟨⟨hk,d,h⟩,hD _ _ _ (ib ⟨d,h⟩) h⟩
def okf (hD:sX (lk t n jU).relF)(hk:(lk t n jU).key<k)(h:(lk t n jU).relF d ds v s):(under t k u).fp n d ds∧(under t k u).fv n d ds=v∧(under t k u).fs n d ds=s:=by
 refine⟨⟨.inl hk,v,s,h⟩, ?_, ?_⟩
 ·obtain⟨s',h'⟩:=ib (r:=fun v=>∃s,(lk t n jU).relF d ds v s) ⟨v,s,h⟩;exact(hD _ _ _ _ _ _ h' h).1
 ·obtain⟨v',h'⟩:=ib (r:=fun s=>∃v,(lk t n jU).relF d ds v s) ⟨s,v,h⟩;exact(hD _ _ _ _ _ _ h' h).2
def A2 (hk:(lk t n jU).key<k∨(lk t n jU).key=k∧(lk t n jU).muE ds st<u)(h:(lk t n jU).tr ds st K):(under t k u).tr n ds st K:=⟨hk,h⟩
end
section
variable [bX] {P:Program} {ν:List (Nat×Nat)} {bC:List Nat} {Γ:Ctx} {t:List (Nat×nS)} {fid n key:Nat}
def Bw (P:Program)(ν:List (Nat×Nat))(bC:List Nat)(Γ:Ctx)(fid:Nat)(ds:List D)(d:D):Prop:=Ok P ν bC Γ→∀(x:X)(args:Array Value),args.size=ds.length→(∀i,i<ds.length→RD ν x (args.getD i undef) (ds.getD i .any))→aI ds=true→
  (∀b,x.I b→b<x.w.heap.size)→bX.gd x→fF P x (fun v x'=>jD x x'∧RD ν x' v d) ((callFunc fid args).run P x.w)
def vB (P:Program)(ν:List (Nat×Nat))(bC:List Nat)(Γ:Ctx)(fid:Nat)(d:D)(ds:List D)(vd new:D):Prop:=Ok P ν bC Γ→∀(x:X)(f:Nat→Option aW)(args:Array Value)(l k:Nat),args.size=ds.length+1→
   RD ν x (args.getD 0 undef) (.ptr l k 0 0)→(∀i,i<ds.length→RD ν x (args.getD (i+1) undef) (ds.getD i .any))→dx ν x f→f l=some (.buf k [d])→d.aL=true→aI ds=true→
   fF P x (fun v x'=>Step x x'∧RD ν x' v vd∧dx ν x' (fun l'=>if l'=l then some (.buf k [new])else f l')∧x'.β=x.β) ((callFunc fid args).run P x.w)
def ml (P:Program)(ν:List (Nat×Nat))(bC:List Nat)(Γ:Ctx)(fid:Nat)(ds:List D)(st:St)(K:D→St→Prop):Prop:=Ok P ν bC Γ→∀(x:X)(args:Array Value),args.size=ds.length→(∀i,i<ds.length→RD ν x (args.getD i undef) (ds.getD i .any))→dx ν x (look st.m)→dt st x→
  fF P x (fun v x'=>∃d st',K d st'∧Step x x'∧RD ν x' v d∧dx ν x' (look st'.m)∧dt st' x') ((callFunc fid args).run P x.w)
structure Ly (P:Program)(ν:List (Nat×Nat))(bC:List Nat)(t:List (Nat×nS))(fid n:Nat):Prop where
 p:∀ds d,(lk t n jU).rel ds d→Bw P ν bC (under t (lk t n jU).key ((lk t n jU).mu ds)) fid ds d
 f:sX (lk t n jU).relF∧∀d ds v s,(lk t n jU).relF d ds v s→vB P ν bC (under t (lk t n jU).key ((lk t n jU).mu (d::ds))) fid d ds v s
 g:∀ds st K,(lk t n jU).tr ds st K→ml P ν bC (under t (lk t n jU).key ((lk t n jU).muE ds st)) fid ds st K
def okA (hsm:∀fid n,c8 ν fid=some n→n<1000000)(hB:∀t,bC.contains (1000000000+t)=true→t=bX.tB)(h:∀fid n,c8 ν fid=some n→Ly P ν bC t fid n):Ok P ν bC (va t):=by
 refine NG (Gm t) hsm hB (fun fid n hn ds hp hok=>(h fid n hn).p ds _ (ib hp) hok) (fun fid n hn _ d ds hp hok=>?_) (fun fid n hn ds st K htr hok=>(h fid n hn).g ds st K htr hok);obtain⟨v,s,hr⟩:=hp;obtain⟨hD,hf⟩:=(h fid n hn).f;have h2:(va t).fv n d ds=v∧(va t).fs n d ds=s:=by
  constructor
  ·obtain⟨s',h'⟩:=ib (r:=fun v=>∃s,(lk t n jU).relF d ds v s) ⟨v,s,hr⟩;exact(hD _ _ _ _ _ _ h' hr).1
  ·obtain⟨v',h'⟩:=ib (r:=fun s=>∃v,(lk t n jU).relF d ds v s) ⟨s,v,hr⟩;exact(hD _ _ _ _ _ _ h' hr).2
 rw[h2.1,h2.2];exact hf d ds v s hr hok
def B2 {Γ:D→List D→Ctx}:sX NF∧∀d ds v s,NF d ds v s→vB P ν bC (Γ d ds) fid d ds v s:=⟨fun _ _ _ _ _ _ h=>h.elim,fun _ _ _ _ h=>h.elim⟩
def bH {A:RT→Prop}{mu:List D→Nat}(hr:lk t n jU=rP key A mu)(h:A fun ds d=>Bw P ν bC (under t key (mu ds)) fid ds d):Ly P ν bC t fid n:=by
 refine⟨?_, ?_, ?_⟩<;>rw[hr]
 ·exact fun ds d hd=>hd (fun ds d=>Bw P ν bC (under t key (mu ds)) fid ds d) h
 ·exact B2
 ·exact fun _ _ _ h=>h.elim
def KU {A:FT→Prop}(hr:lk t n jU=rF key A)(hD:sX (ku A))(h:A fun d ds v s=>vB P ν bC (under t key 0) fid d ds v s):Ly P ν bC t fid n:=by
 refine⟨?_, ?_, ?_⟩<;>rw[hr]
 ·exact fun _ _ h=>h.elim
 ·exact⟨hD,fun d ds v s hd=>hd _ h⟩
 ·exact fun _ _ _ h=>h.elim
def vU {Γ:List D→St→Ctx}:yg fun ds st K=>ml P ν bC (Γ ds st) fid ds st K:=fun ds st K K' h hg hok x args hl ha hs hf=>(hg hok x args hl ha hs hf).mono fun v x' ⟨d,st',h1,h2⟩=>⟨d,st',h _ _ h1,h2⟩
def si {C:Ctx→Prop}{mu:List D→St→Nat}(hr:lk t n jU=rG key C mu)(h:C (GA fun ds st K=>ml P ν bC (under t key (mu ds st)) fid ds st K)):Ly P ν bC t fid n:=by
 refine⟨?_, ?_, ?_⟩<;>rw[hr]
 ·exact fun _ _ h=>h.elim
 ·exact B2
 ·exact fun ds st K hd=>hd (fun ds st K=>ml P ν bC (under t key (mu ds st)) fid ds st K) vU h
def NH {A:FT→Prop}{C:Ctx→Prop}(hr:lk t n jU=rFG key A C)(hD:sX (ku A))(h:A fun d ds v s=>vB P ν bC (under t key 0) fid d ds v s)(h2:C (GA fun ds st K=>ml P ν bC (under t key 0) fid ds st K)):Ly P ν bC t fid n:=by
 refine⟨?_, ?_, ?_⟩<;>rw[hr]
 ·exact fun _ _ h=>h.elim
 ·exact⟨hD,fun d ds v s hd=>hd _ h⟩
 ·exact fun ds st K hd=>hd _ vU h2
def Em (P:Program)(ν:List (Nat×Nat))(bC:List Nat)(fid:Nat)(af:aB):Prop:=(P.funcs[fid]?).map (fun f=>(compile P ν bC f,f.name== "runtime.NumGoroutine"))=some (some af,false)
def Em.split {af:aB}(h:Em P ν bC fid af):∃fn,P.funcs[fid]? =some fn∧compile P ν bC fn=some af∧(fn.name== "runtime.NumGoroutine")=false:=by
 unfold Em at h;cases hf:P.funcs[fid]? with
 |none=>rw[hf]at h;cases h
 |some fn=>
  rw[hf]at h;have h2:=Option.some.inj h;exact⟨fn,rfl,congrArg Prod.fst h2,congrArg Prod.snd h2⟩
def aZ {af:aB}{ds:List D}{d:D}(hmix:P.follows .mixedOrders=true)(hC:Em P ν bC fid af)(h1:ds.length=af.np)(h2:bB (Γ.at 0) af.body (J9 af d) (eI af ds) ⟨0,[]⟩):Bw P ν bC Γ fid ds d:=by
 intro hok x args hl hargs hnl himm hgd;obtain⟨fn,hf,hc,hn⟩:=hC.split;obtain⟨body,c1,_⟩:=eS hc;exact .inr ⟨fid,args,eF hf hn (by rw[c1];rfl) args x.w,Hz hok hmix hf hc hl hargs hnl himm hgd h1 h2⟩
def yS {af:aB}{d:D}{ds:List D}{vd new:D}(k0:Nat)(hmix:P.follows .mixedOrders=true)(hC:Em P ν bC fid af)(h1:ds.length+1=af.np)(hk:d.cells.length=k0)
  (h2:bB (Γ.at 1) af.body (Cz af k0 vd new) (eI af (.ptr 0 k0 0 0::ds)) ⟨1,[(0,.buf k0 [d])]⟩):vB P ν bC Γ fid d ds vd new:=by
 intro hok x f args l k hl h0 hargs hs hfl hd hnl;obtain⟨fn,hf,hc,hn⟩:=hC.split;obtain⟨body,c1,_⟩:=eS hc;have hkk:k=k0:=by
  generalize args.getD 0 undef=v0 at h0;cases h0 with
  |ptr _ _ _ _ b base tot at_ hβ hat=>
   obtain⟨p1,p2,c,T,fr,p3,p4,p5,p6⟩:=(hs.own l _ b base tot hfl hβ).2;have:=(p6 0 (by simp)).1;simp only[List.getD_cons_zero]at this;omega
 subst hkk;exact .inr ⟨fid,args,eF hf hn (by rw[c1];rfl) args x.w,Hx hok hmix hf hc hl h0 hargs hs hfl hd hnl h1 h2⟩
def HI {k l:Nat}{d:D}{ds:List D}{vd new:D}{st:St}{K:D→St→Prop}(h:vB P ν bC Γ fid d ds vd new)(hl:look st.m l=some (.buf k [d]))(hd:d.aL=true)(hnl:aI ds=true)(hK:K vd ⟨st.nx,bS st.m l (.buf k [new])⟩):
  ml P ν bC Γ fid (.ptr l k 0 0::ds) st K:=by
 intro hok x args hl2 hargs hs hf;refine(h hok x (look st.m) args l k (by simpa using hl2) (hargs 0 (by simp)) (fun i hi=>hargs (i+1) (by simpa using hi)) hs hl hd hnl).mono ?_;rintro v x' ⟨h1,h2,h3,h4⟩;have e:(fun l'=>if l'=l then some (.buf k [new])else look st.m l')=look (bS st.m l (.buf k [new])):=by
  funext l';rw[br]
 refine⟨vd,_,hK,h1,h2,e▸h3,fun l' hl'=>by rw[h4];exact hf.β l' hl',fun l' hl'=>?_⟩;rw[br]at hl';split at hl'
 ·rename_i e;subst e;exact hf.m _ (by rw[hl];simp)
 ·exact hf.m _ hl'
def yT {af:aB}{ds:List D}{st:St}{K:D→St→Prop}{σi:List (Nat×Nat)}{q:Nat}{m0:List (Nat×aW)}{cs:List D}{Q:D→List (Nat×aW)→Prop}(hmono:∀q,(Γ.at q).bq)(hmix:P.follows .mixedOrders=true)(hC:Em P ν bC fid af)
  (h1:cs.length=ds.length) (h2:∀i,i<ds.length→GU 0 σi (ds.getD i .any) (cs.getD i .any)) (h3:cs.length=af.np)
  (h4:eR 0 q σi=true) (h5:∀l i,(l,i)∈σi→look st.m l≠none) (h6:∀i b,look m0 i=some b→∃l b',(l,i)∈σi∧look st.m l=some b'∧nZ 0 σi b' b)
  (h7:bB (Γ.at q) af.body (oe af Q) (eI af cs) ⟨q,m0⟩) (h8:∀d m1,Q d m1→∃(σo:List (Nat×Nat)) (q1:Nat) (st':St) (vd':D),Fr σi σo q q1 m0 m1 st st'∧GU 0 σo d vd'∧K vd' st'):ml P ν bC Γ fid ds st K:=by
 intro hok x args hl hargs hs hfr;obtain⟨fn,hf,hc,hn⟩:=hC.split;obtain⟨body,c1,_⟩:=eS hc;refine .inr ⟨fid,args,eF hf hn (by rw[c1];rfl) args x.w, ?_⟩;refine Calls.mono (Hy (K:=K) hok hmix hf hc hl hargs hs hfr h1 h2 h3 h4 h5 h6 (dU (hmono q) _ _ _ _ _ (fun e env st1 h=>?_) h7)) fun e w' he=>?_
 ·obtain⟨g1,g2,m1,g3,g4⟩:=h;obtain⟨σo,q1,st',vd',k1,k2,k3⟩:=h8 _ _ g4;exact⟨g1,g2,σo,q1,m1,st',vd',k1,k2,k3,g3⟩
 ·match e,he with
  | .returned v,he=>
   obtain⟨x',d,st',g0,g1,g2,g3,g4,g5⟩:=he;exact⟨x',g1,d,st',g0,g2,g3,g4,g5⟩
end
end Go.Abs
end
section
namespace Go.Abs
structure aX where
 name:ah
 range:ah
 feats:List ah
 bare:Bool
 deriving Inhabited,DecidableEq
def aX.D (x:aX):D:=.agg [.str x.name,.str x.range,.sl 1 (x.feats.map D.str),.bool x.bare]
structure aT where
 any:List aX
 when':ah
 option:ah
 deriving Inhabited,DecidableEq
def aT.D (x:aT):D:=.agg [.sl 4 (x.any.map aX.D),.str x.when',.str x.option]
structure fE where
 name:ah
 range:ah
 when':ah
 deriving Inhabited,DecidableEq
def fE.D (x:fE):D:=.agg [.str x.name,.str x.range,.str x.when']
structure bj where
 name:ah
 of:List ah
 deriving Inhabited,DecidableEq
def bj.D (x:bj):D:=.agg [.str x.name,.sl 1 (x.of.map D.str)]
structure Rec where
 name:ah
 v:df
 needs:List aT
 bars:List fE
 feats:List bj
 deriving Inhabited,DecidableEq
def Rec.D (x:Rec):D:=.agg [.str x.name,.int .i64 x.v.major,.int .i64 x.v.minor,.int .i64 x.v.patch,.str x.v.pre,.str x.v.build,.sl 3 (x.needs.map aT.D),.sl 3 (x.bars.map fE.D),.sl 2 (x.feats.map bj.D)]
structure b7 where
 op:Int
 parts:Int
 v:df
 deriving Inhabited,DecidableEq
def b7.D (x:b7):D:=.agg [.int .i64 x.op,.int .i64 x.parts,.int .i64 x.v.major,.int .i64 x.v.minor,.int .i64 x.v.patch,.str x.v.pre,.str x.v.build]
structure Nd where
 op:Int
 a:Int
 b:Int
 key:Int
 text:ah
 deriving Inhabited,DecidableEq
def Nd.D (x:Nd):D:=.agg [.int .i64 x.op,.int .i64 x.a,.int .i64 x.b,.int .i64 x.key,.str x.text]
def fE.eq (a b:fE):eJ (fE.D a).cells (fE.D b).cells=decide (a=b):=by
 obtain⟨a1,a2,a3⟩:=a;obtain⟨b1,b2,b3⟩:=b;simp only[fE.D,D.cells,eJ,pE,fE.mk.injEq,Bool.and_true];simp only[Bool.decide_and]
def aX.same {a b:aX}(e1:a.name=b.name)(e2:a.range=b.range)(e3:a.bare=b.bare):decide (a=b)=decide (a.feats=b.feats):=by
 obtain⟨a1,a2,a3,a4⟩:=a;obtain⟨b1,b2,b3,b4⟩:=b;simp only at e1 e2 e3;subst e1;subst e2;subst e3;simp
def rising (l:List ah):Bool:=ca (fun i=>Op.bytesLess l[i-1]! l[i]!) 1 l.length
def cg (s:ah):Int×ah×ah:=
 if bI s=true then(1,s,[])
 else if s.length>0∧at8 s 0=63∧bI (s.drop 1)=true then(2,s.drop 1,[])
 else if(ai s 47).length=2∧ea (ai s 47)[0]! =true∧bI (ai s 47)[1]! =true then(3,(ai s 47)[0]!,(ai s 47)[1]!)
 else(0,[],[])
def findF (l:List bj)(nm:ah)(i:Nat):Int:=match(l.drop i).findIdx? (fun x=>decide (x.name=nm))with
 |some k=>((i+k:Nat):Int)
 |none=>-1
def ER {l:List bj}{nm:ah}{i:Nat}(h:i<l.length)(he:l[i]!.name=nm):findF l nm i=(i:Nat):=by
 unfold findF;rw[List.drop_eq_getElem_cons h,List.findIdx?_cons];have:l[i].name=nm:=by simpa[h]using he
 simp[this]
def ES {l:List bj}{nm:ah}{i:Nat}(h:i<l.length)(he:¬l[i]!.name=nm):findF l nm i=findF l nm (i+1):=by
 unfold findF;have:¬l[i].name=nm:=by simpa[h]using he
 rw[List.drop_eq_getElem_cons h,List.findIdx?_cons];simp only[this,decide_false,Bool.false_eq_true,if_false];cases(l.drop (i+1)).findIdx? (fun x=>decide (x.name=nm))with
 |none=>rfl
 |some k=>simp only[Option.map_some];congr 1;omega
def CV {l:List bj}{nm:ah}{i:Nat}(h:l.length≤i):findF l nm i=-1:=by
 unfold findF;rw[List.drop_eq_nil_of_le h];rfl
def Jb:ah:=[100,101,102,97,117,108,116]
def LD (l:List bj)(nm:ah):Bool:=decide (nm=Jb) ||decide (0≤findF l nm 0)
def iS (l:List bj)(s:ah):Bool:=!(decide ((cg s).1=0) ||(decide ((cg s).1=1)&& !LD l (cg s).2.1))
def tN (l:List bj)(of:List ah):Bool:=decide (of.length≤6)&&rising of&&ca (fun i=>iS l of[i]!) 0 of.length
def kp (l:List bj)(i:Nat):Bool:=bI l[i]!.name&& !(decide (0<i)&& !Op.bytesLess l[i-1]!.name l[i]!.name)&&tN l l[i]!.of
def fG (l:List bj):Bool:=decide (l.length≤8)&&ca (kp l) 0 l.length
def bj.sm (x:bj):Prop:=x.name.length≤1048576∧x.of.length≤1048576∧∀t∈x.of,t.length≤1048576
def sG (l:List bj):Prop:=∀x∈l,x.sm
def vW (b:ah):∀(l:List ah)(i:Nat),(aG b (l.take i)).length≤(aG b l).length
 |[],i=>by simp
 |[t],0=>by simp[aG]
 |[t],i+1=>by simp
 |t::u::r,0=>by simp[aG]
 |t::u::r,1=>by simp[aG]
 |t::u::r,i+2=>by
  have:=vW b (u::r) (i+1);simp only[List.take_succ_cons,aG,List.length_append]at this⊢;omega
def oI (b t:ah):∀(l:List ah),l≠[]→aG b (l++[t])=aG b l++b++t
 |[],h=>absurd rfl h
 |[u],_=>by simp[aG]
 |u::v::r,_=>by
  have:=oI b t (v::r) (by simp);simp only[List.cons_append,aG]at this⊢;rw[this];simp
def oJ (b:ah)(l:List ah)(i:Nat)(h:i<l.length):aG b (l.take (i+1))=(if 0<i then aG b (l.take i)++b else [])++l[i]! :=by
 have e:l.take (i+1)=l.take i++[l[i]!]:=by
  rw[List.take_add_one,List.getElem?_eq_getElem h];simp[h]
 rw[e];by_cases h0:0<i
 ·rw[if_pos h0,oI _ _ _ (by intro hn;have:=congrArg List.length hn;simp only[List.length_take,List.length_nil]at this;omega)]
 ·obtain rfl:i=0:=by omega
  simp[aG]
end Go.Abs
namespace Go.Abs
def HT {s:ah}(h0:bI s=true):cg s=(1,s,[]):=by simp only[cg,if_pos h0]
def HU {s:ah}(h0:bI s=false)(h:(0<(s.length:Int)∧at8 s 0=63)∧bI (s.drop 1)=true):cg s=(2,s.drop 1,[]):=by
 simp only[cg,h0,Bool.false_eq_true,if_false];rw[if_pos ⟨by omega,h.1.2,h.2⟩]
def yW {s:ah}(h:(¬0<(s.length:Int)∨¬at8 s 0=63)∨bI (s.drop 1)=false):¬(s.length>0∧at8 s 0=63∧bI (s.drop 1)=true):=by
 rintro⟨h1,h2,h3⟩;rcases h with(h|h)|h
 ·omega
 ·exact h h2
 ·rw[h3]at h;cases h
def HV {s:ah}(h0:bI s=false)(h:(¬0<(s.length:Int)∨¬at8 s 0=63)∨bI (s.drop 1)=false)(h2:(((ai s 47).length:Int)=2∧ea (ai s 47)[0]! =true)∧bI (ai s 47)[1]! =true):cg s=((3:Int),(ai s 47)[0]!,(ai s 47)[1]!):=by
 simp only[cg,h0,Bool.false_eq_true,if_false];rw[if_neg (yW h),if_pos ⟨by omega,h2.1.2,h2.2⟩]
def HS {s:ah}(h0:bI s=false)(h:(¬0<(s.length:Int)∨¬at8 s 0=63)∨bI (s.drop 1)=false)(h2:(¬((ai s 47).length:Int)=2∨ea (ai s 47)[0]! =false)∨bI (ai s 47)[1]! =false):cg s=(0,[],[]):=by
 simp only[cg,h0,Bool.false_eq_true,if_false];rw[if_neg (yW h),if_neg];rintro⟨g1,g2,g3⟩;rcases h2 with(h2|h2)|h2
 ·omega
 ·rw[g2]at h2;cases h2
 ·rw[g3]at h2;cases h2
end Go.Abs
end
namespace Go.Abs
def pg (s:ah)(i:Nat)(h:i<s.length):at8 s i=((s[i]'h).toNat:Int):=by simp[at8,h]
def ta (p:Int→Bool)(s:ah):ca (fun i=>p (at8 s i)) 0 s.length=true↔∀c∈s,p c.toNat=true:=by
 rw[dh];constructor
 ·intro h c hc;obtain⟨i,hi,rfl⟩:=List.getElem_of_mem hc;have:=h i (by omega) hi
  rwa [pg s i hi]at this
 ·intro h j _ hj;rw[pg s j hj];exact h _ (List.getElem_mem hj)
def ng {b:Int}:∀{s cur:ah},(∀c∈s,(c.toNat:Int)≠b)→bg b s cur=[cur++s]
 |[],cur,_=>by simp[bg]
 |c::r,cur,h=>by
  simp only[bg];rw[if_neg (h c (.head _)),ng (fun d hd=>h d (.tail _ hd))];simp
def oW {b:Int}{x:UInt8}(hx:(x.toNat:Int)=b)(r:ah):∀{w cur:ah},(∀c∈w,(c.toNat:Int)≠b)→bg b (w++x::r) cur=(cur++w)::bg b r []
 |[],cur,_=>by simp[bg,hx]
 |c::w,cur,h=>by
  simp only[List.cons_append,bg];rw[if_neg (h c (.head _)),oW hx r (fun d hd=>h d (.tail _ hd))];simp
def fU {b:Int}{x:UInt8}(hx:(x.toNat:Int)=b):∀{ws:List ah},ws≠[]→(∀w∈ws,∀c∈w,(c.toNat:Int)≠b)→ai (aG [x] ws) b=ws
 |[],h,_=>absurd rfl h
 |[w],_,h=>by
  show bg b w []=[w];rw[ng (h w (.head _))];rfl
 |w::u::r,_,h=>by
  have ih:=fU (ws:=u::r) hx (by simp) (fun v hv=>h v (.tail _ hv));show bg b (w++[x]++aG [x] (u::r)) []=_;rw[List.append_assoc,List.singleton_append,oW hx _ (h w (.head _))];rw[show bg b (aG [x] (u::r)) []=u::r from ih];rfl
def mU {b:Int}{x:UInt8}(hx:(x.toNat:Int)=b):∀(s cur:ah),aG [x] (bg b s cur)=cur++s
 |[],cur=>by simp[bg,aG]
 |c::r,cur=>by
  simp only[bg];split
  ·rename_i h;rw[dG _ _ _ (by intro h;have:=eO b r [];rw[h]at this;simp at this),mU hx r []];have:c=x:=UInt8.toNat_inj.1 (by omega);simp[this]
  ·rw[mU hx r];simp
def iF {b:Int}{x:UInt8}(hx:(x.toNat:Int)=b)(s:ah):aG [x] (ai s b)=s:=by
 unfold ai;rw[mU hx];rfl
def tx {p:UInt8→Bool}{w:ah}(h:∀c∈w,p c=false):w.findIdx? p=none:=by
 rw[List.findIdx?_eq_none_iff];exact h
def yH {p:UInt8→Bool}{w:ah}{x:UInt8}{r:ah}(h:∀c∈w,p c=false)(hx:p x=true):(w++x::r).findIdx? p=some w.length:=by
 rw[List.findIdx?_append,tx h,List.findIdx?_cons,if_pos hx];simp
def tj {b:Int}{w:ah}(h:∀c∈w,(c.toNat:Int)≠b):cK w b=([],w):=by
 unfold cK fC;rw[List.drop_zero,tx (fun c hc=>by simpa using h c hc)]
def rr {b:Int}{w r:ah}{x:UInt8}(h:∀c∈w,(c.toNat:Int)≠b)(hx:(x.toNat:Int)=b):cK (w++x::r) b=(r,w):=by
 unfold cK fC;rw[List.drop_zero,yH (fun c hc=>by simpa using h c hc) (by simpa using hx)];simp
def yC {n:Nat}(h:n<10):aH (dg n).toNat=true:=by
 have:=vM h;simp only[aH,Bool.and_eq_true,decide_eq_true_eq];omega
def pA {Q:Nat→Prop}(h1:∀n,n<10→Q n)(h2:∀n,9<n→Q (n/10)→Q n)(n:Nat):Q n:=by
 induction n using Nat.strongRecOn with
 |ind n ih=>
  by_cases h:n<10
  ·exact h1 n h
  ·exact h2 n (by omega) (ih _ (by omega))
def dZ (n:Nat):∀c∈bR n,aH c.toNat=true:=by
 refine pA (Q:=fun n=>∀c∈bR n,aH c.toNat=true) (fun n h c hc=>?_) (fun n h ih c hc=>?_) n
 ·rw[jl h]at hc;obtain rfl:=List.mem_singleton.1 hc;exact yC h
 ·rw[j7 h]at hc;rcases List.mem_append.1 hc with hc|hc
  ·exact ih c hc
  ·obtain rfl:=List.mem_singleton.1 hc;exact yC (by omega)
def A1 (s:ah)(c:UInt8):ct (s++[c])=ct s*10+(c.toNat-48):=by
 simp[ct,List.foldl_append]
def zf (n:Nat):ct (bR n)=n:=by
 refine pA (Q:=fun n=>ct (bR n)=n) (fun n h=>?_) (fun n h ih=>?_) n
 ·rw[jl h];have:=vM h;simp only[ct,List.foldl_cons,List.foldl_nil];omega
 ·rw[j7 h,A1,ih];have:=vM (n:=n%10) (by omega);omega
def sD (n:Nat):bR n≠[]:=by
 refine pA (Q:=fun n=>bR n≠[]) (fun n h=>?_) (fun n h ih=>?_) n
 ·rw[jl h];simp
 ·rw[j7 h];simp
def CM (n:Nat)(h:0<n):at8 (bR n) 0≠48:=by
 refine pA (Q:=fun n=>0<n→at8 (bR n) 0≠48) (fun n h h0=>?_) (fun n h ih h0=>?_) n h
 ·rw[jl h];have:=vM h;simp only[at8,List.getD_cons_zero];omega
 ·rw[j7 h];have:=ih (by omega);have hn:=List.length_pos_iff.2 (sD (n/10));have e:at8 (bR (n/10)++[dg (n%10)]) 0=at8 (bR (n/10)) 0:=by
   simp only[at8,List.getD,List.getElem?_append_left hn]
  rw[e];exact this
def nI {n:Nat}(h:n≤9999):dJ (bR n)=true:=by
 rw[xE];have h1:=List.length_pos_iff.2 (sD n);have h2:=dD 4 n (by omega) (by omega);have h3:ca (fun i=>aH (at8 (bR n) i)) 0 (bR n).length=true:=(ta aH _).2 (dZ n);rw[h3,decide_eq_true (show 1≤(bR n).length by omega),decide_eq_true h2];by_cases h10:n<10
 ·rw[jl h10];rfl
 ·rw[decide_eq_false (CM n (by omega))];simp
def qQ {n:Nat}(h:n≤9999):cW (bR n)=(n:Int):=by
 rw[cW,if_pos (nI h),zf]
def jv (x:UInt8):∀(ws:List ah)(c:UInt8),c∈aG [x] ws→c=x∨∃w∈ws,c∈w
 |[],c,h=>by simp[aG]at h
 |[w],c,h=>.inr ⟨w,.head _,h⟩
 |w::u::r,c,h=>by
  rw[dG _ _ _ (by simp)]at h;simp only[List.mem_append,List.mem_singleton]at h;rcases h with(h|h)|h
  ·exact .inr ⟨w,.head _,h⟩
  ·exact .inl h
  ·rcases jv x (u::r) c h with h|⟨v,hv,hc⟩
   ·exact .inl h
   ·exact .inr ⟨v,.tail _ hv,hc⟩
def zL {s:ah}{p:Bool}(h:lZ s p=true){c:UInt8}(hc:c∈s):js c.toNat=true∨c=46:=by
 simp only[lZ,Bool.or_eq_true,decide_eq_true_eq,ji,Bool.and_eq_true,dh]at h;rcases h with rfl|⟨_,h⟩
 ·cases hc
 ·rw[←iF (b:=46) (x:=46) rfl s]at hc;rcases jv 46 _ c hc with rfl|⟨w,hw,hcw⟩
  ·exact .inr rfl
  ·left;obtain⟨i,hi,rfl⟩:=List.getElem_of_mem hw;have:=h i (by omega) hi;rw[show(ai s 46)[i]! =(ai s 46)[i]by simp[hi]]at this;simp only[er,mi,Bool.and_eq_true]at this;exact(ta js _).1 this.1.2 c hcw
def xZ {s:ah}{p:Bool}(h:lZ s p=true){c:UInt8}(hc:c∈s):c.toNat≠43∧c.toNat≠32∧c.toNat≠10:=by
 rcases zL h hc with h|rfl
 ·simp only[js,eK,aH,Bool.or_eq_true,Bool.and_eq_true,decide_eq_true_eq]at h;omega
 ·decide
def mD {c:UInt8}(h:aH c.toNat=true):c.toNat≠46∧c.toNat≠45∧c.toNat≠43∧c.toNat≠32∧c.toNat≠10:=by
 simp only[aH,Bool.and_eq_true,decide_eq_true_eq]at h;omega
def coreS (v:df):ah:=bR v.major.toNat++[46]++bR v.minor.toNat++[46]++bR v.patch.toNat
def xl (v:df){c:UInt8}(h:c∈coreS v):c.toNat≠45∧c.toNat≠43∧c.toNat≠32∧c.toNat≠10:=by
 simp only[coreS,List.mem_append,List.mem_singleton]at h;rcases h with(((h|rfl)|h)|rfl)|h
 ·exact(mD (dZ _ c h)).2
 ·decide
 ·exact(mD (dZ _ c h)).2
 ·decide
 ·exact(mD (dZ _ c h)).2
def rj (v:df):su v=coreS v++(if v.pre=[]then []else 45::v.pre)++(if v.build=[]then []else 43::v.build):=rfl
def IP {v:df}(h:ei v=true){c:UInt8}(hc:c∈su v):c.toNat≠32∧c.toNat≠10:=by
 simp only[ei,Bool.and_eq_true]at h;rw[rj]at hc;simp only[List.mem_append]at hc;rcases hc with(hc|hc)|hc
 ·exact(xl v hc).2.2
 ·split at hc
  ·cases hc
  ·rcases List.mem_cons.1 hc with rfl|hc
   ·decide
   ·exact(xZ h.1.2 hc).2
 ·split at hc
  ·cases hc
  ·rcases List.mem_cons.1 hc with rfl|hc
   ·decide
   ·exact(xZ h.2 hc).2
def Lt {v:df}(h:ei v=true):kG (iM v)=some v:=by
 have h0:=h;simp only[ei,pH,Bool.and_eq_true,decide_eq_true_eq]at h;obtain⟨⟨⟨⟨h1,h2⟩,h3⟩,h4⟩,h5⟩:=h;have e0:iM v=su v:=by rw[iM,if_pos h0]

 have hcp:∀c∈coreS v++(if v.pre=[]then []else 45::v.pre),(c.toNat:Int)≠43:=fun c hc=>by
  rcases List.mem_append.1 hc with hc|hc
  ·have:=(xl v hc).2.1;omega
  ·split at hc
   ·cases hc
   ·rcases List.mem_cons.1 hc with rfl|hc
    ·decide
    ·have:=(xZ h4 hc).1;omega
 have e1:cK (su v) 43=(v.build,coreS v++(if v.pre=[]then []else 45::v.pre)):=by
  rw[rj];generalize coreS v++(if v.pre=[]then []else 45::v.pre)=q at hcp⊢;split
  ·rename_i hb;rw[List.append_nil,tj hcp,hb]
  ·exact rr hcp (by decide)
 have hc45:∀c∈coreS v,(c.toNat:Int)≠45:=fun c hc=>by have:=(xl v hc).1;omega
 have e2:cK (coreS v++(if v.pre=[]then []else 45::v.pre)) 45=(v.pre,coreS v):=by
  split
  ·rename_i hb;rw[List.append_nil,tj hc45,hb]
  ·exact rr hc45 (by decide)
 have e3:ai (coreS v) 46=[bR v.major.toNat,bR v.minor.toNat,bR v.patch.toNat]:=by
  have:=fU (b:=46) (x:=46) rfl (ws:=[bR v.major.toNat,bR v.minor.toNat,bR v.patch.toNat]) (by simp) (fun w hw c hc=>by
   have hd:aH c.toNat=true:=by
    simp only[List.mem_cons,List.not_mem_nil,or_false]at hw;rcases hw with rfl|rfl|rfl<;>exact dZ _ c hc
   have:=(mD hd).1;omega)
  rw[←this];simp[aG,coreS]
 have n1:=nI (n:=v.major.toNat) (by omega);have n2:=nI (n:=v.minor.toNat) (by omega);have n3:=nI (n:=v.patch.toNat) (by omega);have o1:=qQ (n:=v.major.toNat) (by omega);have o2:=qQ (n:=v.minor.toNat) (by omega);have o3:=qQ (n:=v.patch.toNat) (by omega);have ev:(⟨((v.major.toNat:Nat):Int),((v.minor.toNat:Nat):Int),((v.patch.toNat:Nat):Int),v.pre,v.build⟩:df)=v:=by
  obtain⟨a,b,c,d,e⟩:=v;simp only[df.mk.injEq,and_self,and_true];simp only at h1 h2 h3;omega
 rw[e0];simp only[kG,e1,e2,e3];rw[if_pos ⟨rfl,n1,n2,n3⟩];simp only[List.getElem!_cons_zero,List.getElem!_cons_succ,o1,o2,o3,ev];rw[if_pos ⟨h0,e0⟩]
def hv (c:UInt8):Nat:=if aH c.toNat=true then c.toNat-48 else c.toNat-87
def r9 (s:ah):Nat:=s.foldl (fun n c=>n*16+hv c) 0
def Cr {s:ah}(h:bI s=true){c:UInt8}(hc:c∈s):vz c.toNat=true:=by
 simp only[bI,Bool.and_eq_true]at h;exact(ta vz s).1 h.2 c hc
def Cs {s:ah}(h:bI s=true){c:UInt8}(hc:c∈s):c.toNat≠32∧c.toNat≠10∧c.toNat≠45:=by
 have:=Cr h hc;simp only[vz,eK,aH,Bool.or_eq_true,Bool.and_eq_true,decide_eq_true_eq]at this;omega
def IV {s:ah}(h:bI s=true):s≠[]:=by
 rintro rfl;simp[bI]at h
def BZ {s:ah}(h:ea s=true):s≠[]∧eK (at8 s 0)=true∧∀c∈s,c.toNat≠32∧c.toNat≠10:=by
 simp only[ea,Bool.and_eq_true,decide_eq_true_eq,dh]at h;obtain⟨⟨⟨⟨h1,h2⟩,h3⟩,h4⟩,h5⟩:=h;refine⟨by rintro rfl;simp at h1,h3,fun c hc=>?_⟩;obtain⟨i,hi,rfl⟩:=List.getElem_of_mem hc;rcases Nat.eq_zero_or_pos i with rfl|hp
 ·rw[pg s 0 hi]at h3;simp only[eK,Bool.and_eq_true,decide_eq_true_eq]at h3;omega
 ·have:=h5 i hp hi;simp only[nch,Bool.and_eq_true,Bool.or_eq_true,decide_eq_true_eq,pg s i hi,eK,aH]at this;omega
def qd.wf (x:qd):Prop:=0≤x.sum∧x.sum<18446744073709551616
def yb.wf (l:yb):Prop:=∀x∈l.lines,x.wf
end Go.Abs
section
namespace Go.Abs
def rT {b:Int}{x:UInt8}(hx:(x.toNat:Int)=b):∀(s cur:ah),bg b s cur=match s.findIdx? (fun c=>c==x)with
  |some k=>(cur++s.take k)::bg b (s.drop (k+1)) []
  |none=>[cur++s]
 |[],cur=>by simp[bg]
 |c::r,cur=>by
  simp only[bg,List.findIdx?_cons];by_cases h:c=x
  ·subst h;rw[if_pos hx];simp
  ·have h1:¬(c.toNat:Int)=b:=fun e=>h (UInt8.toNat_inj.1 (by omega))
   have h2:(c==x)=false:=by simpa using h
   rw[if_neg h1,h2,rT hx r (cur++[c])];cases r.findIdx? (fun c=>c==x)with
   |none=>simp
   |some k=>simp
def wH (s:ah)(x:UInt8):ai s x.toNat=if(dW s x).2.2=true then(dW s x).1::ai (dW s x).2.1 x.toNat else [s]:=by
 unfold ai dW;rw[rT (x:=x) rfl];cases s.findIdx? (fun c=>c==x)with
 |none=>simp
 |some k=>simp
def wA {s:ah}:(((dW s 47).2.2=true∧ea (dW s 47).1=true)∧bI (dW s 47).2.1=true)↔(((ai s 47).length:Int)=2∧ea (ai s 47)[0]! =true)∧bI (ai s 47)[1]! =true:=by
 have h:=wH s 47;rw[show(((47:UInt8).toNat:Nat):Int)=47 from rfl]at h;by_cases hc:(dW s 47).2.2=true
 ·rw[if_pos hc]at h;rw[h];have hj:=iF (b:=47) (x:=47) rfl (dW s 47).2.1;constructor
  ·rintro⟨⟨_,h1⟩,h2⟩;have h3:ai (dW s 47).2.1 47=[(dW s 47).2.1]:=by
    show bg 47 _ []=_;rw[ng (fun c hc=>?_)]
    ·rfl
    ·have:=Cr h2 hc;simp only[vz,eK,aH,Bool.or_eq_true,Bool.and_eq_true,decide_eq_true_eq]at this;omega
   rw[h3];exact⟨⟨rfl,h1⟩,h2⟩
  ·rintro⟨⟨h1,h2⟩,h3⟩;refine⟨⟨hc,h2⟩, ?_⟩;generalize ai (dW s 47).2.1 47=q at hj h1 h3
   match q,h1 with
   |[y],_=>
    have:y=(dW s 47).2.1:=hj;rw[←this];exact h3
   |[],h1=>simp at h1
   |_::_::_,h1=>simp at h1;omega
 ·rw[if_neg hc]at h;rw[h];constructor
  ·rintro⟨⟨h1,_⟩,_⟩;exact absurd h1 hc
  ·rintro⟨⟨h1,_⟩,_⟩;simp at h1
def zb {s:ah}:(cY s [63]).2=true↔0<(s.length:Int)∧at8 s 0=63:=by
 match s with
 |[]=>simp[cY,List.isPrefixOf]
 |c::r=>
  have e:((c.toNat:Int)=63)↔c=63:=⟨fun h=>UInt8.toNat_inj.1 (by have:(63:UInt8).toNat=63:=rfl;omega),fun h=>by subst h;rfl⟩;simp only[cY,List.isPrefixOf,Bool.and_true,at8,List.getD_cons_zero,List.length_cons];by_cases h:c=63
  ·subst h;simp
  ·have:¬(c.toNat:Int)=63:=fun h2=>h (e.1 h2)
   have h3:((63:UInt8)==c)=false:=by simpa using fun h2=>h h2.symm
   simp[h3,this]
def wc {s:ah}(h:(cY s [63]).2=true):(cY s [63]).1=s.drop 1:=by
 unfold cY at h⊢;split at h
 ·rename_i hp;rw[if_pos hp];rfl
 ·cases h
def HX {s:ah}(h0:bI s=false)(h:(cY s [63]).2=true∧bI (cY s [63]).1=true):cg s=(2,(cY s [63]).1,[]):=by
 rw[wc h.1]at h⊢;exact HU h0 ⟨zb.1 h.1,h.2⟩
def BT {s:ah}(h:(cY s [63]).2=false∨bI (cY s [63]).1=false):(¬0<(s.length:Int)∨¬at8 s 0=63)∨bI (s.drop 1)=false:=by
 by_cases hp:(cY s [63]).2=true
 ·rw[wc hp]at h;rcases h with h|h
  ·rw[hp]at h;cases h
  ·exact .inr h
 ·have:=fun h2=>hp (zb.2 h2)
  by_cases h1:0<(s.length:Int)
  ·exact .inl (.inr fun h2=>this ⟨h1,h2⟩)
  ·exact .inl (.inl h1)
def HY {s:ah}(h0:bI s=false)(h:(cY s [63]).2=false∨bI (cY s [63]).1=false)(h2:((dW s 47).2.2=true∧ea (dW s 47).1=true)∧bI (dW s 47).2.1=true):cg s=((3:Int),(dW s 47).1,(dW s 47).2.1):=by
 have h3:=wA.1 h2;rw[HV h0 (BT h) h3];have hs:=wH s 47;rw[show(((47:UInt8).toNat:Nat):Int)=47 from rfl,if_pos h2.1.1]at hs;have hj:=iF (b:=47) (x:=47) rfl (dW s 47).2.1;have hl:=h3.1.1;rw[hs]at hl⊢;generalize ai (dW s 47).2.1 47=q at hj hl
 match q,hl with
 |[y],_=>
  have:y=(dW s 47).2.1:=hj;rw[←this];rfl
 |[],h1=>simp at h1
 |_::_::_,h1=>simp at h1;omega
def HW {s:ah}(h0:bI s=false)(h:(cY s [63]).2=false∨bI (cY s [63]).1=false)(h2:((dW s 47).2.2=false∨ea (dW s 47).1=false)∨bI (dW s 47).2.1=false):cg s=(0,[],[]):=by
 refine HS h0 (BT h) ?_;have hn:¬((((ai s 47).length:Int)=2∧ea (ai s 47)[0]! =true)∧bI (ai s 47)[1]! =true):=fun h3=>by
  obtain⟨⟨g1,g2⟩,g3⟩:=wA.2 h3;rcases h2 with(h2|h2)|h2
  ·rw[g1]at h2;cases h2
  ·rw[g2]at h2;cases h2
  ·rw[g3]at h2;cases h2
 by_cases k1:((ai s 47).length:Int)=2
 ·by_cases k2:ea (ai s 47)[0]! =true
  ·right;cases k3:bI (ai s 47)[1]! with
   |false=>rfl
   |true=>exact absurd ⟨⟨k1,k2⟩,k3⟩ hn
  ·exact .inl (.inr (by simpa using k2))
 ·exact .inl (.inl k1)
end Go.Abs
namespace Go.Abs
def CP {l:List bj}{i:Nat}(h:(!bI l[i]!.name ||(decide ((0:Int)<(i:Int))&& !Op.bytesLess l[i-1]!.name l[i]!.name) ||decide ((6:Int)<(l[i]!.of.length:Int)) ||!rising l[i]!.of)=false):
  kp l i=ca (fun j=>iS l l[i]!.of[j]!) 0 l[i]!.of.length:=by
 simp only[Bool.or_eq_false_iff,Bool.not_eq_false',decide_eq_false_iff_not]at h;obtain⟨⟨⟨h1,h2⟩,h3⟩,h4⟩:=h;have e:(decide (0<i)&& !Op.bytesLess l[i-1]!.name l[i]!.name)=false:=by
  rw[show decide (0<i)=decide ((0:Int)<(i:Int))from decide_eq_decide.2 (by omega)];exact h2
 simp only[kp,tN,h1,e,h4];rw[decide_eq_true (by omega)];rfl
def CO {l:List bj}{i:Nat}(h:(!bI l[i]!.name ||(decide ((0:Int)<(i:Int))&& !Op.bytesLess l[i-1]!.name l[i]!.name) ||decide ((6:Int)<(l[i]!.of.length:Int)) ||!rising l[i]!.of)=true):
  kp l i=false:=by
 have e:decide ((0:Int)<(i:Int))=decide (0<i):=decide_eq_decide.2 (by omega);have e6:decide ((6:Int)<(l[i]!.of.length:Int))=!decide (l[i]!.of.length≤6):=by
  by_cases h6:l[i]!.of.length≤6
  ·rw[decide_eq_true h6,decide_eq_false (by omega)];rfl
  ·rw[decide_eq_false h6,decide_eq_true (by omega)];rfl
 rw[e,e6]at h;simp only[kp,tN];revert h;generalize bI l[i]!.name=a;generalize (decide (0<i)&& !Op.bytesLess l[i-1]!.name l[i]!.name)=b;generalize decide (l[i]!.of.length≤6)=c;generalize rising l[i]!.of=d;cases a<;>cases b<;>cases c<;>cases d<;>simp
end Go.Abs
end
section
namespace Go.Abs
def bQ (op:Int):ah:=if op=1 then [61]else if op=2 then [33,61]else if op=3 then [60]else if op=4 then [60,61]else if op=5 then [62]else if op=6 then [62,61]else if op=7 then [94]else if op=8 then [126]else []
def qZ (op:Int):(bQ op).length≤2:=by
 unfold bQ;repeat' split
 all_goals decide
def qk (s w:ah):Bool:=decide (w.length≤s.length)&&decide (s.take w.length=w)
def mb (c:b7):Bool:=(decide (0<c.parts) ||decide (c.v.major=0))&&(decide (1<c.parts) ||decide (c.v.minor=0))&&(decide (2<c.parts) ||decide (c.v.patch=0))
def iQ (c:b7):Bool:=decide (1≤c.op)&&decide (c.op≤9)&&ei c.v&&decide (c.v.build=[])&&decide ((if c.op=9 then 0 else 1)≤c.parts)&&decide (c.parts≤if c.op=9 then 2 else 3)&&(decide (3≤c.parts) ||decide (c.v.pre=[]))&&mb c
def b7.sm (c:b7):Prop:=c.v.sm
def yy {c:b7}(h:(decide (c.op<1) ||decide (9<c.op) ||!ei c.v ||!decide (c.v.build=[]))=true):iQ c=false:=by
 unfold iQ;rw[show decide (c.op<1)=!decide (1≤c.op)by rw[←decide_not];exact decide_eq_decide.2 (by omega),show decide (9<c.op)=!decide (c.op≤9)by rw[←decide_not];exact decide_eq_decide.2 (by omega)]at h;revert h;generalize decide (1≤c.op)=a1;generalize decide (c.op≤9)=a2;generalize ei c.v=a3;generalize decide (c.v.build=[])=a4;cases a1<;>cases a2<;>cases a3<;>cases a4<;>simp
def vL {c:b7}(h:(decide (c.op<1) ||decide (9<c.op) ||!ei c.v ||!decide (c.v.build=[]))=false):1≤c.op∧c.op≤9∧ei c.v=true∧c.v.build=[]:=by
 simp only[Bool.or_eq_false_iff,decide_eq_false_iff_not,Bool.not_eq_false',decide_eq_true_eq]at h;exact⟨by omega,by omega,h.1.2,h.2⟩
end Go.Abs
namespace Go.Abs
def nt {c:b7}(hy:1≤c.op∧c.op≤9∧ei c.v=true∧c.v.build=[]){lo hi:Int}(hlo:(if c.op=9 then 0 else 1)=lo)(hhi:(if c.op=9 then 2 else 3)=hi):
  iQ c=(!(decide (c.parts<lo) ||decide (hi<c.parts) ||(decide (c.parts<3)&& !decide (c.v.pre=[])))&&mb c):=by
 obtain⟨h1,h2,h3,h4⟩:=hy;unfold iQ;rw[decide_eq_true h1,decide_eq_true h2,h3,decide_eq_true h4,hlo,hhi];rw[show decide (c.parts<lo)=!decide (lo≤c.parts)by rw[←decide_not];exact decide_eq_decide.2 (by omega),show decide (hi<c.parts)=!decide (c.parts≤hi)by rw[←decide_not];exact decide_eq_decide.2 (by omega),show decide (c.parts<3)=!decide (3≤c.parts)by rw[←decide_not];exact decide_eq_decide.2 (by omega)];generalize decide (lo≤c.parts)=a1;generalize decide (c.parts≤hi)=a2;generalize decide (3≤c.parts)=a3;generalize decide (c.v.pre=[])=a4;cases a1<;>cases a2<;>cases a3<;>cases a4<;>simp
end Go.Abs
namespace Go.Abs
def b7.iH (c:b7):List Int:=[c.v.major,c.v.minor,c.v.patch]
def dF (c:b7):Nat→ah
 |0=>[]
 |i+1=>dF c i++(if 0<i then [46]else [])++bR (c.iH[i]!).toNat
def gU (c:b7):ah:=if c.op=9 then(if 0<c.parts then [46]else [])++[42]else if c.v.pre=[]then []else 45::c.v.pre
def iC (c:b7):ah:=bQ c.op++dF c c.parts.toNat++gU c
def cV (c:b7):ah:=if iQ c=true then iC c else []
def mY {c:b7}(h:ei c.v=true)(i:Nat):0≤c.iH[i]! ∧c.iH[i]! ≤9999:=by
 simp only[ei,pH,Bool.and_eq_true,decide_eq_true_eq]at h
 match i with
 |0=>exact h.1.1.1.1
 |1=>exact h.1.1.1.2
 |2=>exact h.1.1.2
 |k+3=>exact(by simp[b7.iH]:0≤c.iH[k+3]! ∧c.iH[k+3]! ≤9999)
def nJ {c:b7}(h:ei c.v=true):∀i,(dF c i).length≤5*i
 |0=>by simp[dF]
 |i+1=>by
  have:=nJ h i;have hn:=mY h i;have:=dD 4 (c.iH[i]!).toNat (by omega) (by omega);simp only[dF,List.length_append];split
  ·simp only[List.length_singleton];omega
  ·simp only[List.length_nil];omega
def kN {c:b7}(h:iQ c=true):ei c.v=true∧0≤c.parts∧c.parts≤3∧1≤c.op∧c.op≤9:=by
 simp only[iQ,Bool.and_eq_true,decide_eq_true_eq]at h;obtain⟨⟨⟨⟨⟨⟨⟨h1,h2⟩,h3⟩,h4⟩,h5⟩,h6⟩,h7⟩,h8⟩:=h;refine⟨h3, ?_, ?_,h1,h2⟩
 ·split at h5<;>omega
 ·split at h6<;>omega
end Go.Abs
namespace Go.Abs
def iL (c:b7):List ah:=(c.iH.map fun n=>bR n.toNat).take c.parts.toNat
def wo (c:b7):∀i,i≤3→aG [46] ((c.iH.map fun n=>bR n.toNat).take i)=dF c i
 |0,_=>by simp[aG,dF]
 |i+1,h=>by
  have hl:i<(c.iH.map fun n=>bR n.toNat).length:=by simp[b7.iH];omega
  have hl2:i<c.iH.length:=by show i<3;omega
  rw[oJ _ _ _ hl,wo c i (by omega)];simp only[dF];have e:(c.iH.map fun n=>bR n.toNat)[i]! =bR (c.iH[i]!).toNat:=by simp[hl2]
  rw[e];split
  ·simp
  ·obtain rfl:i=0:=by omega
   simp[dF]
def zP {c:b7}(h:c.parts≤3):(iL c).length=c.parts.toNat:=by
 simp[iL,b7.iH];omega
def wM {c:b7}(h:c.parts≤3):aG [46] (iL c)=dF c c.parts.toNat:=wo c _ (by omega)
def ri {c:b7}(h0:0≤c.parts)(h:c.parts≤3):aG [46] (iL c++[[42]])=dF c c.parts.toNat++((if 0<c.parts then [46]else [])++[42]):=by
 by_cases hp:0<c.parts
 ·rw[oI _ _ _ (by intro hn;have:=congrArg List.length hn;rw[zP h]at this;simp only[List.length_nil]at this;omega),wM h,if_pos hp];simp
 ·have:c.parts.toNat=0:=by omega
  rw[if_neg hp,this];have e:iL c=[]:=by simp[iL,this]
  rw[e];rfl
end Go.Abs
namespace Go.Abs
def opsL:List Int:=[2,4,6,1,3,5,7,8]
def oK (s:ah)(i:Nat):Option Int:=(opsL.drop i).find? fun o=>qk s (bQ o)
def ja (s:ah):Int×ah:=match oK s 0 with
 |some o=>(o,s.drop (bQ o).length)
 |none=>if 0<s.length∧at8 s (s.length-1)=42 then(9,s)else(7,s)
def Ib {s:ah}{i:Nat}(h:i<8)(hb:qk s (bQ opsL[i]!)=true):oK s i=some opsL[i]! :=by
 have hl:i<opsL.length:=h;unfold oK;rw[List.drop_eq_getElem_cons hl,List.find?_cons];rw[show opsL[i]! =opsL[i]by simp[hl]]at hb⊢;rw[hb]
def Ic {s:ah}{i:Nat}(h:i<8)(hb:qk s (bQ opsL[i]!)=false):oK s i=oK s (i+1):=by
 have hl:i<opsL.length:=h;unfold oK;rw[List.drop_eq_getElem_cons hl,List.find?_cons];rw[show opsL[i]! =opsL[i]by simp[hl]]at hb;rw[hb]
def FH {s:ah}{i:Nat}(h:8≤i):oK s i=none:=by
 unfold oK;rw[List.drop_eq_nil_of_le h];rfl
def fK (s:ah)(i:Nat):ah×ah:=match(s.drop i).findIdx? (fun c=>c==45)with
 |some k=>(s.take (i+k),s.drop (i+k+1))
 |none=>(s,[])
def Iq {s:ah}{i:Nat}(h:i<s.length)(he:at8 s i=45):fK s i=(s.take i,s.drop (i+1)):=by
 unfold fK;rw[nB s i h,List.findIdx?_cons];have:s.getD i 0=45:=UInt8.toNat_inj.1 (by simp only[at8]at he;show(s.getD i 0).toNat=45;omega);rw[this];rfl
def Ir {s:ah}{i:Nat}(h:i<s.length)(he:¬at8 s i=45):fK s i=fK s (i+1):=by
 unfold fK;rw[nB s i h,List.findIdx?_cons];have:(s.getD i 0==45)=false:=by
  rw[beq_eq_false_iff_ne];intro e;exact he (by simp only[at8,e];rfl)
 rw[this];simp only[Bool.false_eq_true,if_false];cases(s.drop (i+1)).findIdx? (fun c=>c==45)with
 |none=>rfl
 |some k=>simp only[Option.map_some];rw[show i+(k+1)=i+1+k by omega]
def F3 {s:ah}{i:Nat}(h:s.length≤i):fK s i=(s,[]):=by
 unfold fK;rw[List.drop_eq_nil_of_le h];rfl
end Go.Abs
namespace Go.Abs
def fJ (l:List ah):Bool:=decide (l.length≤3)&&ca (fun i=>dJ l[i]!) 0 l.length
def numV (l:List ah):df:=⟨if 0<l.length then cW l[0]! else 0,if 1<l.length then cW l[1]! else 0,if 2<l.length then cW l[2]! else 0,[],[]⟩
end Go.Abs
namespace Go.Abs
def dw:b7:=⟨0,0,jb⟩
def Jr (op:Int)(l:List ah):List ah:=if op=9 then l.take (l.length-1)else l
def n5 (op:Int)(l:List ah)(pre:ah):b7:=⟨op,(l.length:Nat),{numV l with pre:=pre}⟩
def FE (s:ah)(op:Int)(l:List ah)(pre:ah):Bool:=fJ l&& !(decide (cV (n5 op l pre)=[]) ||(!decide (cV (n5 op l pre)=s)&& !decide (cV (n5 op l pre)=94::s)))
def eY (s:ah):Option b7:=
 let o:=ja s
 let p:=fK o.2 0
 let l:=Jr o.1 (ai p.1 46)
 if FE s o.1 l p.2=true then some (n5 o.1 l p.2)else none
def Bi (s:ah):(ja s).2.length≤s.length:=by
 unfold ja;split
 ·simp
 ·split<;>exact Nat.le_refl _
def zm (s:ah):(fK s 0).1.length≤s.length∧(fK s 0).2.length≤s.length:=by
 unfold fK;split<;>simp<;>omega
end Go.Abs
namespace Go.Abs
def bZ (s:ah):Int×ah:=match oK s 0 with
 |some o=>(o,s.drop (bQ o).length)
 |none=>(9,s)
def cT (s:ah):ah×ah:=fK (bZ s).2 0
def cE (s:ah):List ah:=Jr (bZ s).1 (ai (cT s).1 46)
def jW (s:ah):Prop:=(bZ s).1=9→(ai (cT s).1 46)[(ai (cT s).1 46).length-1]! =[42]
instance (s:ah):Decidable (jW s):=by unfold jW;exact inferInstance
def cN (s:ah):b7:=n5 (bZ s).1 (cE s) (cT s).2
def dI (s:ah):Option b7:=if jW s∧fJ (cE s)=true∧iQ (cN s)=true∧cV (cN s)=s then some (cN s)else none
def B3 (l:List ah)(i:Nat):df:=⟨if 0<i then cW l[0]! else 0,if 1<i then cW l[1]! else 0,if 2<i then cW l[2]! else 0,[],[]⟩
def DM (s:ah):(bZ s).2.length≤s.length:=by
 unfold bZ;split<;>simp
def gC {s:ah}(h:¬(jW s∧fJ (cE s)=true∧iQ (cN s)=true∧cV (cN s)=s)):dI s=none:=by
 unfold dI;rw[if_neg h]
end Go.Abs
namespace Go.Abs
def gO (s:ah):Option b7:=if(dI s).isSome=true then dI s else dI (94::s)
def zO (c:b7):aW:=.buf 1 [.str (bR c.v.major.toNat),.str (bR c.v.minor.toNat),.str (bR c.v.patch.toNat)]
def uI (c:b7):[D.str (bR c.v.major.toNat),D.str (bR c.v.minor.toNat),D.str (bR c.v.patch.toNat)].take c.parts.toNat=(iL c).map D.str:=by
 unfold iL b7.iH;rw[List.map_take];rfl
def IJ {c:b7}{m:List (Nat×aW)}{l:Nat}(hl:look m l=some (zO c)):xV m [.sl 1 [.a]] (.own l 1 0 c.parts.toNat)=.sl 1 ((iL c).map D.str):=by
 show D.sl 1 _=_;simp only[aE,hl,zO,List.drop_zero,uI,List.map_map];congr 1
def Gz {c:b7}{m:List (Nat×aW)}{l:Nat}(h:c.parts≤3)(hl:look m l=some (zO c)):GY m [.sl 1 [.a]] (.own l 1 0 c.parts.toNat):=by
 simp only[GY,Jx,Jw];refine⟨by simp[dC,hl,zO];omega, ?_⟩;simp only[aE,hl,zO,List.drop_zero,uI];intro e he;obtain⟨x,_,rfl⟩:=List.mem_map.1 he;trivial
end Go.Abs
end
namespace Go.Abs
def nu {c:b7}(h:cV c≠[]):iQ c=true∧cV c=iC c:=by
 unfold cV at h⊢;split at h
 ·rename_i hb;exact⟨hb,if_pos hb⟩
 ·exact absurd rfl h
def xI {s:ah}{op:Int}{l:List ah}{pre:ah}:FE s op l pre=true↔fJ l=true∧cV (n5 op l pre)≠[]∧(cV (n5 op l pre)=s∨cV (n5 op l pre)=94::s):=by
 simp only[FE,Bool.and_eq_true,Bool.not_eq_true',Bool.or_eq_false_iff,decide_eq_false_iff_not,Bool.and_eq_false_iff,Bool.not_eq_false',decide_eq_true_eq]
def qS (c:UInt8):Prop:=c≠33∧c≠60∧c≠61∧c≠62∧c≠94∧c≠126
def mE {c:UInt8}(h:aH c.toNat=true):qS c∧c≠42:=by
 simp only[aH,Bool.and_eq_true,decide_eq_true_eq]at h;refine⟨⟨?_, ?_, ?_, ?_, ?_, ?_⟩, ?_⟩<;>rintro rfl<;>revert h<;>decide
def zh {k:b7}:∀(i:Nat)(c:UInt8),c∈dF k i→aH c.toNat=true∨c=46
 |0,c,h=>by simp[dF]at h
 |i+1,c,h=>by
  simp only[dF,List.mem_append]at h;rcases h with(h|h)|h
  ·exact zh i c h
  ·split at h
   ·exact .inr (List.mem_singleton.1 h)
   ·cases h
  ·exact .inl (dZ _ c h)
def ub (k:b7):∀i,0<i→∃c r,dF k i=c::r∧aH c.toNat=true
 |0,h=>by omega
 |1,_=>by
  have hd:=dZ (k.iH[0]!).toNat;have hn:=sD (k.iH[0]!).toNat;simp only[dF,Nat.lt_irrefl,if_false,List.nil_append];generalize bR (k.iH[0]!).toNat=w at hd hn
  match w,hn with
  |c::r,_=>exact⟨c,r,rfl,hd c (.head _)⟩
 |i+2,_=>by
  obtain⟨c,r,h1,h2⟩:=ub k (i+1) (by omega);refine⟨c,r++(if 0<i+1 then [46]else [])++bR (k.iH[i+1]!).toNat, ?_,h2⟩;show dF k (i+1)++_++_=_;rw[h1];simp
def CF {c:b7}(h:iQ c=true)(h9:c.op≠9):0<c.parts.toNat:=by
 simp only[iQ,Bool.and_eq_true,decide_eq_true_eq]at h;have:=h.1.1.1.2;rw[if_neg h9]at this;omega
def DE {s:ah}{o:Int}(h:oK s 0=some o):1≤o∧o≤8∧∃x t,s=x::t∧¬qS x∧(x=94→o=7):=by
 have hm:=List.mem_of_find?_eq_some h;have hb:=List.find?_some h;simp only[qk,Bool.and_eq_true,decide_eq_true_eq]at hb;obtain⟨h1,h2⟩:=hb;have hne:s≠[]∨bQ o=[]:=by
  by_cases e:s=[]
  ·right;subst e;simpa using h1
  ·exact .inl e
 simp only[opsL,List.drop_zero,List.mem_cons,List.not_mem_nil,or_false]at hm;have key:∀w:ah,w≠[]→s.take w.length=w→∃x t t',s=x::t∧w=x::t':=by
  intro w hw hs
  match w,hw with
  |x::t',_=>
   match s with
   |[]=>simp at hs
   |y::t=>
    simp only[List.length_cons,List.take_succ_cons,List.cons.injEq]at hs;exact⟨x,t,t',by rw[hs.1],rfl⟩
 rcases hm with rfl|rfl|rfl|rfl|rfl|rfl|rfl|rfl
 all_goals
  refine⟨by omega,by omega, ?_⟩;obtain⟨x,t,t',e1,e2⟩:=key _ (by decide) h2;have hxx:=congrArg (fun w:ah=>w.headD 0) e2;simp only[List.headD_cons]at hxx;refine⟨x,t,e1, ?_, ?_⟩
  ·rw[←hxx];unfold qS;decide
  ·rw[←hxx];decide
def ud (t:ah):oK (94::t) 0=some 7:=by
 unfold oK opsL;have hn:∀w:ah,w≠[]→w.headD 0≠94→qk (94::t) w=false:=by
  intro w hw hx
  match w,hw with
  |x::r,_=>
   unfold qk;rw[Bool.and_eq_false_iff];right;rw[decide_eq_false_iff_not];intro h;simp only[List.length_cons,List.take_succ_cons,List.cons.injEq]at h;exact hx h.1.symm
 have hy:qk (94::t) (bQ 7)=true:=by
  unfold qk;rw[show bQ 7=[94]by decide];simp
 simp only[List.drop_zero,List.find?_cons,hn _ (show bQ 2≠[]by decide) (by decide),hn _ (show bQ 4≠[]by decide) (by decide),hn _ (show bQ 6≠[]by decide) (by decide),hn _ (show bQ 1≠[]by decide) (by decide),
  hn _ (show bQ 3≠[]by decide) (by decide),hn _ (show bQ 5≠[]by decide) (by decide),hy]
def zq (t:ah):bZ (94::t)=(7,t):=by
 simp only[bZ,ud];rw[show bQ 7=[94]by decide];rfl
def uE (b:Int):∀(s cur:ah),∃r l,bg b s cur=(cur++r)::l
 |[],cur=>⟨[],[],by simp[bg]⟩
 |c::s,cur=>by
  simp only[bg];split
  ·exact⟨[],_,by rw[List.append_nil]⟩
  ·obtain⟨r,l,h⟩:=uE b s (cur++[c]);exact⟨c::r,l,by rw[h];simp⟩
def DV {x:UInt8}{t:ah}(h:¬qS x):fJ (ai (fK (x::t) 0).1 46)=false:=by
 have hx:x≠45∧x≠46∧aH x.toNat=false:=by
  refine⟨?_, ?_, ?_⟩
  ·rintro rfl;exact h (by unfold qS;decide)
  ·rintro rfl;exact h (by unfold qS;decide)
  ·cases hd:aH x.toNat with
   |false=>rfl
   |true=>exact absurd (mE hd).1 h
 have hp:∃r,(fK (x::t) 0).1=x::r:=by
  unfold fK;rw[List.drop_zero,List.findIdx?_cons];rw[if_neg (by simpa using hx.1)];cases t.findIdx? (fun c=>c==45)with
  |none=>exact⟨t,rfl⟩
  |some k=>exact⟨t.take k,by simp⟩
 obtain⟨r,hr⟩:=hp;rw[hr];have h46:¬((x.toNat:Int)=46):=fun e=>hx.2.1 (UInt8.toNat_inj.1 (by show x.toNat=46;omega))
 obtain⟨q,l,hs⟩:=uE 46 r [x];have e:ai (x::r) 46=(x::q)::l:=by
  unfold ai;simp only[bg];rw[if_neg h46];simpa using hs
 rw[e];unfold fJ;rw[Bool.and_eq_false_iff];right;rw[aD (by simp)];have hn:dJ ((x::q)::l)[0]! =false:=by
  show dJ (x::q)=false;rw[xE];rw[aD (by simp)];have:aH (at8 (x::q) 0)=false:=by simpa[at8]using hx.2.2
  rw[this];simp
 rw[hn];rfl
def Jp {s:ah}(h:ja s=bZ s):eY s=if FE s (bZ s).1 (cE s) (cT s).2=true then some (cN s)else none:=by
 unfold eY;simp only[h];rfl
def uw {s:ah}:dI s=if jW s∧fJ (cE s)=true∧iQ (cN s)=true∧cV (cN s)=s then some (cN s)else none:=rfl
def DJ {s:ah}(h:∀c∈s,c≠45):fK s 0=(s,[]):=by
 unfold fK;rw[List.drop_zero,List.findIdx?_eq_none_iff.2 (fun c hc=>by simpa using h c hc)]
def wK {k:b7}(hb:iQ k=true)(h9:k.op=9):iC k=aG [46] (iL k++[[42]]):=by
 obtain⟨_,h0,h3,_,_⟩:=kN hb;rw[ri h0 h3];unfold iC gU;rw[if_pos h9,h9];rfl
def nj {k:b7}{w:ah}(h:w∈iL k++[[42]]){c:UInt8}(hc:c∈w):aH c.toNat=true∨c=42:=by
 rcases List.mem_append.1 h with h|h
 ·have:=List.mem_of_mem_take h;obtain⟨n,_,rfl⟩:=List.mem_map.1 this;exact .inl (dZ _ c hc)
 ·obtain rfl:=List.mem_singleton.1 h;exact .inr (List.mem_singleton.1 hc)
def wJ {k:b7}{s:ah}(hb:iQ k=true)(h9:k.op=9)(hs:iC k=s):(0<s.length∧at8 s (s.length-1)=42)∧fK s 0=(s,[])∧ai s 46=iL k++[[42]]:=by
 have ht:=wK hb h9;obtain⟨_,h0,h3,_,_⟩:=kN hb;rw[hs]at ht;have hch:∀c∈s,aH c.toNat=true∨c=42∨c=46:=by
  intro c hc;rw[ht]at hc;rcases jv 46 _ c hc with h|⟨w,hw,hcw⟩
  ·exact .inr (.inr h)
  ·rcases nj hw hcw with h|h
   ·exact .inl h
   ·exact .inr (.inl h)
 refine⟨?_,DJ (fun c hc=>?_), ?_⟩
 ·have he:∃q,s=q++[42]:=by
   rw[ht,ri h0 h3];exact⟨dF k k.parts.toNat++(if 0<k.parts then [46]else []),by rw[List.append_assoc]⟩
  obtain⟨q,rfl⟩:=he;simp[at8]
 ·rintro rfl;rcases hch 45 hc with h|h|h
  ·revert h;decide
  ·revert h;decide
  ·revert h;decide
 ·rw[ht];refine fU (b:=46) (x:=46) rfl (by simp) fun w hw c hc=>?_
  rcases nj hw hc with h|h
  ·have:=(mD h).1;omega
  ·rw[h];decide
def tm {k:b7}{s:ah}(hb:iQ k=true)(h7:k.op=7)(hs:iC k=94::s):(∀c∈s,c≠42)∧∃c r,s=c::r∧aH c.toNat=true:=by
 have hp:=CF hb (by omega);have e:s=dF k k.parts.toNat++gU k:=by
  unfold iC at hs;rw[h7,show bQ 7=[94]by decide]at hs;simpa using hs.symm
 obtain⟨c,r,h1,h2⟩:=ub k _ hp;refine⟨fun c hc=>?_,c,r++gU k,by rw[e,h1];rfl,h2⟩;rw[e]at hc;rcases List.mem_append.1 hc with hc|hc
 ·rcases zh _ c hc with h|h
  ·exact(mE h).2
  ·rw[h];decide
 ·unfold gU at hc;rw[if_neg (by omega)]at hc;split at hc
  ·cases hc
  ·rcases List.mem_cons.1 hc with rfl|hc
   ·decide
   ·have hv:=(kN hb).1;simp only[ei,Bool.and_eq_true]at hv;rcases zL hv.1.2 hc with h|h
    ·rintro rfl;revert h;decide
    ·rw[h];decide
def sO {s:ah}:FE s (bZ s).1 (cE s) (cT s).2=true↔fJ (cE s)=true∧cV (cN s)≠[]∧(cV (cN s)=s∨cV (cN s)=94::s):=xI
def EF (s:ah):gO s=eY s:=by
 have hcar:bZ (94::s)=(7,s):=zq s;have hL7:cE (94::s)=ai (fK s 0).1 46:=by
  unfold cE cT;rw[hcar];rfl
 have hK7:cN (94::s)=n5 7 (ai (fK s 0).1 46) (fK s 0).2:=by
  unfold cN;rw[hL7];unfold cT;rw[hcar]
 cases ho:oK s 0 with
 |some o=>
  obtain⟨o1,o8,x,t,hs,hx,hx94⟩:=DE ho;have hrw:bZ s=(o,s.drop (bQ o).length):=by simp only[bZ,ho]
  have hsp:ja s=bZ s:=by rw[hrw];simp only[ja,ho]
  have hstar:jW s:=by
   intro h;rw[hrw]at h;simp only at h;omega
  have hcn:dI (94::s)=none:=gC fun h=>by
   have:=h.2.1;rw[hL7,hs,DV hx]at this;cases this
  have hop:(cN s).op=o:=by show(bZ s).1=o;rw[hrw]
  rw[Jp hsp];by_cases hk:fJ (cE s)=true∧cV (cN s)=s
  ·have hne:cV (cN s)≠[]:=by rw[hk.2,hs];simp
   have hb:=(nu hne).1;have hr:dI s=some (cN s):=by rw[uw,if_pos ⟨hstar,hk.1,hb,hk.2⟩]
   have hok:FE s (bZ s).1 (cE s) (cT s).2=true:=sO.2 ⟨hk.1,hne,.inl hk.2⟩;rw[if_pos hok];unfold gO;rw[hr];rfl
  ·have hr:dI s=none:=gC fun h=>hk ⟨h.2.1,h.2.2.2⟩
   have hok:¬FE s (bZ s).1 (cE s) (cT s).2=true:=fun h=>by
    obtain⟨h1,h2,h3⟩:=sO.1 h;rcases h3 with h3|h3
    ·exact hk ⟨h1,h3⟩
    ·obtain⟨hb,he⟩:=nu h2;have h3':iC (cN s)=94::s:=by rw[←he];exact h3
     have h7:o=7:=by
      have hh:∃y w,bQ o=y::w∧(y=94→o=7):=by
       have:o=1∨o=2∨o=3∨o=4∨o=5∨o=6∨o=7∨o=8:=by omega
       rcases this with rfl|rfl|rfl|rfl|rfl|rfl|rfl|rfl
       ·exact⟨61,[],by decide,by decide⟩
       ·exact⟨33,[61],by decide,by decide⟩
       ·exact⟨60,[],by decide,by decide⟩
       ·exact⟨60,[61],by decide,by decide⟩
       ·exact⟨62,[],by decide,by decide⟩
       ·exact⟨62,[61],by decide,by decide⟩
       ·exact⟨94,[],by decide,by decide⟩
       ·exact⟨126,[],by decide,by decide⟩
      obtain⟨y,w,e1,e2⟩:=hh;unfold iC at h3';rw[hop,e1]at h3';simp only[List.cons_append,List.cons.injEq]at h3';exact e2 h3'.1
     obtain⟨_,c,r,e1,e2⟩:=tm hb (by rw[hop];exact h7) h3';rw[hs]at e1;simp only[List.cons.injEq]at e1;rw[←e1.1]at e2;exact hx (mE e2).1
   rw[if_neg hok];unfold gO;rw[hr,if_neg (by simp),hcn]
 |none=>
  have hrw:bZ s=(9,s):=by simp only[bZ,ho]
  have h94:∀t,s≠94::t:=by
   rintro t rfl;rw[ud]at ho;cases ho
  have hop:(cN s).op=9:=by show(bZ s).1=9;rw[hrw]
  have hst7:jW (94::s):=by
   intro h;rw[hcar]at h;simp only at h;omega
  by_cases hl:0<s.length∧at8 s (s.length-1)=42
  ·have hsp:ja s=bZ s:=by rw[hrw];simp only[ja,ho,if_pos hl]
   have hcn:dI (94::s)=none:=gC fun h=>by
    obtain⟨_,h2,h3,h4⟩:=h;have he:=(nu (c:=cN (94::s)) (by rw[h4];simp)).2;rw[h4]at he;have hno:=(tm h3 (by rw[hK7];rfl) he.symm).1;have hmem:s[s.length-1]'(by omega)∈s:=List.getElem_mem _;refine hno _ hmem (UInt8.toNat_inj.1 ?_);have:=hl.2;rw[pg s _ (by omega)]at this;show _=42;omega
   rw[Jp hsp];by_cases hk:fJ (cE s)=true∧cV (cN s)=s
   ·have hne:cV (cN s)≠[]:=by
     rw[hk.2];intro h;rw[h]at hl;simp at hl
    obtain⟨hb,he⟩:=nu hne;obtain⟨_,g2,g3⟩:=wJ (s:=s) hb hop (he.symm.trans hk.2);have hstar:jW s:=by
     intro _;have hP:cT s=(s,[]):=by unfold cT;rw[hrw];exact g2
     rw[hP];simp only;rw[g3];simp
    have hr:dI s=some (cN s):=by rw[uw,if_pos ⟨hstar,hk.1,hb,hk.2⟩]
    have hok:FE s (bZ s).1 (cE s) (cT s).2=true:=sO.2 ⟨hk.1,hne,.inl hk.2⟩;rw[if_pos hok];unfold gO;rw[hr];rfl
   ·have hr:dI s=none:=gC fun h=>hk ⟨h.2.1,h.2.2.2⟩
    have hok:¬FE s (bZ s).1 (cE s) (cT s).2=true:=fun h=>by
     obtain⟨h1,h2,h3⟩:=sO.1 h;rcases h3 with h3|h3
     ·exact hk ⟨h1,h3⟩
     ·obtain⟨hb,he⟩:=nu h2;have h3':iC (cN s)=94::s:=by rw[←he];exact h3
      have ht:=wK hb hop;rw[h3']at ht;have hm:(94:UInt8)∈aG [46] (iL (cN s)++[[42]]):=by rw[←ht];simp
      rcases jv 46 _ _ hm with h|⟨w,hw,hcw⟩
      ·revert h;decide
      ·rcases nj hw hcw with h|h
       ·revert h;decide
       ·revert h;decide
    rw[if_neg hok];unfold gO;rw[hr,if_neg (by simp),hcn]
  ·have hsp:ja s=(7,s):=by simp only[ja,ho,if_neg hl]
   have hr:dI s=none:=gC fun h=>by
    obtain⟨h1,h2,h3,h4⟩:=h;have he:iC (cN s)=s:=(if_pos h3:cV (cN s)=iC (cN s)).symm.trans h4;exact hl (wJ h3 hop he).1
   have h6:eY s=if FE s 7 (ai (fK s 0).1 46) (fK s 0).2=true then some (cN (94::s))else none:=by
    unfold eY;simp only[hsp];rw[hK7];rfl
   have hRC:gO s=dI (94::s):=by
    unfold gO;rw[hr];rfl
   rw[hRC,h6,uw];by_cases hok:FE s 7 (ai (fK s 0).1 46) (fK s 0).2=true
   ·rw[if_pos hok];obtain⟨h1,h2,h3⟩:=xI.1 hok;obtain⟨hb,he⟩:=nu h2;rcases h3 with h3|h3
    ·exfalso;rw[he]at h3;have hh:∃w,iC (n5 7 (ai (fK s 0).1 46) (fK s 0).2)=94::w:=by
      unfold iC;exact⟨_,rfl⟩
     obtain⟨w,hw⟩:=hh;exact h94 w (by rw[←h3,hw])
    ·rw[if_pos ⟨hst7,by rw[hL7];exact h1,by rw[hK7];exact hb,by rw[hK7];exact h3⟩]
   ·rw[if_neg hok,if_neg];rintro⟨_,g2,g3,g4⟩;rw[hK7]at g3 g4;rw[hL7]at g2;exact hok (xI.2 ⟨g2,by rw[g4];simp,.inr g4⟩)
abbrev Alt:=List b7
abbrev xd:=List Alt
def pe (a:Alt):D:=.sl 7 (a.map b7.D)
def Ak (a:Alt):(pe a).aL=true:=rfl
def sH (l k:Nat)(es:List D)(r:List Alt):kH l k es (r.map pe)=r.map pe:=tF l k es _ (bt Ak _)
def ik (r:xd):D:=.agg [.sl 1 (r.map pe)]
def lT (a:Alt):Bool:=decide (1≤a.length)&&decide (a.length≤6)&&ca (fun k=>iQ a[k]!) 0 a.length
def kq (r:xd):Bool:=decide (1≤r.length)&&decide (r.length≤6)&&ca (fun i=>lT r[i]!) 0 r.length
def qg (a:Alt):ah:=aG [44,32] (a.map cV)
def DS (r:xd):ah:=aG [32,124,124,32] (r.map qg)
def b7.lo (c:b7):Prop:=c.v.pre.length≤1000∧c.v.build.length≤1000
def b7.lo.sm {c:b7}(h:c.lo):c.v.sm:=⟨Nat.le_trans h.1 (by decide),Nat.le_trans h.2 (by decide)⟩
def nb (r:xd):Prop:=∀a∈r,∀c∈a,c.lo
def yz {c:b7}(h:c.lo):(cV c).length≤1100:=by
 unfold cV;split
 ·rename_i hb;obtain⟨hv,h0,h3,_⟩:=kN hb;have h1:=qZ c.op;have h2:=nJ hv c.parts.toNat;have ht:(gU c).length≤1001:=by
   unfold gU;have:=h.1;split
   ·split<;>simp
   ·split
    ·simp
    ·simp only[List.length_cons];omega
  simp only[iC,List.length_append];omega
 ·simp
def rD (b:ah)(M:Nat):∀(l:List ah),(∀t∈l,t.length≤M)→(aG b l).length≤l.length*(M+b.length)
 |[],_=>by simp[aG]
 |[t],h=>by
  have:=h t (.head _);simp only[aG,List.length_singleton,Nat.one_mul];omega
 |t::u::r,h=>by
  have h1:=h t (.head _);have h2:=rD b M (u::r) fun x hx=>h x (.tail _ hx)
  simp only[aG,List.length_append];simp only[List.length_cons,Nat.add_mul,Nat.one_mul]at h2⊢;omega
def Ep {a:Alt}(h:∀c∈a,c.lo)(hl:a.length≤6):(qg a).length≤6612:=by
 have:=rD [44,32] 1100 (a.map cV) (fun t ht=>by
  obtain⟨c,hc,rfl⟩:=List.mem_map.1 ht;exact yz (h c hc))
 simp only[List.length_map]at this;have h2:a.length*(1100+([44,32]:ah).length)≤6*1102:=Nat.mul_le_mul hl (by decide);unfold qg;omega
def EP {r:xd}(h:kq r=true){i:Nat}(hi:i<r.length):lT r[i]! =true:=by
 simp only[kq,Bool.and_eq_true,decide_eq_true_eq]at h;exact dh.1 h.2 i (by omega) hi
def CD {a:Alt}(h:lT a=true):1≤a.length∧a.length≤6:=by
 simp only[lT,Bool.and_eq_true,decide_eq_true_eq]at h;exact h.1
def iy {α β:Type} [Inhabited α](f:α→β)(l:List α){i:Nat}(h:i<l.length):(l.map f).take (i+1)=(l.map f).take i++[f l[i]!]:=by
 rw[List.take_add_one];simp[h]
def qN (r:xd):Bool:=kq r&&decide ((DS r).length≤96)
def wy (r:xd):ah:=if qN r=true then DS r else []
def aM:ah→ah→List ah
 |[],cur=>[cur]
 |[c],cur=>[cur++[c]]
 |c::d::r,cur=>if c=124∧d=124 then cur::aM r []else aM (d::r) (cur++[c])
def pj:ah→ah
 |[]=>[]
 |c::r=>if c=32 then pj r else c::r
def en (s:ah):ah:=(pj (pj s).reverse).reverse
def kK:∀s,(pj s).length≤s.length
 |[]=>Nat.le_refl _
 |c::r=>by
  unfold pj;split
  ·have:=kK r;simp only[List.length_cons];omega
  ·exact Nat.le_refl _
def vE (s:ah):(en s).length≤s.length:=by
 have h1:=kK s;have h2:=kK (pj s).reverse;simp only[List.length_reverse]at h2;simp only[en,List.length_reverse];omega
def lQ:∀(s cur:ah),(aM s cur).length≤s.length+1∧(∀t∈aM s cur,t.length≤cur.length+s.length)
 |[],cur=>by simp[aM]
 |[c],cur=>by simp[aM]
 |c::d::r,cur=>by
  unfold aM;split
  ·have:=lQ r [];refine⟨by simp only[List.length_cons];omega,fun t ht=>?_⟩;rcases List.mem_cons.1 ht with rfl|ht
   ·simp
   ·have:=this.2 t ht;simp only[List.length_nil,List.length_cons]at this⊢;omega
  ·have:=lQ (d::r) (cur++[c]);refine⟨by have:=this.1;simp only[List.length_cons]at this⊢;omega,fun t ht=>?_⟩;have:=this.2 t ht;simp only[List.length_append,List.length_cons,List.length_nil]at this⊢;omega
def wOK (t:ah):Bool:=ca (fun k=>(eY (en (ai t 44)[k]!)).isSome) 0 (ai t 44).length
def Cf (s:ah):Bool:=ca (fun i=>wOK (aM s [])[i]!) 0 (aM s []).length
def qh (t:ah):Alt:=(ai t 44).map fun x=>(eY (en x)).getD dw
def kE (s:ah):xd:=(aM s []).map qh
def iZ (s:ah):xd×Int:=
 if 96<s.length then([],3)else if Cf s=false then([],6)else if kq (kE s)=false then([],6)else if 96<(DS (kE s)).length then([],3)else(kE s,0)
def nK (s:ah):Bool:=decide ((iZ s).2=0)&&decide (wy (iZ s).1=s)
def EE {s:ah}(h:s.length≤1000):((eY s).getD dw).lo:=by
 unfold eY;simp only;split
 ·have h1:=Bi s;have h2:=zm (ja s).2;exact⟨by show(fK (ja s).2 0).2.length≤1000;omega,by show([]:ah).length≤1000;decide⟩
 ·exact⟨by show([]:ah).length≤1000;decide,by show([]:ah).length≤1000;decide⟩
def Cg {s:ah}(h:s.length≤1000):nb (kE s):=by
 intro a ha c hc;obtain⟨t,ht,rfl⟩:=List.mem_map.1 ha;obtain⟨x,hx,rfl⟩:=List.mem_map.1 hc;have h1:=(lQ s []).2 t ht;have h2:=dq t 44 hx;have h3:=vE x;simp only[List.length_nil]at h1;exact EE (by omega)
def IE {s:ah}:nb (iZ s).1∧((iZ s).2=0→kq (iZ s).1=true):=by
 unfold iZ;split
 ·exact⟨(fun a ha=>by cases ha),fun h=>by cases h⟩
 ·split
  ·exact⟨(fun a ha=>by cases ha),fun h=>by cases h⟩
  ·split
   ·exact⟨(fun a ha=>by cases ha),fun h=>by cases h⟩
   ·rename_i hf;split
    ·exact⟨(fun a ha=>by cases ha),fun h=>by cases h⟩
    ·exact⟨Cg (by omega),fun _=>by simpa using hf⟩
def Nd.eq (a b:Nd):eJ (Nd.D a).cells (Nd.D b).cells=decide (a=b):=by
 obtain⟨a1,a2,a3,a4,a5⟩:=a;obtain⟨b1,b2,b3,b4,b5⟩:=b;simp only[Nd.D,D.cells,eJ,pE,sF,Nd.mk.injEq,Bool.and_true];simp only[Bool.decide_and]
def gN (n:Nd):Bool:=decide (n.key=0)&&decide (n.text=[])
def oa (n:Nd):Bool:=decide (n.op=1)&&decide (0≤n.key)&&decide (n.key<3)&&bI n.text&&decide (n.a=0)&&decide (n.b=0)
def gT (n:Nd)(i:Nat)(o:List Int):Option (List Int):=
 if oa n=true then some (o++[(i:Int)])
 else if(((n.op=2∧gN n=true)∧0<o.length)∧n.a=o[o.length-1]!)∧n.b=0 then some (o.take (o.length-1)++[(i:Int)])
 else if((((n.op=3∨n.op=4)∧gN n=true)∧1<o.length)∧n.a=o[o.length-2]!)∧n.b=o[o.length-1]! then some (o.take (o.length-2)++[(i:Int)])
 else none
def ke:List Nd→Nat→List Int→Option (List Int)
 |[],_,o=>some o
 |n::r,i,o=>match gT n i o with
  |some o'=>ke r (i+1) o'
  |none=>none
def nk (l:List Nd):Bool:=match ke l 0 []with
 |some o=>decide (l.length=0) ||decide (o.length=1)
 |none=>false
def vN {α:Type} [Inhabited α](l:List α){i:Nat}(h:i<l.length):l.drop i=l[i]! ::l.drop (i+1):=by
 rw[List.drop_eq_getElem_cons h];simp[h]
def jR {l:List Nd}{i:Nat}{o o':List Int}(h:i<l.length)(hs:gT l[i]! i o=some o'):ke (l.drop i) i o=ke (l.drop (i+1)) (i+1) o':=by
 rw[vN l h];simp only[ke,hs]
def ee {l:List Nd}{i:Nat}{o:List Int}(h:i<l.length)(hs:gT l[i]! i o=none):ke (l.drop i) i o=none:=by
 rw[vN l h];simp only[ke,hs]
def DH {l:List Nd}{i:Nat}{o:List Int}(h:l.length≤i):ke (l.drop i) i o=some o:=by
 rw[List.drop_eq_nil_of_le h];rfl
def GB {l:List Nd}(h:ke l 0 []=none):nk l=false:=by simp only[nk,h]
def fV {l:List Nd}(h:ke l 0 []=none):(true&&nk l)=false:=by rw[GB h];rfl
def yd (S:List Int):Int→List Int→Prop
 |e,[]=>e=0
 |e,t::r=>t=e-1∧0≤t∧0≤S[t.toNat]! ∧S[t.toNat]! ≤t∧yd S S[t.toNat]! r
def xj {S:List Int}{i:Nat}{v:Int}:∀{r:List Int}{e:Int},e≤i→yd S e r→yd (S.set i v) e r
 |[],e,_,h=>h
 |t::r,e,he,⟨h1,h2,h3,h4,h5⟩=>by
  have hg:(S.set i v)[t.toNat]! =S[t.toNat]! :=by
   have:i≠t.toNat:=by omega
   simp[List.getElem?_set,this]
  exact⟨h1,h2,by rw[hg];exact h3,by rw[hg];exact h4,by rw[hg];exact xj (by omega) h5⟩
def IG {S:List Int}{i:Nat}{v:Int}(h:i<S.length):(S.set i v)[i]! =v:=by
 simp[h]
def pw {S:List Int}{i:Nat}{v:Int}{r:List Int}(h:i<S.length)(h0:0≤v)(h1:v≤i)(hc:yd S v r):yd (S.set i v) ((i+1:Nat):Int) ((i:Int)::r):=by
 have hg:(S.set i v)[((i:Nat):Int).toNat]! =v:=by rw[Int.toNat_natCast];exact IG h
 exact⟨by omega,by omega,by rw[hg];exact h0,by rw[hg];exact h1,by rw[hg];exact xj (by omega) hc⟩
def px {S:List Int}{i:Nat}{o:List Int}(h:yd S (i:Nat) o.reverse):(0<o.length↔1≤i)∧(1≤i→o[o.length-1]! =(i:Int) -1∧0≤S[i-1]! ∧S[i-1]! ≤(i:Int) -1∧yd S S[i-1]! (o.take (o.length-1)).reverse):=by
 rcases List.eq_nil_or_concat o with rfl|⟨p,t,rfl⟩
 ·have h:((i:Nat):Int)=0:=h;exact⟨⟨fun h=>absurd h (by simp),fun h2=>by omega⟩,fun h2=>by omega⟩
 ·rw[List.concat_eq_append,List.reverse_append,List.reverse_singleton,List.singleton_append]at h;obtain⟨h1,h2,h3,h4,h5⟩:=h;have ht:t.toNat=i-1:=by omega
  rw[ht]at h3 h4 h5;rw[List.concat_eq_append];refine⟨⟨fun _=>by omega,fun _=>by simp⟩,fun _=>⟨by simp[h1],h3,by omega, ?_⟩⟩;rw[List.take_append_of_le_length (by simp),List.take_of_length_le (by simp)];exact h5
def xk {S:List Int}{i:Nat}{o:List Int}(h:yd S (i:Nat) o.reverse):(1<o.length↔1≤i∧1≤S[i-1]!)∧(1<o.length→o[o.length-2]! =S[i-1]! -1∧0≤S[(S[i-1]! -1).toNat]! ∧S[(S[i-1]! -1).toNat]! ≤S[i-1]! -1∧yd S S[(S[i-1]! -1).toNat]! (o.take (o.length-2)).reverse):=by
 obtain⟨h1,h2⟩:=px h;by_cases hi:1≤i
 ·obtain⟨g1,g2,g3,g4⟩:=h2 hi;have hl:=h1.2 hi;rcases List.eq_nil_or_concat o with rfl|⟨p,t,rfl⟩
  ·simp at hl
  ·rw[List.concat_eq_append]at g4⊢;rw[List.take_append_of_le_length (by simp),List.take_of_length_le (by simp)]at g4;rcases List.eq_nil_or_concat p with rfl|⟨q,u,rfl⟩
   ·have g4:S[i-1]! =0:=g4;exact⟨⟨fun h=>absurd h (by simp),fun h=>by omega⟩,fun h=>absurd h (by simp)⟩
   ·rw[List.concat_eq_append]at g4⊢;rw[List.reverse_append,List.reverse_singleton,List.singleton_append]at g4;obtain⟨k1,k2,k3,k4,k5⟩:=g4;subst k1;refine⟨⟨fun _=>⟨hi,by omega⟩,fun _=>by simp⟩,fun _=>⟨by simp,k3,k4, ?_⟩⟩;rw[List.append_assoc,List.take_append_of_le_length (by simp),List.take_of_length_le (by simp)];exact k5
 ·have:¬0<o.length:=fun h=>hi (h1.1 h)
  exact⟨⟨fun h=>by omega,fun h=>absurd h.1 hi⟩,fun h=>by omega⟩
def GC {S:List Int}{n:Nat}{o:List Int}(t1:0<o.length↔1≤n)(t2:1≤n→o[o.length-1]! =(n:Int) -1∧0≤S[n-1]! ∧S[n-1]! ≤(n:Int) -1∧yd S S[n-1]! (o.take (o.length-1)).reverse)(u1:1<o.length↔1≤n∧1≤S[n-1]!):
  (decide (n=0) ||decide (o.length=1))=(decide ((n:Nat)=(0:Int)) ||decide (S[n-1]! =0)):=by
 rw[Bool.eq_iff_iff];simp only[Bool.or_eq_true,decide_eq_true_eq];constructor
 ·rintro(h|h)
  ·left;omega
  ·by_cases hn:1≤n
   ·have:=t2 hn;right;omega
   ·left;omega
 ·rintro(h|h)
  ·left;omega
  ·by_cases hn:1≤n
   ·right;omega
   ·left;omega
def tQ {n:Nd}(h:oa n=true):n.op=1:=by simp only[oa,Bool.and_eq_true,decide_eq_true_eq]at h;exact h.1.1.1.1.1
def Bm {n:Nd}{i:Nat}{o:List Int}(h:oa n=true):gT n i o=some (o++[(i:Int)]):=if_pos h
def xY {n:Nd}{i:Nat}{o:List Int}(h1:n.op=1)(h:oa n=false):gT n i o=none:=by
 unfold gT;rw[if_neg (by simp[h]),if_neg (by rintro⟨⟨⟨⟨h,_⟩,_⟩,_⟩,_⟩;omega),if_neg (by rintro⟨⟨⟨⟨h|h,_⟩,_⟩,_⟩,_⟩<;>omega)]
def zK {n:Nd}{i:Nat}{o:List Int}(h1:n.op≠1)(h2:n.op≠2)(h3:n.op≠3)(h4:n.op≠4):gT n i o=none:=by
 unfold gT;rw[if_neg (fun h=>h1 (tQ h)),if_neg (by rintro⟨⟨⟨⟨h,_⟩,_⟩,_⟩,_⟩;exact h2 h),if_neg (by rintro⟨⟨⟨⟨h|h,_⟩,_⟩,_⟩,_⟩;exact h3 h;exact h4 h)]
def rh {S:List Int}{n:Nd}{i:Nat}{o:List Int}(hc:yd S (i:Nat) o.reverse)(h2:n.op=2):gT n i o=if(1≤i∧n.a=(i:Int) -1∧n.b=0)∧gN n=true then some (o.take (o.length-1)++[(i:Int)])else none:=by
 obtain⟨t1,t2⟩:=px hc;unfold gT;rw[if_neg (fun h=>by have:=tQ h;omega)];by_cases hk:(1≤i∧n.a=(i:Int) -1∧n.b=0)∧gN n=true
 ·rw[if_pos hk,if_pos ⟨⟨⟨⟨h2,hk.2⟩,t1.2 hk.1.1⟩,by rw[(t2 hk.1.1).1];exact hk.1.2.1⟩,hk.1.2.2⟩]
 ·rw[if_neg hk,if_neg,if_neg (by rintro⟨⟨⟨⟨h|h,_⟩,_⟩,_⟩,_⟩<;>omega)];rintro⟨⟨⟨⟨_,g1⟩,g2⟩,g3⟩,g4⟩;have hi:=t1.1 g2;exact hk ⟨⟨hi,by rw[g3];exact(t2 hi).1,g4⟩,g1⟩
def jC {S:List Int}{n:Nd}{i:Nat}{o:List Int}(hc:yd S (i:Nat) o.reverse)(h2:n.op=3∨n.op=4):gT n i o=if(2≤i∧n.b=(i:Int) -1∧1≤S[i-1]! ∧n.a=S[i-1]! -1)∧gN n=true then some (o.take (o.length-2)++[(i:Int)])else none:=by
 obtain⟨t1,t2⟩:=px hc;obtain⟨u1,u2⟩:=xk hc;unfold gT;rw[if_neg (fun h=>by have:=tQ h;omega),if_neg (by rintro⟨⟨⟨⟨h,_⟩,_⟩,_⟩,_⟩;omega)];by_cases hk:(2≤i∧n.b=(i:Int) -1∧1≤S[i-1]! ∧n.a=S[i-1]! -1)∧gN n=true
 ·have hl:=u1.2 ⟨by omega,hk.1.2.2.1⟩;rw[if_pos hk,if_pos ⟨⟨⟨⟨h2,hk.2⟩,hl⟩,by rw[(u2 hl).1];exact hk.1.2.2.2⟩,by rw[(t2 (by omega)).1];exact hk.1.2.1⟩]
 ·rw[if_neg hk,if_neg];rintro⟨⟨⟨⟨_,g1⟩,g2⟩,g3⟩,g4⟩;obtain⟨hi,hS⟩:=u1.1 g2;obtain⟨w1,w2,w3,_⟩:=t2 hi;exact hk ⟨⟨by omega,by rw[g4];exact w1,hS,by rw[g3];exact(u2 g2).1⟩,g1⟩
def fH (l:List Nd):Prop:=∀j,j<l.length→(l[j]!.op=1→0≤l[j]!.key∧l[j]!.key<3∧l[j]!.text.length≤12)∧(l[j]!.op≠1→0≤l[j]!.a∧l[j]!.a<j)∧(l[j]!.op≠1→l[j]!.op≠2→0≤l[j]!.b∧l[j]!.b<j)
def A4 {l:List Nd}:∀(k i:Nat)(o o':List Int),i+k=l.length→(∀x∈o,0≤x∧x<(i:Int))→ke (l.drop i) i o=some o'→
  ∀j,i≤j→j<l.length→(l[j]!.op=1→0≤l[j]!.key∧l[j]!.key<3∧l[j]!.text.length≤12)∧(l[j]!.op≠1→0≤l[j]!.a∧l[j]!.a<j)∧(l[j]!.op≠1→l[j]!.op≠2→0≤l[j]!.b∧l[j]!.b<j):=by
 intro k;induction k with
 |zero=>intro i o o' h1 h2 h3 j h4 h5;omega
 |succ k ih=>
  intro i o o' h1 h2 h3 j h4 h5;have hi:i<l.length:=by omega
  cases hs:gT l[i]! i o with
  |none=>rw[ee hi hs]at h3;cases h3
  |some o2=>
   rw[jR hi hs]at h3;have hm:∀m,0<m→m≤o.length→0≤o[o.length-m]! ∧o[o.length-m]! <(i:Int):=fun m hm1 hm2=>h2 _ (bL (by omega))
   have hsub:∀m,∀x∈o.take m++[(i:Int)],0≤x∧x<((i+1:Nat):Int):=fun m x hx=>by
    rcases List.mem_append.1 hx with hx|hx
    ·have:=h2 x (List.mem_of_mem_take hx);omega
    ·simp only[List.mem_singleton]at hx;omega
   unfold gT at hs;split at hs
   ·rename_i hl;cases hs;rcases Nat.lt_or_ge i j with hj|hj
    ·exact ih (i+1) _ o' (by omega) (by have:=hsub o.length;rwa [List.take_of_length_le (Nat.le_refl _)]at this) h3 j hj h5
    ·obtain rfl:i=j:=by omega
     simp only[oa,Bool.and_eq_true,decide_eq_true_eq]at hl;have hw:=hl.1.1.2;simp only[bI,Bool.and_eq_true,decide_eq_true_eq]at hw;exact⟨fun _=>⟨hl.1.1.1.1.2,hl.1.1.1.2,hw.1.2⟩,fun h=>absurd hl.1.1.1.1.1 h,fun h=>absurd hl.1.1.1.1.1 h⟩
   ·split at hs
    ·rename_i hl;cases hs;rcases Nat.lt_or_ge i j with hj|hj
     ·exact ih (i+1) _ o' (by omega) (hsub _) h3 j hj h5
     ·obtain rfl:i=j:=by omega
      obtain⟨⟨⟨⟨g1,g2⟩,g3⟩,g4⟩,g5⟩:=hl;have:=hm 1 (by omega) (by omega);exact⟨fun h=>by omega,fun _=>by rw[g4];exact this,fun _ h=>absurd g1 h⟩
    ·split at hs
     ·rename_i hl;cases hs;rcases Nat.lt_or_ge i j with hj|hj
      ·exact ih (i+1) _ o' (by omega) (hsub _) h3 j hj h5
      ·obtain rfl:i=j:=by omega
       obtain⟨⟨⟨⟨g1,g2⟩,g3⟩,g4⟩,g5⟩:=hl;have q1:=hm 1 (by omega) (by omega);have q2:=hm 2 (by omega) (by omega);exact⟨fun h=>by omega,fun _=>by rw[g4];exact q2,fun _ _=>by rw[g5];exact q1⟩
     ·cases hs
def uJ {l:List Nd}(h:nk l=true):fH l:=by
 unfold nk at h;cases ho:ke l 0 []with
 |none=>rw[ho]at h;cases h
 |some o=>exact fun j hj=>A4 l.length 0 [] o (by omega) (by simp) ho j (Nat.zero_le _) hj
def BW {n:Nd}(h:n.op=1):oa n=!((((decide (n.key<0) ||decide (3≤n.key)) ||!bI n.text) ||!decide (n.a=0)) ||!decide (n.b=0)):=by
 simp only[oa,h,decide_true,Bool.true_and];rw[show decide (n.key<0)=!decide (0≤n.key)from by rw[←decide_not];exact decide_eq_decide.2 (by omega),show decide (3≤n.key)=!decide (n.key<3)from by rw[←decide_not];exact decide_eq_decide.2 (by omega)];generalize decide (0≤n.key)=a;generalize decide (n.key<3)=b;generalize bI n.text=c;generalize decide (n.a=0)=d;generalize decide (n.b=0)=e;cases a<;>cases b<;>cases c<;>cases d<;>cases e<;>rfl
def sR {S:List Int}{i:Nat}(h:i<S.length)(v:Int):(S.map (D.int .i64)).set (0+i) (uG ((S.map (D.int .i64)).getD (0+i) .any) 1 1 0 (.int .i64 v))=(S.set i v).map (D.int .i64):=by
 rw[Nat.zero_add,getD_map (q:=D.int .i64) h,List.map_set];rfl
abbrev I5:=List Nd
def j3 (m:I5):D:=.agg [.sl 5 (m.map Nd.D)]
def lY:List ah:=[[111,115],[97,114,99,104],[97,98,105]]
def xz (k:Int):ah:=if k=0 then [111,115]else if k=1 then [97,114,99,104]else [97,98,105]
def jY (s:ah)(b:Bool):ah:=if b=true then [40,32]++s++[32,41]else s
def nn (l:List Nd):Nat→Int→ah
 |0,_=>[]
 |f+1,i=>
  if l[i.toNat]!.op=1 then xz l[i.toNat]!.key++[32,61,32]++l[i.toNat]!.text
  else if l[i.toNat]!.op=2 then
   if l[l[i.toNat]!.a.toNat]!.op=1 then xz l[l[i.toNat]!.a.toNat]!.key++[32,33,61,32]++l[l[i.toNat]!.a.toNat]!.text
   else [110,111,116,32]++jY (nn l f l[i.toNat]!.a) (!decide (l[l[i.toNat]!.a.toNat]!.op=2))
  else if l[i.toNat]!.op=3 then jY (nn l f l[i.toNat]!.a) (decide (l[l[i.toNat]!.a.toNat]!.op=4))++[32,97,110,100,32]++jY (nn l f l[i.toNat]!.b) (decide (l[l[i.toNat]!.b.toNat]!.op=4) ||decide (l[l[i.toNat]!.b.toNat]!.op=3))
  else nn l f l[i.toNat]!.a++[32,111,114,32]++jY (nn l f l[i.toNat]!.b) (decide (l[l[i.toNat]!.b.toNat]!.op=4))
def kF (l:List Nd)(i:Int):ah:=nn l (i.toNat+1) i
def sU {l:List Nd}(hk:fH l):∀(f g:Nat)(i:Int),0≤i→i<l.length→i<f→i<g→nn l f i=nn l g i
 |0,_,_,_,_,h,_=>by omega
 |_,0,_,_,_,_,h=>by omega
 |f+1,g+1,i,h0,h1,h2,h3=>by
  obtain⟨k1,k2,k3⟩:=hk i.toNat (by omega);simp only[nn];by_cases e1:l[i.toNat]!.op=1
  ·rw[if_pos e1,if_pos e1]
  ·rw[if_neg e1,if_neg e1];have ka:=k2 e1;rw[sU hk f g l[i.toNat]!.a (by omega) (by omega) (by omega) (by omega)];by_cases e2:l[i.toNat]!.op=2
   ·rw[if_pos e2,if_pos e2]
   ·have kb:=k3 e1 e2;rw[sU hk f g l[i.toNat]!.b (by omega) (by omega) (by omega) (by omega)]
def IL {l:List Nd}(hk:fH l){i:Int}(h0:0≤i)(h1:i<l.length):kF l i=
  if l[i.toNat]!.op=1 then xz l[i.toNat]!.key++[32,61,32]++l[i.toNat]!.text
  else if l[i.toNat]!.op=2 then
   if l[l[i.toNat]!.a.toNat]!.op=1 then xz l[l[i.toNat]!.a.toNat]!.key++[32,33,61,32]++l[l[i.toNat]!.a.toNat]!.text
   else [110,111,116,32]++jY (kF l l[i.toNat]!.a) (!decide (l[l[i.toNat]!.a.toNat]!.op=2))
  else if l[i.toNat]!.op=3 then jY (kF l l[i.toNat]!.a) (decide (l[l[i.toNat]!.a.toNat]!.op=4))++[32,97,110,100,32]++jY (kF l l[i.toNat]!.b) (decide (l[l[i.toNat]!.b.toNat]!.op=4) ||decide (l[l[i.toNat]!.b.toNat]!.op=3))
  else kF l l[i.toNat]!.a++[32,111,114,32]++jY (kF l l[i.toNat]!.b) (decide (l[l[i.toNat]!.b.toNat]!.op=4)):=by
 obtain⟨k1,k2,k3⟩:=hk i.toNat (by omega)
 conv=>lhs;unfold kF
 simp only[nn];by_cases e1:l[i.toNat]!.op=1
 ·rw[if_pos e1,if_pos e1]
 ·rw[if_neg e1,if_neg e1];have ka:=k2 e1;rw[show nn l i.toNat l[i.toNat]!.a=kF l l[i.toNat]!.a from sU hk _ _ _ (by omega) (by omega) (by omega) (by omega)];by_cases e2:l[i.toNat]!.op=2
  ·rw[if_pos e2,if_pos e2]
  ·have kb:=k3 e1 e2;rw[show nn l i.toNat l[i.toNat]!.b=kF l l[i.toNat]!.b from sU hk _ _ _ (by omega) (by omega) (by omega) (by omega)]
def nQ (s:ah)(b:Bool):(jY s b).length≤s.length+4:=by
 unfold jY;split<;>simp
def vY {k:Int}(h0:0≤k)(h3:k<3):lY[k.toNat]! =xz k:=by
 obtain rfl|rfl|rfl:k=0∨k=1∨k=2:=by omega
 ·rfl
 ·rfl
 ·rfl
def pO (k:Int):(xz k).length≤4:=by
 unfold xz;split
 ·decide
 ·split<;>decide
def uK {l:List Nd}(hk:fH l):∀(f:Nat)(i:Int),0≤i→i<l.length→(nn l f i).length+20≤20*2^(f+1)
 |0,i,_,_=>by simp[nn]
 |f+1,i,h0,h1=>by
  obtain⟨k1,k2,k3⟩:=hk i.toNat (by omega);have hp:20*2^(f+1+1)=20*2^(f+1)+20*2^(f+1):=by rw[Nat.pow_succ 2 (f+1)];omega
  have h1p:1≤2^(f+1):=Nat.one_le_two_pow;simp only[nn];by_cases e1:l[i.toNat]!.op=1
  ·rw[if_pos e1];have:=pO l[i.toNat]!.key;have:=k1 e1;simp only[List.length_append,List.length_cons,List.length_nil];omega
  ·rw[if_neg e1];have ka:=k2 e1;have la:=uK hk f l[i.toNat]!.a (by omega) (by omega);have wa:=fun b=>nQ (nn l f l[i.toNat]!.a) b
   by_cases e2:l[i.toNat]!.op=2
   ·rw[if_pos e2];split
    ·rename_i e3;have:=pO l[l[i.toNat]!.a.toNat]!.key;have:=((hk l[i.toNat]!.a.toNat (by omega)).1 e3).2.2;simp only[List.length_append,List.length_cons,List.length_nil];omega
    ·have:=wa (!decide (l[l[i.toNat]!.a.toNat]!.op=2));simp only[List.length_append,List.length_cons,List.length_nil];omega
   ·rw[if_neg e2];have kb:=k3 e1 e2;have lb:=uK hk f l[i.toNat]!.b (by omega) (by omega);have wb:=fun b=>nQ (nn l f l[i.toNat]!.b) b
    split
    ·have:=wa (decide (l[l[i.toNat]!.a.toNat]!.op=4));have:=wb (decide (l[l[i.toNat]!.b.toNat]!.op=4) ||decide (l[l[i.toNat]!.b.toNat]!.op=3));simp only[List.length_append,List.length_cons,List.length_nil];omega
    ·have:=wb (decide (l[l[i.toNat]!.b.toNat]!.op=4));simp only[List.length_append,List.length_cons,List.length_nil];omega
def uL {l:List Nd}(hk:fH l)(hl:l.length≤15){i:Int}(h0:0≤i)(h1:i<l.length):(kF l i).length≤1310720:=by
 have h:=uK hk (i.toNat+1) i h0 h1;have:2^(i.toNat+1+1)≤2^16:=Nat.pow_le_pow_right (by omega) (by omega);unfold kF;omega
def oZ (l:List Nd):ah:=if l.length=0 then []else kF l ((l.length:Int) -1)
def vn (l:List Nd):Bool:=(decide (l.length≤15)&&nk l)&&decide ((oZ l).length≤96)
def LI (l:List Nd):ah:=if vn l=true then oZ l else []
abbrev PR:=Option (Int×List ah×List Nd)
def xy (k:ah):Int:=if k=[111,115]then 0 else if k=[97,114,99,104]then 1 else if k=[97,98,105]then 2 else-1
def An (k s v:ah):Bool:=(decide (0≤xy k)&&bI v)&&(decide (s=[61]) ||decide (s=[33,61]))
def yq (k s v:ah)(r:List ah)(nd:List Nd):Int×List ah×List Nd:=
 if s=[33,61]then(((nd++[(⟨1,0,0,xy k,v⟩:Nd)]).length:Nat),r,(nd++[⟨1,0,0,xy k,v⟩])++[⟨2,(nd.length:Nat),0,0,[]⟩])
 else((nd.length:Nat),r,nd++[⟨1,0,0,xy k,v⟩])
def rp (k:ah)(w:List ah)(nd:List Nd):PR:=match w with
 |s::v::r=>if An k s v=true then some (yq k s v r nd)else none
 |_=>none
def gS (part:List ah→List Nd→PR)(wd:ah)(op:Int):Nat→Int→List ah→List Nd→PR
 |0,a,w,nd=>some (a,w,nd)
 |f+1,a,w,nd=>match w with
  |[]=>some (a,w,nd)
  |x::r=>if x=wd then(match part r nd with
    |none=>none
    |some (b,w',nd')=>gS part wd op f (nd'.length:Nat) w' (nd'++[⟨op,a,b,0,[]⟩]))
   else some (a,w,nd)
def fe (part:List ah→List Nd→PR)(wd:ah)(op:Int)(w:List ah)(nd:List Nd):PR:=match part w nd with
 |none=>none
 |some (a,w',nd')=>gS part wd op w'.length a w' nd'
def wO:ah:=[110,111,116]
def lR:ah:=[40]
def sV:ah:=[41]
def rV:ah:=[97,110,100]
def zU:ah:=[111,114]
def ox (r:PR):PR:=match r with
 |some (a,x::w',nd')=>if x=sV then some (a,w',nd')else none
 |_=>none
def KN (r:PR):PR:=match r with
 |some (a,w',nd')=>some ((nd'.length:Nat),w',nd'++[⟨2,a,0,0,[]⟩])
 |none=>none
def nU:Nat→List ah→List Nd→PR
 |0,_,_=>none
 |f+1,w,nd=>match w with
  |[]=>none
  |k::r=>if k=wO then KN (nU f r nd)
   else if k=lR then ox (fe (fe (nU f) rV 3) zU 4 r nd)
   else rp k r nd
def PB (w:List ah)(nd:List Nd)(w':List ah)(nd':List Nd):Prop:=w'.length≤w.length∧nd'.length+2*w'.length≤nd.length+2*w.length∧w'<:+w
def r5 (part:List ah→List Nd→PR):Prop:=∀w nd a w' nd',part w nd=some (a,w',nd')→PB w nd w' nd'∧w'.length<w.length
def PB.refl (w:List ah)(nd:List Nd):PB w nd w nd:=⟨Nat.le_refl _,Nat.le_refl _,List.suffix_refl _⟩
def PB.trans {w nd w' nd' w2 nd2}(h:PB w nd w' nd')(h2:PB w' nd' w2 nd2):PB w nd w2 nd2:=⟨Nat.le_trans h2.1 h.1,Nat.le_trans h2.2.1 h.2.1,h2.2.2.trans h.2.2⟩
def PB.tail {x:ah}{w:List ah}{nd:List Nd}{w':List ah}{nd':List Nd}(h:PB w nd w' nd')(n:Nd):PB (x::w) nd w' (nd'++[n]):=by
 obtain⟨h1,h2,h3⟩:=h;refine⟨by simp only[List.length_cons];omega,by simp only[List.length_append,List.length_cons,List.length_nil];omega,h3.trans (List.suffix_cons x w)⟩
def PB.zM {x:ah}{w:List ah}{nd:List Nd}{w':List ah}{nd':List Nd}(h:PB w nd w' nd'):PB (x::w) nd w' nd':=by
 obtain⟨h1,h2,h3⟩:=h;exact⟨by simp only[List.length_cons];omega,by simp only[List.length_cons];omega,h3.trans (List.suffix_cons x w)⟩
def tR {part:List ah→List Nd→PR}(hp:r5 part)(wd:ah)(op:Int):∀(f:Nat)(a:Int)(w:List ah)(nd:List Nd)(a':Int)(w':List ah)(nd':List Nd),gS part wd op f a w nd=some (a',w',nd')→PB w nd w' nd'
 |0,a,w,nd,a',w',nd',h=>by simp only[gS,Option.some.injEq,Prod.mk.injEq]at h;obtain⟨rfl,rfl,rfl⟩:=h;exact .refl _ _
 |f+1,a,[],nd,a',w',nd',h=>by simp only[gS,Option.some.injEq,Prod.mk.injEq]at h;obtain⟨rfl,rfl,rfl⟩:=h;exact .refl _ _
 |f+1,a,x::r,nd,a',w',nd',h=>by
  simp only[gS]at h;by_cases hx:x=wd
  ·rw[if_pos hx]at h;cases hq:part r nd with
   |none=>rw[hq]at h;cases h
   |some t=>
    obtain⟨b,w2,nd2⟩:=t;rw[hq]at h;exact((hp _ _ _ _ _ hq).1.tail _).trans (tR hp wd op f _ _ _ _ _ _ h)
  ·rw[if_neg hx]at h;simp only[Option.some.injEq,Prod.mk.injEq]at h;obtain⟨rfl,rfl,rfl⟩:=h;exact .refl _ _
def iB {part:List ah→List Nd→PR}(hp:r5 part)(wd:ah)(op:Int):r5 (fe part wd op):=by
 intro w nd a w' nd' h;unfold fe at h;cases hq:part w nd with
 |none=>rw[hq]at h;cases h
 |some t=>
  obtain⟨b,w2,nd2⟩:=t;rw[hq]at h;obtain⟨h1,h2⟩:=hp _ _ _ _ _ hq;have:=tR hp wd op _ _ _ _ _ _ _ h;exact⟨h1.trans this,Nat.lt_of_le_of_lt this.1 h2⟩
def og {k:ah}{w:List ah}{nd:List Nd}{a:Int}{w':List ah}{nd':List Nd}(h:rp k w nd=some (a,w',nd')):PB w nd w' nd':=by
 match w,h with
 |s::v::r,h=>
  simp only[rp]at h;split at h
  ·simp only[Option.some.injEq]at h;unfold yq at h;have hs:r<:+s::v::r:=(List.suffix_cons v r).trans (List.suffix_cons s _);split at h<;>(simp only[Prod.mk.injEq]at h;obtain⟨rfl,rfl,rfl⟩:=h;exact⟨by simp only[List.length_cons];omega,by simp only[List.length_append,List.length_cons,List.length_nil];omega,hs⟩)
  ·cases h
 |[_],h=>cases h
 |[],h=>cases h
def gZ:∀f,r5 (nU f)
 |0=>fun w nd a w' nd' h=>by cases h
 |f+1=>by
  intro w nd a w' nd' h
  match w,h with
  |[],h=>cases h
  |k::r,h=>
   simp only[nU]at h;split at h
   ·cases hq:nU f r nd with
    |none=>rw[hq]at h;cases h
    |some t=>
     obtain⟨b,w2,nd2⟩:=t;rw[hq]at h;simp only[KN,Option.some.injEq,Prod.mk.injEq]at h;obtain⟨rfl,rfl,rfl⟩:=h;obtain⟨h1,h2⟩:=gZ f _ _ _ _ _ hq;exact⟨h1.tail _,by simp only[List.length_cons];omega⟩
   ·split at h
    ·cases hq:fe (fe (nU f) rV 3) zU 4 r nd with
     |none=>rw[hq]at h;cases h
     |some t=>
      obtain⟨b,w2,nd2⟩:=t;rw[hq]at h;obtain⟨h1,h2⟩:=iB (iB (gZ f) _ _) _ _ _ _ _ _ _ hq
      match w2,h,h1,h2 with
      |[],h,_,_=>cases h
      |x::w3,h,h1,h2=>
       simp only[ox]at h;split at h
       ·simp only[Option.some.injEq,Prod.mk.injEq]at h;obtain⟨rfl,rfl,rfl⟩:=h;exact⟨(h1.trans (PB.refl _ _).zM).zM,by simp only[List.length_cons]at h2⊢;omega⟩
       ·cases h
    ·exact⟨(og h).zM,by have:=(og h).1;simp only[List.length_cons];omega⟩
def za {p p':List ah→List Nd→PR}(hp:r5 p)(wd:ah)(op:Int){u:Nat}(h:∀w nd,w.length<u→p w nd=p' w nd):∀(f:Nat)(a:Int)(w:List ah)(nd:List Nd),w.length≤u→gS p wd op f a w nd=gS p' wd op f a w nd
 |0,a,w,nd,hu=>rfl
 |f+1,a,[],nd,hu=>rfl
 |f+1,a,x::r,nd,hu=>by
  simp only[List.length_cons]at hu;simp only[gS];split
  ·rw[←h r nd (by omega)];cases hq:p r nd with
   |none=>rfl
   |some t=>
    obtain⟨b,w2,nd2⟩:=t;have:=hp _ _ _ _ _ hq;exact za hp wd op h f _ _ _ (by omega)
  ·rfl
def nr {p p':List ah→List Nd→PR}(hp:r5 p)(wd:ah)(op:Int){u:Nat}(h:∀w nd,w.length<u→p w nd=p' w nd):∀w nd,w.length<u→fe p wd op w nd=fe p' wd op w nd:=by
 intro w nd hu;unfold fe;rw[←h w nd hu];cases hq:p w nd with
 |none=>rfl
 |some t=>
  obtain⟨b,w2,nd2⟩:=t;have:=hp _ _ _ _ _ hq;exact za hp wd op h _ _ _ _ (by omega)
def BK:∀(u f g:Nat)(w:List ah)(nd:List Nd),w.length<u→w.length≤f→w.length≤g→nU f w nd=nU g w nd
 |0,_,_,_,_,h,_,_=>absurd h (Nat.not_lt_zero _)
 |u+1,f,g,[],nd,hu,hf,hg=>by cases f<;>cases g<;>rfl
 |u+1,0,_,_::_,_,_,h,_=>by simp at h
 |u+1,_,0,_::_,_,_,_,h=>by simp at h
 |u+1,f+1,g+1,k::r,nd,hu,hf,hg=>by
  simp only[List.length_cons]at hu hf hg;have ih:∀w nd,w.length<r.length+1→nU f w nd=nU g w nd:=fun w nd h=>BK u f g w nd (by omega) (by omega) (by omega)
  simp only[nU];rw[ih r nd (by omega),nr (iB (gZ f) _ _) zU 4 (nr (gZ f) rV 3 ih) r nd (by omega)]
def lC (w:List ah)(nd:List Nd):PR:=nU w.length w nd
def po:List ah→List Nd→PR:=fe lC rV 3
def jH:List ah→List Nd→PR:=fe po zU 4
def vO:r5 lC:=fun w nd a w' nd' h=>gZ _ w nd a w' nd' h
def Au:r5 po:=iB vO _ _
def xo (k:ah)(r:List ah)(nd:List Nd):lC (k::r) nd=if k=wO then KN (lC r nd)else if k=lR then ox (jH r nd)else rp k r nd:=by
 show nU (r.length+1) (k::r) nd=_;simp only[nU];have ih:∀w nd,w.length<r.length+1→nU r.length w nd=lC w nd:=fun w nd h=>BK (r.length+1) _ _ w nd h (by omega) (Nat.le_refl _)
 rw[show nU r.length r nd=lC r nd from rfl,nr (iB (gZ _) _ _) zU 4 (nr (gZ _) rV 3 ih) r nd (by omega)];rfl
def v8 {part:List ah→List Nd→PR}{wd:ah}{op:Int}{f:Nat}{a:Int}{nd:List Nd}:gS part wd op f a [] nd=some (a,[],nd):=by cases f<;>rfl
def Fp {part:List ah→List Nd→PR}{wd:ah}{op:Int}{f:Nat}{a:Int}{w:List ah}{nd:List Nd}(h:w.head? ≠some wd):gS part wd op f a w nd=some (a,w,nd):=by
 cases f with
 |zero=>rfl
 |succ f=>match w,h with
  |[],_=>rfl
  |x::r,h=>simp only[gS];rw[if_neg (by rintro rfl;exact h rfl)]
def tS {part:List ah→List Nd→PR}(hp:r5 part){wd:ah}{op:Int}:∀(f g:Nat)(a:Int)(w:List ah)(nd:List Nd),w.length≤f→w.length≤g→gS part wd op f a w nd=gS part wd op g a w nd
 |_,_,a,[],nd,_,_=>by rw[v8,v8]
 |0,_,_,_::_,_,h,_=>by simp at h
 |_,0,_,_::_,_,_,h=>by simp at h
 |f+1,g+1,a,x::r,nd,hf,hg=>by
  simp only[List.length_cons]at hf hg;simp only[gS];split
  ·cases hq:part r nd with
   |none=>rfl
   |some t=>
    obtain⟨b,w2,nd2⟩:=t;have:=hp _ _ _ _ _ hq;exact tS hp f g _ _ _ (by omega) (by omega)
  ·rfl
def BX (part:List ah→List Nd→PR)(wd:ah)(op:Int)(a:Int)(w:List ah)(nd:List Nd):PR:=gS part wd op w.length a w nd
def Dn {part:List ah→List Nd→PR}(hp:r5 part){wd:ah}{op:Int}{a:Int}{r:List ah}{nd:List Nd}:BX part wd op a (wd::r) nd=match part r nd with
  |none=>none
  |some (b,w',nd')=>BX part wd op (nd'.length:Nat) w' (nd'++[⟨op,a,b,0,[]⟩]):=by
 show gS part wd op (r.length+1) a (wd::r) nd=_;simp only[gS,if_true];cases hq:part r nd with
 |none=>rfl
 |some t=>
  obtain⟨b,w2,nd2⟩:=t;have:=hp _ _ _ _ _ hq;exact tS hp _ _ _ _ _ (by omega) (Nat.le_refl _)
structure PO where
 a:Int
 w:List ah
 nd:List Nd
 bad:Bool
def dP (R:PR)(w:List ah)(nd:List Nd)(o:PO):Prop:=(R=some (o.a,o.w,o.nd)∧o.bad=false∨R=none∧o.bad=true)∧PB w nd o.w o.nd
def AX (s:ah):Option (List Nd):=match jH (ai s 32) []with
 |some (_,[],nd)=>if vn nd=true then some nd else none
 |_=>none
def lL (s:ah):List Nd×Int:=if 96<s.length then([],3)else if s=[]then([],0)else match AX s with
 |some nd=>(nd,0)
 |none=>([],7)
def lK (s:ah):Bool:=decide ((lL s).2=0)&&decide (LI (lL s).1=s)
abbrev Ai:=List ah→D→Bool→D
def ek:Ai:=fun w X b=>.agg [.sl 1 (w.map D.str),X,.bool b]
def qf (Γ:Ctx)(k:Nat)(ob:Ai)(n:Nat)(VZ:List D)(w:List ah)(nd:List Nd)(b:Bool)(P:PO→Prop)(V:PO→D):Prop:=
 ∀(nx lp ln:Nat) (m:List (Nat×aW)) (K:D→St→Prop),look m lp=some (.buf k [ob w (.own ln 5 0 nd.length) b])→look m ln=some (.buf 5 (nd.map Nd.D))→lp<nx→ln<nx→
  (∀o,P o→K (V o) ⟨nx+1,(nx,.buf 5 (o.nd.map Nd.D))::bS (bO m ln) lp (.buf k [ob o.w (.own nx 5 0 o.nd.length) o.bad])⟩)→Γ.tr n (.ptr lp k 0 0::VZ) ⟨nx,m⟩ K
def Np (Γ:Ctx)(k:Nat)(ob:Ai)(n:Nat)(VZ:List D)(w:List ah)(nd:List Nd)(b:Bool)(P:PO→Prop)(V:PO→D):Prop:=
 ∀(nx lp ln:Nat) (m:List (Nat×aW)) (K:D→St→Prop),look m lp=some (.buf k [ob w (.own ln 5 0 nd.length) b])→look m ln=some (.buf 5 (nd.map Nd.D))→lp<nx→ln<nx→
  (∀o,P o→K (V o) ⟨nx,bS m lp (.buf k [ob o.w (.own ln 5 0 nd.length) o.bad])⟩)→Γ.tr n (.ptr lp k 0 0::VZ) ⟨nx,m⟩ K
def Aj (k:Nat)(ob:Ai)(P:PO→Prop)(V:PO→D):D→List (Nat×aW)→Prop:=fun d m=>∃(o:PO)(j:Nat),2≤j∧P o∧d=V o∧look m 0=some (.buf k [ob o.w (.own j 5 0 o.nd.length) o.bad])∧look m j=some (.buf 5 (o.nd.map Nd.D))
def I6 (k:Nat)(ob:Ai)(nd:List Nd)(P:PO→Prop)(V:PO→D):D→List (Nat×aW)→Prop:=fun d m=>∃(o:PO),P o∧d=V o∧look m 0=some (.buf k [ob o.w (.own 1 5 0 nd.length) o.bad])∧look m 1=some (.buf 5 (nd.map Nd.D))
def Va:PO→D:=fun o=>.int .i64 o.a
def KH {m:List (Nat×aW)}(x:Nd):GY m [.a,.a,.a,.a,.a] (Nd.D x):=⟨rfl,rfl,rfl,rfl,rfl,rfl⟩
def FC {m:List (Nat×aW)}{lp ln:Nat}{w:List ah}{nd:List Nd}{b:Bool}(h1:look m lp=some (.buf 3 [ek w (.own ln 5 0 nd.length) b]))(h2:look m ln=some (.buf 5 (nd.map Nd.D))):
  iw m [[.pt [.sl 1 [.a],.sl 5 [.a,.a,.a,.a,.a],.a]]] [.ptr lp 3 0 0]:=by
 refine⟨⟨by simp[dC,h1], ?_⟩,trivial⟩;intro e he;simp only[aE,h1,List.mem_singleton]at he;subst he;refine⟨rfl,⟨by simp[dC,h2], ?_⟩,rfl,rfl⟩;simp only[aE,h2,List.drop_zero,aK];intro e he;obtain⟨x,_,rfl⟩:=List.mem_map.1 he;exact KH x
def bM (w:List ah):ah:=w.headD []
def aR (w:List ah):List ah:=if bM w=[]then w else w.drop 1
def bW (w:List ah)(b:Bool):Bool:=if bM w=[]then true else b
def nO {w:List ah}{x:ah}(hx:x≠[])(h:bM w=x):∃r,w=x::r:=by
 match w,h with
 |[],h=>exact absurd h.symm hx
 |y::r,h=>exact⟨r,by rw[show y=x from h]⟩
def Gx {w:List ah}(h:¬bM w=[]):1≤w.length:=by
 match w,h with
 |[],h=>exact absurd rfl h
 |_::_,_=>simp
def fQ {x:ah}{r:List ah}(hx:x≠[]):aR (x::r)=r:=if_neg hx
def fP {x:ah}{r:List ah}{b:Bool}(hx:x≠[]):bW (x::r) b=b:=if_neg hx
def DY (w:List ah):aR w<:+w:=by
 unfold aR;split
 ·exact List.suffix_refl _
 ·exact List.drop_suffix 1 w
def lh (w:List ah)(nd:List Nd):PB w nd (aR w) nd:=by
 have h:=DY w;have:=h.length_le;exact⟨this,by omega,h⟩
def zN {w:List ah}{b:Bool}(h:bW w b=false):b=false∧bM w≠[]∧w=bM w::aR w:=by
 unfold bW at h;split at h
 ·cases h
 ·rename_i hs;refine⟨h,hs, ?_⟩
  match w,hs with
  |x::r,hs=>rw[fQ (x:=x) (r:=r) hs];rfl
def jE (b:Bool)(k:ah)(w:List ah)(nd:List Nd):PR:=if b=true then none else rp k w nd
def Ff {j:Nat}{k:ah}(hj:j<3)(h:lY[j]! =k):xy k=(j:Nat):=by
 obtain rfl|rfl|rfl:j=0∨j=1∨j=2:=by omega
 all_goals (subst h;rfl)
def De {k:ah}(h:0≤xy k):∃j,j<3∧lY[j]! =k∧xy k=(j:Nat):=by
 unfold xy at h⊢;by_cases h1:k=[111,115]
 ·exact⟨0,by omega,h1.symm,by rw[if_pos h1];rfl⟩
 ·by_cases h2:k=[97,114,99,104]
  ·exact⟨1,by omega,h2.symm,by rw[if_neg h1,if_pos h2];rfl⟩
  ·by_cases h3:k=[97,98,105]
   ·exact⟨2,by omega,h3.symm,by rw[if_neg h1,if_neg h2,if_pos h3];rfl⟩
   ·rw[if_neg h1,if_neg h2,if_neg h3]at h;omega
def AI (j:Nat)(k s v:ah)(bad:Bool):Bool:=!(((!decide (lY[j]! =k) ||bad) ||(!decide (s=[61])&& !decide (s=[33,61]))) ||!bI v)
def E4 {j:Nat}{k:ah}{w:List ah}{nd:List Nd}{b:Bool}(hj:j<3)(h:AI j k (bM w) (bM (aR w)) (bW (aR w) (bW w b))=true):
  jE b k w nd=some (yq k (bM w) (bM (aR w)) (aR (aR w)) nd)∧xy k=(j:Nat)∧bW (aR w) (bW w b)=false:=by
 have h0:=h;simp only[AI,Bool.not_or,Bool.and_eq_true,Bool.not_not,decide_eq_true_eq,Bool.not_eq_true',Bool.not_and,Bool.or_eq_true]at h;obtain⟨⟨⟨h1,h2⟩,h3⟩,h4⟩:=h;have hk:=Ff hj h1;obtain⟨g1,g2,g3⟩:=zN h2;obtain⟨g4,g5,g6⟩:=zN g1;refine⟨?_,hk,h2⟩;unfold jE;rw[g4,if_neg (by simp)]
 conv=>lhs;rw[g6,g3]
 simp only[rp];rw[if_pos];simp only[An,Bool.and_eq_true,Bool.or_eq_true,decide_eq_true_eq];exact⟨⟨by omega,h4⟩,h3⟩
def HN {k:ah}{w:List ah}{nd:List Nd}{b:Bool}(h:∀j,j<3→AI j k (bM w) (bM (aR w)) (bW (aR w) (bW w b))=false):jE b k w nd=none:=by
 unfold jE;split
 ·rfl
 ·rename_i hb
  match w with
  |[]=>rfl
  |[_]=>rfl
  |s::v::r=>
   simp only[rp];rw[if_neg];intro ha;simp only[An,Bool.and_eq_true,Bool.or_eq_true,decide_eq_true_eq]at ha;obtain⟨⟨h1,h2⟩,h3⟩:=ha;obtain⟨j,hj,hj2,_⟩:=De h1;have hs:s≠[]:=by rintro rfl;rcases h3 with h|h<;>cases h
   have hv:v≠[]:=by rintro rfl;cases h2
   have:=h j hj;rw[fQ hs,fP hs,fP hv]at this;simp only[Bool.not_eq_true]at hb;subst hb;revert this;simp only[AI,bM,List.headD_cons,hj2,h2,decide_true];rcases h3 with rfl|rfl<;>simp
def BB (w:List ah)(nd:List Nd):PB w nd (aR (aR w)) nd:=(lh w nd).trans (lh _ nd)
def tc {b:Bool}{k:ah}{w:List ah}{nd:List Nd}{a:Int}{w':List ah}{nd':List Nd}(h:jE b k w nd=some (a,w',nd')):PB w nd w' nd':=by
 unfold jE at h;split at h
 ·cases h
 ·exact og h
def EN {w:List ah}{nd:List Nd}(h1:bM w≠wO)(h2:bM w≠lR):lC w nd=jE (bW w false) (bM w) (aR w) nd:=by
 match w with
 |[]=>rfl
 |k::r=>
  have h1:k≠wO:=h1;have h2:k≠lR:=h2;rw[xo,if_neg h1,if_neg h2];by_cases hk:k=[]
  ·subst hk;show rp [] r nd=none
   match r with
   |[]=>rfl
   |[_]=>rfl
   |s::v::r=>rfl
  ·rw[fQ hk,fP hk];rfl
def EC {R:PR}{o:PO}{w:List ah}{nd:List Nd}(h:dP R w nd o)(hs:bM o.w≠sV):ox R=none:=by
 rcases h.1 with⟨h1,_⟩|⟨h1,_⟩
 ·rw[h1]
  match ho:o.w,hs with
  |[],_=>rfl
  |x::r,hs=>simp only[ox];exact if_neg hs
 ·rw[h1];rfl
def dP.pb {R:PR}{o:PO}{w:List ah}{nd:List Nd}(h:dP R w nd o):PB w nd o.w o.nd:=h.2
def Ik {r:List ah}{nd:List Nd}{o:PO}(h:dP (lC r nd) r nd o):dP (lC (wO::r) nd) (wO::r) nd ⟨(o.nd.length:Nat),o.w,o.nd++[⟨2,o.a,0,0,[]⟩],o.bad⟩:=by
 refine⟨?_,h.2.tail _⟩;rw[xo,if_pos rfl];rcases h.1 with⟨h1,h2⟩|⟨h1,h2⟩
 ·left;rw[h1];exact⟨rfl,h2⟩
 ·right;rw[h1];exact⟨rfl,h2⟩
def yE (r:List ah)(nd:List Nd):lC (lR::r) nd=ox (jH r nd):=by rw[xo,if_neg (by decide),if_pos rfl]
def zk {r:List ah}{nd:List Nd}{o:PO}(h:dP (jH r nd) r nd o)(hs:¬bM o.w=sV):dP (lC (lR::r) nd) (lR::r) nd ⟨o.a,aR o.w,o.nd,true⟩:=
 ⟨.inr ⟨by rw[yE,EC h hs],rfl⟩,h.2.zM.trans (lh _ _)⟩
def FX {r:List ah}{nd:List Nd}{o:PO}(h:dP (jH r nd) r nd o)(hs:bM o.w=sV):dP (lC (lR::r) nd) (lR::r) nd ⟨o.a,aR o.w,o.nd,bW o.w o.bad⟩:=by
 refine⟨?_,h.2.zM.trans (lh _ _)⟩;obtain⟨q,hq⟩:=nO (by decide) hs;rw[yE,hq,fQ (by decide),fP (by decide)];rcases h.1 with⟨h1,h2⟩|⟨h1,h2⟩
 ·left;rw[h1,hq];exact⟨by simp only[ox,if_true],h2⟩
 ·right;rw[h1];exact⟨rfl,h2⟩
def FW {w:List ah}{nd:List Nd}{o:PO}(hf:lC w nd=jE (bW w false) (bM w) (aR w) nd)(h:dP (jE (bW w false) (bM w) (aR w) nd) (aR w) nd o):dP (lC w nd) w nd o:=
 ⟨by rw[hf];exact h.1,(lh w nd).trans h.2⟩
def KG {s:ah}{o:PO}(h:dP (jH (ai s 32) []) (ai s 32) [] o)(hc:((o.bad ||decide ((0:Int)<(o.w.length:Nat))) ||!vn o.nd)=true):AX s=none:=by
 unfold AX;rcases h.1 with⟨h1,h2⟩|⟨h1,h2⟩
 ·rw[h1]
  match hw:o.w with
  |[]=>
   simp only[h2,hw,List.length_nil,Bool.false_or]at hc;have:vn o.nd=false:=by simpa using hc
   simp only[this,Bool.false_eq_true,if_false]
  |x::r=>rfl
 ·rw[h1]
def H5 {s:ah}{o:PO}(h:dP (jH (ai s 32) []) (ai s 32) [] o)(hc:((o.bad ||decide ((0:Int)<(o.w.length:Nat))) ||!vn o.nd)=false):AX s=some o.nd:=by
 simp only[Bool.or_eq_false_iff,decide_eq_false_iff_not,Bool.not_eq_false']at hc;unfold AX;rcases h.1 with⟨h1,h2⟩|⟨h1,h2⟩
 ·rw[h1]
  match hw:o.w with
  |[]=>simp only[hc.2,if_true]
  |x::r=>exact absurd hc.1.2 (by rw[hw];simp)
 ·rw[h2]at hc;exact absurd hc.1.1 (by simp)
def H4 {s:ah}{nd:List Nd}(h1:¬96<s.length)(h2:¬s=[])(h:AX s=some nd):lL s=(nd,0):=by simp only[lL,h,if_neg h1,if_neg h2]
def H3 {s:ah}(h1:¬96<s.length)(h2:¬s=[])(h:AX s=none):lL s=([],7):=by simp only[lL,h,if_neg h1,if_neg h2]
def GS (part:List ah→List Nd→PR)(wd:ah)(op:Int)(R:PR)(w:List ah)(nd:List Nd)(o:PO):Prop:=(o.bad=false∧R=BX part wd op o.a o.w o.nd∨o.bad=true∧R=none)∧PB w nd o.w o.nd
def GS.first {part:List ah→List Nd→PR}{wd:ah}{op:Int}{w:List ah}{nd:List Nd}{o:PO}(h:dP (part w nd) w nd o):GS part wd op (fe part wd op w nd) w nd o:=by
 refine⟨?_,h.2⟩;rcases h.1 with⟨h1,h2⟩|⟨h1,h2⟩
 ·left;refine⟨h2, ?_⟩;unfold fe;rw[h1];rfl
 ·right;refine⟨h2, ?_⟩;unfold fe;rw[h1]
def GS.next {part:List ah→List Nd→PR}(hp:r5 part){wd:ah}{op:Int}{R:PR}{w:List ah}{nd:List Nd}{a:Int}{r:List ah}{nd1:List Nd}{o:PO}(h:GS part wd op R w nd ⟨a,wd::r,nd1,false⟩)(h2:dP (part r nd1) r nd1 o):
  GS part wd op R w nd ⟨(o.nd.length:Nat),o.w,o.nd++[⟨op,a,o.a,0,[]⟩],o.bad⟩:=by
 refine⟨?_,h.2.trans (h2.2.tail _)⟩;rcases h.1 with⟨_,h1⟩|⟨h1,_⟩
 ·rw[Dn hp]at h1;rcases h2.1 with⟨g1,g2⟩|⟨g1,g2⟩
  ·left;exact⟨g2,by rw[h1,g1]⟩
  ·right;exact⟨g2,by rw[h1,g1]⟩
 ·cases h1
def GS.last {part:List ah→List Nd→PR}{wd:ah}{op:Int}{R:PR}{w:List ah}{nd:List Nd}{o:PO}(h:GS part wd op R w nd o)(hx:o.bad=true∨o.w.head? ≠some wd):dP R w nd o:=by
 refine⟨?_,h.2⟩;rcases h.1 with⟨h1,h2⟩|⟨h1,h2⟩
 ·left;refine⟨?_,h1⟩;rw[h2];unfold BX;rw[Fp];rcases hx with hx|hx
  ·rw[h1]at hx;cases hx
  ·exact hx
 ·right;exact⟨h2,h1⟩
def PB.II {w w':List ah}{nd nd':List Nd}{W:List ah}(h:PB w nd w' nd')(hW:w<:+W):w'<:+W:=h.2.2.trans hW
def qC (f:Nat→Int):Nat→Nat→Int
 |_,0=>0
 |i,k+1=>if f i=0 then qC f (i+1) k else f i
def gw (f:Nat→Int)(i n:Nat):Int:=qC f i (n-i)
def qB {f:Nat→Int}{i n:Nat}(h:i<n)(hf:f i=0):gw f i n=gw f (i+1) n:=by
 unfold gw;obtain⟨k,hk⟩:∃k,n-i=k+1:=⟨n-i-1,by omega⟩
 rw[hk,show n-(i+1)=k by omega];simp only[qC,hf,if_true]
def tz {f:Nat→Int}{i n:Nat}(h:i<n)(hf:f i≠0):gw f i n=f i:=by
 unfold gw;obtain⟨k,hk⟩:∃k,n-i=k+1:=⟨n-i-1,by omega⟩
 rw[hk];simp only[qC,hf,if_false]
def qA {f:Nat→Int}{i n:Nat}(h:n≤i):gw f i n=0:=by
 unfold gw;rw[show n-i=0 by omega];rfl
def lE (f:Nat→Int):Nat→Nat→Int×Int
 |_,0=>(0,0)
 |i,k+1=>if f i=0 then lE f (i+1) k else(f i,((i:Nat):Int))
def fg (f:Nat→Int)(i n:Nat):Int×Int:=lE f i (n-i)
def nD {f:Nat→Int}{i n:Nat}(h:i<n)(hf:f i=0):fg f i n=fg f (i+1) n:=by
 unfold fg;obtain⟨k,hk⟩:∃k,n-i=k+1:=⟨n-i-1,by omega⟩
 rw[hk,show n-(i+1)=k by omega];simp only[lE,hf,if_true]
def lD {f:Nat→Int}{i n:Nat}(h:i<n)(hf:f i≠0):fg f i n=(f i,((i:Nat):Int)):=by
 unfold fg;obtain⟨k,hk⟩:∃k,n-i=k+1:=⟨n-i-1,by omega⟩
 rw[hk];simp only[lE,hf,if_false]
def nC {f:Nat→Int}{i n:Nat}(h:n≤i):fg f i n=(0,0):=by
 unfold fg;rw[show n-i=0 by omega];rfl
def iO (r:Rec)(name rng:ah):Int:=if ea name=false then 4 else if name=r.name then 8 else if nK rng=false then 6 else 0
def Lv (l:List ah)(i:Nat):Bool:=bI l[i]! && !(decide (0<i)&& !Op.bytesLess l[i-1]! l[i]!)
def kj (l:List ah)(alone:Bool):Bool:=(decide (l.length≤6)&&(alone ||decide (l.length=0)))&&ca (Lv l) 0 l.length
def jX (r:Rec)(w:aX)(alone:Bool):Int:=if iO r w.name w.range≠0 then iO r w.name w.range else if kj w.feats alone=false then 11 else 0
def lS (r:Rec)(l:List aX):Int:=gw (fun i=>jX r l[i]! (decide ((l.length:Int)=1))) 0 l.length
def jg (r:Rec)(n:aT):Int:=if n.any.length=0 then 9 else if 3<n.any.length then 3 else if lS r n.any≠0 then lS r n.any else
 if lK n.when'=false then 7 else if n.option≠[]∧bI n.option=false then 14 else 0
def td (r:Rec)(b:fE):Int:=if iO r b.name b.range≠0 then iO r b.name b.range else if lK b.when'=false then 7 else 0
def Ii (l:List aT)(x:ah):Bool:=l.any fun n=>decide (n.option=x)
def B4 (l:List aT)(x:ah):Bool:=l.any fun n=>decide (n.any.length=1)&&decide (n.any[0]!.name=x)
def jf (r:Rec)(s:ah):Int:=if(cg s).1=2∧Ii r.needs (cg s).2.1=false then 14 else if(cg s).1=3∧B4 r.needs (cg s).2.1=false then 16 else 0
def oH (r:Rec)(of:List ah):Int:=gw (fun i=>jf r of[i]!) 0 of.length
def jQ (r:Rec):Int×Int:=fg (fun i=>jg r r.needs[i]!) 0 r.needs.length
def rq (r:Rec):Int×Int:=fg (fun i=>td r r.bars[i]!) 0 r.bars.length
def qz (r:Rec):Int×Int:=fg (fun i=>oH r r.feats[i]!.of) 0 r.feats.length
def ey (r:Rec):Int×Int:=if(jQ r).1≠0 then jQ r else if(rq r).1≠0 then rq r else if fG r.feats=false then(11,0)else qz r
def GJ (n:Nat)(al:Bool):(decide ((6:Int)<(n:Nat)) ||(decide ((0:Int)<(n:Nat))&& !al))=!(decide (n≤6)&&(al ||decide (n=0))):=by
 rw[show decide ((6:Int)<(n:Nat))=!decide (n≤6)from by rw[←decide_not];exact decide_eq_decide.2 (by omega),show decide ((0:Int)<(n:Nat))=!decide (n=0)from by rw[←decide_not];exact decide_eq_decide.2 (by omega)];generalize decide (n≤6)=a;generalize decide (n=0)=b;cases a<;>cases b<;>cases al<;>rfl
def N6 (l:List ah)(i:Nat):(!bI l[i]! ||(decide ((0:Int)<(i:Nat))&& !Op.bytesLess l[i-1]! l[i]!))=!Lv l i:=by
 unfold Lv;rw[show decide ((0:Int)<(i:Nat))=decide (0<i)from decide_eq_decide.2 (by omega)];generalize bI l[i]! =a;generalize decide (0<i)=b;generalize Op.bytesLess l[i-1]! l[i]! =c;cases a<;>cases b<;>cases c<;>rfl
def GV (k:Int)(x:ah)(n:aT):Bool:=(decide (k=2)&&decide (n.option=x)) ||((decide (k=3)&&decide ((n.any.length:Int)=1))&&decide (n.any[0]!.name=x))
def KB (k:Int):Int:=if k=2 then 14 else if k=3 then 16 else 0
def Fc (r:Rec)(s:ah):jf r s=if r.needs.any (GV (cg s).1 (cg s).2.1)=true then 0 else KB (cg s).1:=by
 unfold jf KB Ii B4;generalize (cg s).1=k;generalize (cg s).2.1=x;by_cases h2:k=2
 ·subst h2;have:GV 2 x=fun n=>decide (n.option=x):=by funext n;simp[GV]
  rw[this];cases r.needs.any fun n=>decide (n.option=x)<;>simp
 ·by_cases h3:k=3
  ·subst h3;have:GV 3 x=fun n=>decide (n.any.length=1)&&decide (n.any[0]!.name=x):=by
    funext n;simp only[GV];rw[show decide ((n.any.length:Int)=1)=decide (n.any.length=1)from decide_eq_decide.2 (by omega)];simp
   rw[this];cases r.needs.any fun n=>decide (n.any.length=1)&&decide (n.any[0]!.name=x)<;>simp
  ·have:GV k x=fun _=>false:=by funext n;simp[GV,h2,h3]
   rw[this];simp[h2,h3]
def Hi {α:Type} [Inhabited α]{c:α→Bool}{l:List α}{i:Nat}(h:i<l.length)(hc:c l[i]! =true):(l.drop i).any c=true:=by
 rw[List.drop_eq_getElem_cons h,List.any_cons];have:l[i]! =l[i]:=by simp[h]
 rw[←this,hc,Bool.true_or]
def Kd {α:Type} [Inhabited α]{c:α→Bool}{l:List α}{i:Nat}(h:i<l.length)(hc:c l[i]! =false):(l.drop i).any c=(l.drop (i+1)).any c:=by
 rw[List.drop_eq_getElem_cons h,List.any_cons];have:l[i]! =l[i]:=by simp[h]
 rw[←this,hc,Bool.false_or]
def Hh {α:Type}{c:α→Bool}{l:List α}{i:Nat}(h:l.length≤i):(l.drop i).any c=false:=by
 rw[List.drop_eq_nil_of_le h];rfl
def ec:ah:=[110,101,101,100]
def gM:ah:=[97,110,121]
def e8:ah:=[119,104,101,110]
def cL:ah:=[111,112,116,105,111,110]
def eP:ah:=[98,97,114]
def bA:ah:=[102,101,97,116,117,114,101]
def cU:ah:=[112,97,99,107,97,103,101]
def gV:ah:=[102,117,108,108]
def et:ah:=[98,97,114,101]
def bw (l:List ah):ah:=aG [32] l++[10]
def fY (w:aX):List ah:=[gM,w.name,if w.feats.length=0 then [45]else aG [44] w.feats,if w.bare=true then et else gV,w.range]
def fX (s:ah):ah:=if s=[]then []else bw [e8,s]
def sg (s:ah):ah:=if s=[]then []else bw [cL,s]
def kU (n:aT):ah:=bw [ec]++(n.any.map fun w=>bw (fY w)).flatten++fX n.when'++sg n.option
def qj (b:fE):ah:=bw [eP,b.name,b.range]++fX b.when'
def n7 (f:bj):ah:=bw ([bA,f.name]++f.of)
def mS (r:Rec):ah:=bw [cU,r.name,iM r.v]
def eD (r:Rec):ah:=mS r++(r.needs.map kU).flatten++(r.bars.map qj).flatten++(r.feats.map n7).flatten
def ch (r:Rec):Int×Int:=if ea r.name=false then(4,0)else if ei r.v=false then(5,0)else if 8<r.needs.length∨8<r.bars.length then(3,0)else
 if(ey r).1≠0 then ey r else if 4096<(eD r).length then(3,0)else(0,0)
def jT (r:Rec):ah×Int:=if(ch r).1≠0 then([],(ch r).1)else(eD r,0)
def aX.sm (w:aX):Prop:=(w.name.length≤1048576∧w.range.length≤1048576)∧∀t∈w.feats,t.length≤1048576
def aT.sm (n:aT):Prop:=(∀w∈n.any,w.sm)∧n.when'.length≤1048576∧n.option.length≤1048576
def fE.sm (b:fE):Prop:=b.name.length≤1048576∧b.range.length≤1048576∧b.when'.length≤1048576
def kf (r:Rec):Prop:=(r.name.length≤1048576∧r.v.sm)∧(∀n∈r.needs,n.sm)∧(∀b∈r.bars,b.sm)∧sG r.feats
def FZ {r:Rec}{e:Int×Int}(h:jQ r=e)(hn:e.1≠0):ey r=e:=by rw[ey,if_pos (by rw[h];exact hn),h]
def zl {r:Rec}{e:Int×Int}(h0:jQ r=(0,0))(h:rq r=e)(hn:e.1≠0):ey r=e:=by rw[ey,if_neg (by rw[h0];simp),if_pos (by rw[h];exact hn),h]
def F0 {r:Rec}(h0:jQ r=(0,0))(h1:rq r=(0,0))(h:fG r.feats=false):ey r=(11,0):=by rw[ey,if_neg (by rw[h0];simp),if_neg (by rw[h1];simp),if_pos h]
def uh {r:Rec}{e:Int×Int}(h0:jQ r=(0,0))(h1:rq r=(0,0))(h:fG r.feats=true)(h2:qz r=e):ey r=e:=by rw[ey,if_neg (by rw[h0];simp),if_neg (by rw[h1];simp),if_neg (by rw[h];simp),h2]
def yI (f:Nat→Int):∀(k i:Nat),(lE f i k).1=0→lE f i k=(0,0)
 |0,_,_=>rfl
 |k+1,i,h=>by
  simp only[lE]at h⊢;by_cases hf:f i=0
  ·rw[if_pos hf]at h⊢;exact yI f k (i+1) h
  ·rw[if_neg hf]at h;exact absurd h hf
def F1 {r:Rec}(h:(ey r).1=0):ey r=(0,0):=by
 unfold ey at h⊢;split
 ·rename_i h1;rw[if_pos h1]at h;exact absurd h h1
 ·rename_i h1;rw[if_neg h1]at h;split
  ·rename_i h2;rw[if_pos h2]at h;exact absurd h h2
  ·rename_i h2;rw[if_neg h2]at h;split
   ·rename_i h3;rw[if_pos h3]at h;cases h
   ·rename_i h3;rw[if_neg h3]at h;exact yI _ _ _ h
def mA {r:Rec}{e:Int×Int}(h0:ea r.name=true)(h1:ei r.v=true)(h2:¬8<r.needs.length)(h3:¬8<r.bars.length)(hp:ey r=e)(hn:e.1≠0):ch r=e:=by
 rw[ch,if_neg (by simp[h0]),if_neg (by simp[h1]),if_neg (by rintro(h|h);exact h2 h;exact h3 h),if_pos (by rw[hp];exact hn),hp]
def tn {r:Rec}(h0:ea r.name=true)(h1:ei r.v=true)(h2:¬8<r.needs.length)(h3:¬8<r.bars.length)(hp:ey r=(0,0)):ch r=if 4096<(eD r).length then(3,0)else(0,0):=by
 rw[ch,if_neg (by simp[h0]),if_neg (by simp[h1]),if_neg (by rintro(h|h);exact h2 h;exact h3 h),if_neg (by rw[hp];simp)]
def tK (r:Rec):Prop:=(ea r.name=true∧ei r.v=true)∧(r.needs.length≤8∧r.bars.length≤8)∧ey r=(0,0)
def mB (n:Nat)(l:List ah):List ah:=if l.length≤n then l else l.take (n-1)++[aG [32] (l.drop (n-1))]
def cn (n:Nat)(op:Bool)(t:ah):List ah:=if op=true then mB n (ai t 32)else ai t 32
def eA (w:ah)(n:Nat)(op:Bool)(t:ah):Option (List ah):=
 if(cn n op t)[0]! =w∧(n=0∨(cn n op t).length=n)∧[]∉cn n op t then some (cn n op t)else none
def bc (w:ah)(n:Nat)(op:Bool):List ah→Option (List ah×List ah)
 |[]=>none
 |t::r=>match eA w n op t with
  |some l=>some (l,r)
  |none=>none
def bo (ls:List ah):ah×List ah:=match bc e8 2 true ls with
 |some (l,r)=>(l[1]!,r)
 |none=>([],ls)
def pL (l:List ah):Bool:=decide (l[3]! =et) ||decide (l[3]! =gV)
def eQ (l:List ah):aX:=⟨l[1]!,l[4]!,if l[2]! =[45]then []else ai l[2]! 44,decide (l[3]! =et)⟩
def bP:List ah→List aX×List ah
 |[]=>([],[])
 |t::r=>match eA gM 5 true t with
  |some l=>if pL l=true then(eQ l::(bP r).1,(bP r).2)else([],t::r)
  |none=>([],t::r)
def oL (ls:List ah):ah×List ah:=match bc cL 2 false ls with
 |some (l,r)=>(l[1]!,r)
 |none=>([],ls)
def cX (ls:List ah):aT×List ah:=(⟨(bP ls).1,(bo (bP ls).2).1,(oL (bo (bP ls).2).2).1⟩,(oL (bo (bP ls).2).2).2)
def iX:Nat→List ah→List aT×List ah
 |0,ls=>([],ls)
 |f+1,ls=>match bc ec 1 false ls with
  |some (_,r)=>((cX r).1::(iX f (cX r).2).1,(iX f (cX r).2).2)
  |none=>([],ls)
def lU:Nat→List ah→List fE×List ah
 |0,ls=>([],ls)
 |f+1,ls=>match bc eP 3 true ls with
  |some (l,r)=>(⟨l[1]!,l[2]!,(bo r).1⟩::(lU f (bo r).2).1,(lU f (bo r).2).2)
  |none=>([],ls)
def dk:List ah→List bj×List ah
 |[]=>([],[])
 |t::r=>match eA bA 0 false t with
  |some l=>if 2≤l.length then(⟨l[1]!,l.drop 2⟩::(dk r).1,(dk r).2)else([],t::r)
  |none=>([],t::r)
def nX:Rec:=⟨[],jb,[],[],[]⟩
def ew (ls:List ah):List aT×List ah:=iX ls.length ls
def jF (ls:List ah):List fE×List ah:=lU ls.length ls
def n4 (nm:ah)(v:df)(r:List ah):Rec×List ah:=(⟨nm,v,(ew r).1,(jF (ew r).2).1,(dk (jF (ew r).2).2).1⟩,(dk (jF (ew r).2).2).2)
def oP (ls:List ah):Option (Rec×List ah):=match bc cU 3 false ls with
 |some (l,r)=>match kG l[2]! with
  |some v=>some (n4 l[1]! v r)
  |none=>none
 |none=>none
def hY {w:ah}{n:Nat}{op:Bool}{ls l r:List ah}(h:bc w n op ls=some (l,r)):r.length+1=ls.length:=by
 match ls,h with
 |t::q,h=>
  simp only[bc]at h;split at h
  ·cases h;rfl
  ·cases h
 |[],h=>cases h
def rk (ls:List ah):(bo ls).2.length≤ls.length:=by
 unfold bo;split
 ·rename_i l r h;have:=hY h;simp only;omega
 ·exact Nat.le_refl _
def FN (ls:List ah):(oL ls).2.length≤ls.length:=by
 unfold oL;split
 ·rename_i l r h;have:=hY h;simp only;omega
 ·exact Nat.le_refl _
def rW:∀ls:List ah,(bP ls).2.length≤ls.length
 |[]=>Nat.le_refl _
 |t::r=>by
  have:=rW r;simp only[bP];split
  ·split
   ·simp only[List.length_cons];omega
   ·exact Nat.le_refl _
  ·exact Nat.le_refl _
def we (ls:List ah):(cX ls).2.length≤ls.length:=by
 have h1:=rW ls;have h2:=rk (bP ls).2;have h3:=FN (bo (bP ls).2).2;show(oL (bo (bP ls).2).2).2.length≤_;omega
def wg:∀(f g:Nat)(ls:List ah),ls.length≤f→ls.length≤g→iX f ls=iX g ls
 |0,0,_,_,_=>rfl
 |0,g+1,ls,h,_=>by
  have:ls=[]:=List.length_eq_zero_iff.1 (by omega);subst this;rfl
 |f+1,0,ls,_,h=>by
  have:ls=[]:=List.length_eq_zero_iff.1 (by omega);subst this;rfl
 |f+1,g+1,ls,hf,hg=>by
  simp only[iX];cases h:bc ec 1 false ls with
  |none=>rfl
  |some p=>
   obtain⟨l,r⟩:=p;have h1:=hY h;have h2:=we r;simp only;rw[wg f g _ (by omega) (by omega)]
def yu:∀(f g:Nat)(ls:List ah),ls.length≤f→ls.length≤g→lU f ls=lU g ls
 |0,0,_,_,_=>rfl
 |0,g+1,ls,h,_=>by
  have:ls=[]:=List.length_eq_zero_iff.1 (by omega);subst this;rfl
 |f+1,0,ls,_,h=>by
  have:ls=[]:=List.length_eq_zero_iff.1 (by omega);subst this;rfl
 |f+1,g+1,ls,hf,hg=>by
  simp only[lU];cases h:bc eP 3 true ls with
  |none=>rfl
  |some p=>
   obtain⟨l,r⟩:=p;have h1:=hY h;have h2:=rk r;simp only;rw[yu f g _ (by omega) (by omega)]
def rI {ls l r:List ah}(h:bc ec 1 false ls=some (l,r)):ew ls=((cX r).1::(ew (cX r).2).1,(ew (cX r).2).2):=by
 have h1:=hY h;have h2:=we r;unfold ew;rw[←h1];simp only[iX,h];rw[wg r.length (cX r).2.length _ h2 (Nat.le_refl _)]
def rH {ls:List ah}(h:bc ec 1 false ls=none):ew ls=([],ls):=by
 unfold ew
 match ls,h with
 |[],_=>rfl
 |t::r,h=>simp only[List.length_cons,iX,h]
def tg {ls l r:List ah}(h:bc eP 3 true ls=some (l,r)):jF ls=(⟨l[1]!,l[2]!,(bo r).1⟩::(jF (bo r).2).1,(jF (bo r).2).2):=by
 have h1:=hY h;have h2:=rk r;unfold jF;rw[←h1];simp only[lU,h];rw[yu r.length (bo r).2.length _ h2 (Nat.le_refl _)]
def tf {ls:List ah}(h:bc eP 3 true ls=none):jF ls=([],ls):=by
 unfold jF
 match ls,h with
 |[],_=>rfl
 |t::r,h=>simp only[List.length_cons,lU,h]
structure RdS where
 r:Rec
 st:Nat
 deriving Inhabited
def eqBb (a b:Bool):eJ (D.bool a).cells (D.bool b).cells=decide (a=b):=by cases a<;>cases b<;>rfl
def aX.rS (a b:aX):decide (a=b)=(((decide (a.name=b.name)&&decide (a.range=b.range))&&decide (a.bare=b.bare))&&decide (a.feats=b.feats)):=by
 obtain⟨a1,a2,a3,a4⟩:=a;obtain⟨b1,b2,b3,b4⟩:=b;simp only[aX.mk.injEq,Bool.decide_and]
 ac_rfl
def aT.rS (a b:aT):decide (a=b)=((decide (a.when'=b.when')&&decide (a.option=b.option))&&decide (a.any=b.any)):=by
 obtain⟨a1,a2,a3⟩:=a;obtain⟨b1,b2,b3⟩:=b;simp only[aT.mk.injEq,Bool.decide_and]
 ac_rfl
def aT.NW {a b:aT}(e1:a.when'=b.when')(e2:a.option=b.option)(e3:a.any.length=b.any.length):decide (a=b)=ca (fun i=>decide (a.any[i]! =b.any[i]!)) 0 a.any.length:=by
 rw[aT.rS,decide_eq_true e1,decide_eq_true e2,←lf e3];rfl
def Rec.rS (a b:Rec):decide (a=b)=((((decide (a.name=b.name)&&decide (a.v=b.v))&&decide (a.needs=b.needs))&&decide (a.bars=b.bars))&&decide (a.feats=b.feats)):=by
 obtain⟨a1,a2,a3,a4,a5⟩:=a;obtain⟨b1,b2,b3,b4,b5⟩:=b;simp only[Rec.mk.injEq,Bool.decide_and]
 ac_rfl
def bj.eq2 {a b:bj}(h1:a.name=b.name)(h2:a.of=b.of):a=b:=by
 obtain⟨a1,a2⟩:=a;obtain⟨b1,b2⟩:=b;simp only at h1 h2;subst h1;subst h2;rfl
def tA {f:Nat→Int}:∀{k i:Nat},qC f i k=0→∀j,i≤j→j<i+k→f j=0
 |0,i,_,j,h1,h2=>absurd h2 (by omega)
 |k+1,i,h,j,h1,h2=>by
  simp only[qC]at h;by_cases hf:f i=0
  ·rw[if_pos hf]at h;by_cases hj:j=i
   ·rw[hj];exact hf
   ·exact tA h j (by omega) (by omega)
  ·rw[if_neg hf]at h;exact absurd h hf
def AD {f:Nat→Int}{n:Nat}(h:gw f 0 n=0)(j:Nat)(hj:j<n):f j=0:=tA h j (by omega) (by omega)
def tC {f:Nat→Int}:∀{k i:Nat},(lE f i k).1=0→∀j,i≤j→j<i+k→f j=0
 |0,i,_,j,h1,h2=>absurd h2 (by omega)
 |k+1,i,h,j,h1,h2=>by
  simp only[lE]at h;by_cases hf:f i=0
  ·rw[if_pos hf]at h;by_cases hj:j=i
   ·rw[hj];exact hf
   ·exact tC h j (by omega) (by omega)
  ·rw[if_neg hf]at h;exact absurd h hf
def AB {f:Nat→Int}{n:Nat}(h:(fg f 0 n).1=0)(j:Nat)(hj:j<n):f j=0:=tC h j (by omega) (by omega)
def aX.fit (w:aX):Prop:=w.sm∧(w.feats.length≤6∧∀t∈w.feats,t.length≤12)
def aT.fit (n:aT):Prop:=(n.any.length≤3∧∀w∈n.any,w.fit)∧n.when'.length≤1048576∧n.option.length≤1048576
def bj.fit (x:bj):Prop:=x.sm∧x.of.length≤6
structure Rec.fit (r:Rec):Prop where
 nm:r.name.length≤1048576
 v:r.v.sm
 ns:r.needs.length≤8
 n:∀x∈r.needs,x.fit
 bs:r.bars.length≤8
 b:∀x∈r.bars,x.sm
 fs:r.feats.length≤8
 f:∀x∈r.feats,x.fit
def sL {α:Type} [Inhabited α]{l:List α}{x:α}(h:x∈l):∃i,i<l.length∧l[i]! =x:=by
 obtain⟨i,hi,e⟩:=List.mem_iff_getElem.1 h;exact⟨i,hi,by rw[←e];simp[hi]⟩
def GL {r:Rec}{w:aX}{al:Bool}(h:jX r w al=0)(hs:w.sm):w.fit:=by
 refine⟨hs, ?_⟩;unfold jX at h;split at h
 ·rename_i h1;exact absurd h h1
 ·split at h
  ·cases h
  ·rename_i h2;simp only[kj,Bool.not_eq_false,Bool.and_eq_true,decide_eq_true_eq,dh]at h2;refine⟨h2.1.1,fun t ht=>?_⟩;obtain⟨i,hi,rfl⟩:=sL ht;have:=h2.2 i (by omega) hi;simp only[Lv,bI,Bool.and_eq_true,decide_eq_true_eq]at this;exact this.1.1.2
def Fy {r:Rec}{n:aT}(h:jg r n=0)(hs:n.sm):n.fit:=by
 unfold jg at h;split at h
 ·cases h
 split at h
 ·cases h
 rename_i h1 h2;split at h
 ·rename_i h3;exact absurd h h3
 rename_i h3;refine⟨⟨by omega,fun w hw=>?_⟩,hs.2⟩;obtain⟨i,hi,rfl⟩:=sL hw;exact GL (AD (Classical.not_not.1 h3) i hi) (hs.1 _ hw)
def C8 {r:Rec}(h:tK r∧kf r):r.fit:=by
 obtain⟨⟨_,⟨h1,h2⟩,hp⟩,⟨s1,s2⟩,s3,s4,s5⟩:=h;have h0:(jQ r).1=0∧fG r.feats=true:=by
  unfold ey at hp;split at hp
  ·rename_i h;rw[hp]at h;exact absurd rfl h
  split at hp
  ·rename_i h;rw[hp]at h;exact absurd rfl h
  split at hp
  ·cases hp
  rename_i a b c;exact⟨Classical.not_not.1 a,by simpa using c⟩
 obtain⟨h3,h4⟩:=h0;simp only[fG,Bool.and_eq_true,decide_eq_true_eq,dh]at h4;refine⟨s1,s2,h1,fun x hx=>?_,h2,s4,h4.1,fun x hx=>⟨s5 x hx, ?_⟩⟩
 ·obtain⟨i,hi,rfl⟩:=sL hx;exact Fy (AB h3 i hi) (s3 _ hx)
 ·obtain⟨i,hi,rfl⟩:=sL hx;have:=h4.2 i (by omega) hi;simp only[kp,tN,Bool.and_eq_true,decide_eq_true_eq]at this;exact this.2.1.1
def ju (x:UInt8)(B:Nat):∀l:List ah,(∀t∈l,t.length≤B)→(aG [x] l).length≤l.length*(B+1)
 |[],_=>by simp[aG]
 |[t],h=>by have:=h t (.head _);simp only[aG,List.length_cons,List.length_nil];omega
 |t::u::r,h=>by
  have h1:=h t (.head _);have h2:=ju x B (u::r) fun y hy=>h y (.tail _ hy)
  simp only[aG,List.length_append,List.length_cons,List.length_nil,Nat.succ_mul]at h2⊢;omega
def Bp {w:aX}(h:w.fit):(aG [44] w.feats).length≤6291462:=by
 have h1:=ju 44 1048576 w.feats h.1.2;have h2:=Nat.mul_le_mul_right (1048576+1) h.2.1;omega
def x9 {w:aX}(h:w.fit):(aG [44] w.feats).length≤78:=by
 have h1:=ju 44 12 w.feats h.2.2;have h2:=Nat.mul_le_mul_right (12+1) h.2.1;omega
def jj (w:aX):ah:=bw (fY w)
def wT {w:aX}(h:w.fit):(jj w).length≤8400000:=by
 have h1:=Bp h;have h2:=h.1.1;simp only[jj,bw,fY,aG,List.length_append,List.length_cons,List.length_nil];split<;>split<;>simp only[gM,et,gV,List.length_append,List.length_cons,List.length_nil]<;>omega
def nP {s:ah}(h:s.length≤1048576):(fX s).length≤1048590:=by
 unfold fX;split
 ·simp
 ·simp only[bw,aG,e8,List.length_append,List.length_cons,List.length_nil];omega
def FQ {s:ah}(h:s.length≤1048576):(sg s).length≤1048590:=by
 unfold sg;split
 ·simp
 ·simp only[bw,aG,cL,List.length_append,List.length_cons,List.length_nil];omega
def pJ {α:Type}(q:α→ah)(B:Nat){l:List α}(h:∀x∈l,(q x).length≤B)(i:Nat):(((l.take i).map q).flatten).length≤i*B:=by
 have h1:=mK q B (l.take i) fun x hx=>h x (List.mem_of_mem_take hx)
 have h2:=Nat.mul_le_mul_right B (List.length_take_le i l);omega
def nE {α:Type} [Inhabited α](q:α→ah){l:List α}{i:Nat}(h:i<l.length):((l.take (i+1)).map q).flatten=((l.take i).map q).flatten++q l[i]! :=by
 rw[List.take_add_one,List.getElem?_eq_getElem h,List.map_append,List.flatten_append];simp[h]
def Dy {n:aT}(h:n.fit):(kU n).length≤27400000:=by
 have h1:=mK jj 8400000 n.any fun w hw=>wT (h.1.2 w hw)
 have h2:=Nat.mul_le_mul_right 8400000 h.1.1;have h3:=nP h.2.1;have h4:=FQ h.2.2;have h5:(bw [ec]).length=5:=rfl;unfold jj at h1;simp only[kU,List.length_append];omega
def Ez {b:fE}(h:b.sm):(qj b).length≤3145800:=by
 have h1:=nP h.2.2;have h2:=h.1;have h3:=h.2.1;simp only[qj,bw,aG,eP,List.length_append,List.length_cons,List.length_nil];omega
def CS {x:bj}(h:x.fit):(n7 x).length≤8400000:=by
 have h1:=ju 32 1048576 ([bA,x.name]++x.of) (by
  intro t ht;simp only[List.cons_append,List.nil_append,List.mem_cons]at ht;rcases ht with rfl|rfl|ht
  ·simp[bA]
  ·exact h.1.1
  ·exact h.1.2.2 _ ht)
 have h2:=h.2;have h3:([bA,x.name]++x.of).length≤8:=by simp only[List.length_append,List.length_cons,List.length_nil];omega
 have h4:=Nat.mul_le_mul_right (1048576+1) h3;simp only[n7,bw,List.length_append,List.length_cons,List.length_nil]at h1 h4⊢;omega
def Da {r:Rec}(h1:r.name.length≤1048576)(h2:r.v.sm):(mS r).length≤3145800:=by
 have h3:=zQ r.v h2;simp only[mS,bw,aG,cU,List.length_append,List.length_cons,List.length_nil];omega
def cx (n:aT)(j:Nat):ah:=bw [ec]++((n.any.take j).map jj).flatten
def lM {n:aT}{j:Nat}(h:j<n.any.length):cx n (j+1)=cx n j++jj n.any[j]! :=by simp only[cx,nE jj h,List.append_assoc]
def Dw {n:aT}{j:Nat}(h:n.any.length≤j):kU n=cx n j++fX n.when'++sg n.option:=by
 rw[cx,List.take_of_length_le h];rfl
def Dx {n:aT}(h:n.fit)(j:Nat)(hj:j≤3):(cx n j).length≤25200005:=by
 have h1:=pJ jj 8400000 (fun w hw=>wT (h.1.2 w hw)) j;have h2:=Nat.mul_le_mul_right 8400000 hj;have h5:(bw [ec]).length=5:=rfl;simp only[cx,List.length_append];omega
def iz (r:Rec)(i:Nat):ah:=mS r++((r.needs.take i).map kU).flatten
def uX (r:Rec)(i:Nat):ah:=iz r r.needs.length++((r.bars.take i).map qj).flatten
def x6 (r:Rec)(i:Nat):ah:=uX r r.bars.length++((r.feats.take i).map n7).flatten
def Jt (r:Rec):iz r 0=mS r:=by simp[iz]
def Ju (r:Rec):uX r 0=iz r r.needs.length:=by simp[uX]
def Jv (r:Rec):x6 r 0=uX r r.bars.length:=by simp[x6]
def Cn (r:Rec):x6 r r.feats.length=eD r:=by simp only[x6,uX,iz,List.take_length,eD]
def lj {r:Rec}{i:Nat}(h:i<r.needs.length):iz r (i+1)=iz r i++kU r.needs[i]! :=by simp only[iz,nE kU h,List.append_assoc]
def GD {r:Rec}{i:Nat}(h:i<r.bars.length):uX r (i+1)=uX r i++qj r.bars[i]! :=by simp only[uX,nE qj h,List.append_assoc]
def GG {r:Rec}{i:Nat}(h:i<r.feats.length):x6 r (i+1)=x6 r i++n7 r.feats[i]! :=by simp only[x6,nE n7 h,List.append_assoc]
def Cl {r:Rec}(h:r.fit)(i:Nat)(hi:i≤r.needs.length):(iz r i).length≤222400000:=by
 have a0:=Da h.nm h.v;have a1:=pJ kU 27400000 (fun x hx=>Dy (h.n x hx)) i;have b1:=Nat.mul_le_mul_right 27400000 (Nat.le_trans hi h.ns);simp only[iz,List.length_append];omega
def Cm {r:Rec}(h:r.fit)(i:Nat)(hi:i≤r.bars.length):(uX r i).length≤247600000:=by
 have a0:=Cl h r.needs.length (Nat.le_refl _);have a1:=pJ qj 3145800 (fun x hx=>Ez (h.b x hx)) i;have b1:=Nat.mul_le_mul_right 3145800 (Nat.le_trans hi h.bs);simp only[uX,List.length_append];omega
def IK {r:Rec}(h:r.fit)(i:Nat)(hi:i≤r.feats.length):(x6 r i).length≤314800000:=by
 have a0:=Cm h r.bars.length (Nat.le_refl _);have a1:=pJ n7 8400000 (fun x hx=>CS (h.f x hx)) i;have b1:=Nat.mul_le_mul_right 8400000 (Nat.le_trans hi h.fs);simp only[x6,List.length_append];omega
def yx {r:Rec}(h:(ch r).1=0):tK r:=by
 unfold ch at h;split at h
 ·cases h
 split at h
 ·cases h
 split at h
 ·cases h
 rename_i a b c;split at h
 ·rename_i d;exact absurd h d
 rename_i d;exact⟨⟨by simpa using a,by simpa using b⟩,⟨by omega,by omega⟩,F1 (Classical.not_not.1 d)⟩
end Go.Abs
