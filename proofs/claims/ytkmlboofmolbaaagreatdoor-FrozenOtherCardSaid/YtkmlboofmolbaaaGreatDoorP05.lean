/- A part of the proofs. -/
import Derived.IntWalk
import Derived.KernelRfl
import Derived.Lib.TrimUEq
import Derived.Test.YtkmlboofmolbaaaGreatDoorP04
set_option linter.all false
set_option maxRecDepth 60000
set_option maxHeartbeats 2000000
namespace Go.Abs
variable{fx fy draw t:Bool}{x y z:Src}{m2 m':List (Nat×bj)}{next:List aY->St->Prop}{k n l L lo nx l' j i0:Nat}{a b c:Int}{α ι:Type}{k2 kk k3:IntKind}{σ cm:List (Nat×Nat)}{sh:List (List Sh)}{args:List Src}{r:AC}{env' env:List aY}{ps:List (Nat×Nat×Src)}{ins:List GI}
section
variable {Y:Ctx}{Q Q':Ex->List aY->St->Prop}{st:St}
def Ctx.bU (Z:Ctx):=∀f ds st (K K':D->St->Prop),(∀d st,K d st->K' d st)->Z.tr f ds st K->Z.tr f ds st K'
def iP {draw:Bool}{K K':List aY->St->Prop}(h:∀vs st,K vs st->K' vs st)(htr:Y.bU):∀(l:List GI) (env vs:List aY) (st:St),eV Y draw l env vs st K->eV Y draw l env vs st K'
 |[],env,vs,st,hh=>h _ _ hh
 |⟨i,g⟩::r,env,vs,st,hh=>by
  cases hcm:i.cN with
  |true=>
   cases i<;>simp only[ax.cN]at hcm<;>try(cases hcm;done)
   .exact⟨hh.1,λhf=>⟨(hh.2.1 hf).1,htr _ _ _ _ _ (λd st' ⟨h1,h2⟩=>⟨h1,iP h htr r _ _ _ h2⟩) (hh.2.1 hf).2⟩,λhf=>iP h htr r _ _ _ (hh.2.2 hf)⟩
   .rename_i fv args;simp only[eV]at hh⊢;refine⟨hh.1,λhf=>⟨(hh.2.1 hf).1,(hh.2.1 hf).2.1, ?_⟩,λhf=>iP h htr r _ _ _ (hh.2.2 hf)⟩;have h3:=(hh.2.1 hf).2.2;cases hd:(Src.ev env vs fv).d<;>simp only[hd]at h3⊢;exact⟨h3.1,htr _ _ _ _ _ (λd st' ⟨h1,h2⟩=>⟨h1,iP h htr r _ _ _ h2⟩) h3.2⟩
   .exact⟨hh.1,λhf=>⟨(hh.2.1 hf).1,(hh.2.1 hf).2.1,λb hb=>iP h htr r _ _ _ ((hh.2.1 hf).2.2 b hb)⟩,λhf=>iP h htr r _ _ _ (hh.2.2 hf)⟩
  |false=>
   cases hf:i.lD draw g with
   |true=>
    rw[ze hcm hf]at hh⊢;exact⟨hh.1,λe=>⟨(hh.2.1 e).1,iP h htr r _ _ _ (hh.2.1 e).2⟩,λe=>iP h htr r _ _ _ (hh.2.2 e)⟩
   |false=>
    rw[nN hcm hf]at hh⊢;exact⟨hh.1,hh.2.1,λha=>(hh.2.2 ha).imp λ_ h2=>⟨h2.1,iP h htr r _ _ _ h2.2⟩⟩
def Gh.mono {p q:List aY->St->Prop}(h:∀env st,p env st->q env st):Gh lo p env st->Gh lo q env st
 |⟨e,s,h1,h2⟩=>⟨e,s,h1,h _ _ h2⟩
def Gh.intro {p:List aY->St->Prop}(h:p env st):Gh lo p env st:=⟨env,st,.refl _ _,h⟩
def ik (htr:Y.bU):∀(a:AC) (Q Q':Ex->List aY->St->Prop) (env:List aY) (st:St),(∀e env st,Q e env st->Q' e env st)->du Y a Q env st->du Y a Q' env st
 | .reg draw ins cm,Q,Q',env,st,h,hh=>Gh.mono (λenv st h2=>iP (λvs st=>h _ _ _) htr _ _ _ _ h2) hh
 | .seq a b,Q,Q',env,st,h,hh=>Gh.mono (λenv st h2=>ik htr a _ _ env st (λe env st h2=>by
   cases e with
   |normal=>exact ik htr b Q Q' env st h h2
   |exit id=>exact h _ _ _ h2
   |ret=>exact h _ _ _ h2) h2) hh
 | .cond c a b,Q,Q',env,st,h,hh=>Gh.mono (λenv st h2=>by
  refine⟨h2.1, ?_⟩;have:=h2.2;cases hd:(c.ev env []).d<;>simp only[hd]at this⊢;exact⟨λht=>ik htr a Q Q' env st h (this.1 ht),λht=>ik htr b Q Q' env st h (this.2 ht)⟩) hh
 | .block id a,Q,Q',env,st,h,hh=>Gh.mono (λenv st h2=>ik htr a _ _ env st (λe env st h2=>by
   cases e with
   |normal=>exact h _ _ _ h2
   |exit j=>simp only at h2⊢;split<;>rename_i hj<;>simp only[hj,bh,aX]at h2<;>exact h _ _ _ h2
   |ret=>exact h _ _ _ h2) h2) hh
 | .loop a,Q,Q',env,st,h,hh=>Gh.mono (λenv st h2=>by
  obtain⟨I,μ,h1,h2⟩:=h2;refine⟨I,μ,h1,λenv st hi=>ik htr a _ _ env st (λe env' st' h3=>?_) (h2 env st hi)⟩;cases e with
  |normal=>exact h3
  |exit id=>exact h _ _ _ h3
  |ret=>exact h _ _ _ h3) hh
 | .exit id,Q,Q',env,st,h,hh=>Gh.mono (λ_ _=>h _ _ _) hh
 | .ret,Q,Q',env,st,h,hh=>Gh.mono (λ_ _=>h _ _ _) hh
 | .skip,Q,Q',env,st,h,hh=>Gh.mono (λ_ _=>h _ _ _) hh
def ij {a:AC}{st':St}(g:aZ Y.lo env st env' st')(h:du Y a Q env' st'):du Y a Q env st:=by
 cases a<;>(obtain⟨e2,s2,g2,h2⟩:=h;exact⟨e2,s2,.trans _ _ _ _ _ _ g g2,h2⟩)
def BQ (Y:Ctx)(id:Nat)(r:AC)(Q:Ex->List aY->St->Prop):Ex->List aY->St->Prop:=λe env st=>match e with
 | .normal=>du Y r Q env st
 | .exit j=>if j=id then du Y r Q env st else Q (.exit j) env st
 | .ret=>Q .ret env st
def LQ (Y:Ctx)(id:Nat)(r:AC)(next:List aY->St->Prop)(Q:Ex->List aY->St->Prop):Ex->List aY->St->Prop:=λe env st=>match e with
 | .normal=>next env st
 | .exit j=>if j=id then du Y r Q env st else Q (.exit j) env st
 | .ret=>Q .ret env st
def BQ.normal {id:Nat}(h:du Y r Q env st):BQ Y id r Q .normal env st:=h
def BQ.out {id:Nat}(h:du Y r Q env st):BQ Y id r Q (.exit id) env st:=by simp only[BQ,bh];exact h
def BQ.other {id:Nat}(hj:(j==id)=false)(h:Q (.exit j) env st):BQ Y id r Q (.exit j) env st:=by simp only[BQ,ah nK];exact h
def BQ.ret {id:Nat}(h:Q .ret env st):BQ Y id r Q .ret env st:=h
def LQ.normal {id:Nat}(h:next env st):LQ Y id r next Q .normal env st:=h
def LQ.out {id:Nat}(h:du Y r Q env st):LQ Y id r next Q (.exit id) env st:=by simp only[LQ,bh];exact h
def LQ.other {id:Nat}(hj:(j==id)=false)(h:Q (.exit j) env st):LQ Y id r next Q (.exit j) env st:=by simp only[LQ,ah nK];exact h
def LQ.ret {id:Nat}(h:Q .ret env st):LQ Y id r next Q .ret env st:=h
def fY {a b c:AC}(h:du Y (.seq a (.seq b c)) Q env st):du Y (.seq (.seq a b) c) Q env st:=by
 obtain⟨e1,s1,g1,h1⟩:=h;refine⟨e1,s1,g1,e1,s1,.refl _ _, ?_⟩;have:∀(Q1 Q2:Ex->List aY->St->Prop),Q1=Q2->du Y a Q1 e1 s1->du Y a Q2 e1 s1:=λ_ _ e h=>e▸h
 refine this _ _ ?_ h1;funext e env st;cases e with
 |normal=>exact propext ⟨λ⟨e2,s2,g2,h2⟩=>ij g2 h2,λh=>⟨_,_,.refl _ _,h⟩⟩
 |exit id=>rfl
 |ret=>rfl
def fZ {b:AC}(h:du Y b Q env st):du Y (.seq .skip b) Q env st:=.intro (.intro h)
def wp_skip (h:Q .normal env st):du Y .skip Q env st:=.intro h
def GB {b:AC}(h:Q .ret env st):du Y (.seq .ret b) Q env st:=.intro (.intro h)
def wp_ret (h:Q .ret env st):du Y .ret Q env st:=.intro h
def oA {id:Nat}{b:AC}(h:Q (.exit id) env st):du Y (.seq (.exit id) b) Q env st:=.intro (.intro h)
def wp_exit {id:Nat}(h:Q (.exit id) env st):du Y (.exit id) Q env st:=.intro h
def mJ {id:Nat}{a:AC}(h:du Y a (BQ Y id r Q) env st)(htr:Y.bU):du Y (.seq (.block id a) r) Q env st:=by
 refine .intro (.intro (ik htr a _ _ _ _ (λe env st h=>?_) h));cases e with
 |normal=>exact h
 |exit j=>simp only[BQ]at h⊢;split<;>rename_i hj<;>simp only[hj,bh,aX]at h<;>exact h
 |ret=>exact h
def wp_block {id:Nat}{a:AC}(h:du Y a (BQ Y id .skip Q) env st)(htr:Y.bU)(hQ:∀e env env' st st',aZ Y.lo env st env' st'->Q e env' st'->Q e env st):du Y (.block id a) Q env st:=by
 refine .intro (ik htr a _ _ _ _ (λe env st h=>?_) h);have hs:∀env st,du Y .skip Q env st->Q .normal env st:=λenv st ⟨e2,s2,g2,h2⟩=>hQ _ _ _ _ _ g2 h2
 cases e with
 |normal=>exact hs _ _ h
 |exit j=>simp only[BQ]at h⊢;split<;>rename_i hj<;>simp only[hj,bh,aX]at h<;>first|exact hs _ _ h|exact h
 |ret=>exact h
def CQ (next:List aY->St->Prop)(Q:Ex->List aY->St->Prop):Ex->List aY->St->Prop:=λe env st=>match e with
 | .normal=>next env st
 | .exit j=>Q (.exit j) env st
 | .ret=>Q .ret env st
def CQ.normal (h:next env st):CQ next Q .normal env st:=h
def CQ.other (h:Q (.exit j) env st):CQ next Q (.exit j) env st:=h
def CQ.ret (h:Q .ret env st):CQ next Q .ret env st:=h
def NT (id:Nat)(Q:Ex->List aY->St->Prop):Ex->List aY->St->Prop:=λe env st=>match e with
 | .normal=>Q .normal env st
 | .exit j=>if j=id then Q .normal env st else Q (.exit j) env st
 | .ret=>Q .ret env st
def NT.normal {id:Nat}(h:Q .normal env st):NT id Q .normal env st:=h
def NT.out {id:Nat}(h:Q .normal env st):NT id Q (.exit id) env st:=by simp only[NT,bh];exact h
theorem NT.other {id:Nat}(hj:(j==id)=false)(h:Q (.exit j) env st):NT id Q (.exit j) env st:=by grind [NT]
def NT.ret {id:Nat}(h:Q .ret env st):NT id Q .ret env st:=h
def lT {id:Nat}{a:AC}(h:du Y a (NT id Q) env st)(htr:Y.bU):du Y (.block id a) Q env st:=by
 refine .intro (ik htr a _ _ _ _ (λe env st h=>?_) h);cases e with
 |normal=>exact h
 |exit j=>simp only[NT]at h⊢;split<;>rename_i hj<;>simp only[hj,bh,aX]at h<;>exact h
 |ret=>exact h
def ra (htr:Y.bU){a b:AC}(F:ι->List aY)(G:ι->List (Nat×bj))(c:Nat)(P:ι->Prop)(h1:du Y a (CQ (λenv' st'=>∃j,P j/\aZ Y.lo env' st' (F j) ⟨c,G j⟩) Q) env st)(h2:∀i,P i->du Y b Q (F i) ⟨c,G i⟩):du Y (.seq a b) Q env st:=by
 refine .intro (ik htr a _ _ _ _ (λe env st h=>?_) h1);cases e with
 |normal=>obtain⟨j,hj,g⟩:=h;exact ij g (h2 j hj)
 |exit j=>exact h
 |ret=>exact h
def gy (htr:Y.bU){a:AC}{id:Nat}(F:ι->List aY)(G:ι->List (Nat×bj))(c:Nat)(P:ι->Prop)(μ:ι->Nat)(i0:ι)(hP:P i0)(h0:aZ Y.lo env st (F i0) ⟨c,G i0⟩)(hr:∀i,P i->du Y a (LQ Y id r (λenv' st'=>∃j,P j/\μ j<μ i/\aZ Y.lo env' st' (F j) ⟨c,G j⟩) Q) (F i) ⟨c,G i⟩):du Y (.seq (.block id (.loop a)) r) Q env st:=by
 let W:List aY->St->Nat->Prop:=λenv st k=>∃i,env=F i/\st=⟨c,G i⟩/\P i/\μ i=k
 have least:∀env st,(∃k,W env st k)->∃k,W env st k/\∀k',W env st k'->k<=k':=by
  intro env st ⟨k,hk⟩;induction k using Nat.strongRecOn with
  |_ k ih=>
   by_cases h:∃k',k'<k/\W env st k'
   .obtain⟨k',h1,h2⟩:=h;exact ih k' h1 h2
   .exact⟨k,hk,λk' hk'=>by
     rcases dX k' k with h1|h1
     .exact absurd ⟨k',h1,hk'⟩ h
     .exact h1⟩
 open Classical in
 refine .intro (.intro ⟨_,_,h0,λenv st=>∃k,W env st k,λenv st=>if h:∃k,W env st k then Classical.choose (least env st h)else 0,⟨_,i0,rfl,rfl,hP,rfl⟩,λenv st hk=>?_⟩);obtain⟨⟨i,e1,e2,e3,e5⟩,hmin⟩:=Classical.choose_spec (least env st hk);have:=hr i e3;rw[<-e1,<-e2]at this;refine ik htr a _ _ env st ?_ this
 .intro e env' st' h;cases e with
  |normal=>
   obtain⟨j,b3,b5,g⟩:=h;have hW:W (F j) ⟨c,G j⟩ (μ j):=⟨j,rfl,rfl,b3,rfl⟩;refine⟨F j,⟨c,G j⟩,g,⟨_,hW⟩, ?_⟩;show(if h:∃k,W (F j) ⟨c,G j⟩ k then Classical.choose (least _ _ h)else 0)<(if h:∃k,W env st k then Classical.choose (least env st h)else 0);rw[dif_pos ⟨_,hW⟩,dif_pos hk,<-e5];exact Nat.lt_of_le_of_lt ((Classical.choose_spec (least _ _ ⟨_,hW⟩)).2 _ hW) b5
  |exit j=>simp only[LQ]at h⊢;split<;>rename_i hj<;>simp only[hj,bh,aX]at h<;>exact h
  |ret=>exact h
def Bj (id:Nat)(next:List aY->St->Prop)(Q:Ex->List aY->St->Prop):Ex->List aY->St->Prop:=λe env st=>match e with
 | .normal=>next env st
 | .exit j=>if j=id then Q .normal env st else Q (.exit j) env st
 | .ret=>Q .ret env st
def Bj.normal {id:Nat}(h:next env st):Bj id next Q .normal env st:=h
def Bj.out {id:Nat}(h:Q .normal env st):Bj id next Q (.exit id) env st:=by simp only[Bj,bh];exact h
theorem Bj.other {id:Nat}(hj:(j==id)=false)(h:Q (.exit j) env st):Bj id next Q (.exit j) env st:=by grind [Bj]
def Bj.ret {id:Nat}(h:Q .ret env st):Bj id next Q .ret env st:=h
def IG (htr:Y.bU){a:AC}{id:Nat}(F:ι->List aY)(G:ι->List (Nat×bj))(c:Nat)(P:ι->Prop)(μ:ι->Nat)(i0:ι)(hP:P i0)(h0:aZ Y.lo env st (F i0) ⟨c,G i0⟩)(hr:∀i,P i->du Y a (Bj id (λenv' st'=>∃j,P j/\μ j<μ i/\aZ Y.lo env' st' (F j) ⟨c,G j⟩) Q) (F i) ⟨c,G i⟩):du Y (.block id (.loop a)) Q env st:=by
 let W:List aY->St->Nat->Prop:=λenv st k=>∃i,env=F i/\st=⟨c,G i⟩/\P i/\μ i=k
 have least:∀env st,(∃k,W env st k)->∃k,W env st k/\∀k',W env st k'->k<=k':=by
  intro env st ⟨k,hk⟩;induction k using Nat.strongRecOn with
  |_ k ih=>
   by_cases h:∃k',k'<k/\W env st k'
   .obtain⟨k',h1,h2⟩:=h;exact ih k' h1 h2
   .exact⟨k,hk,λk' hk'=>by
     rcases dX k' k with h1|h1
     .exact absurd ⟨k',h1,hk'⟩ h
     .exact h1⟩
 open Classical in
 refine .intro ⟨_,_,h0,λenv st=>∃k,W env st k,λenv st=>if h:∃k,W env st k then Classical.choose (least env st h)else 0,⟨_,i0,rfl,rfl,hP,rfl⟩,λenv st hk=>?_⟩;obtain⟨⟨i,e1,e2,e3,e5⟩,hmin⟩:=Classical.choose_spec (least env st hk);have:=hr i e3;rw[<-e1,<-e2]at this;refine ik htr a _ _ env st ?_ this
 .intro e env' st' h;cases e with
  |normal=>
   obtain⟨j,b3,b5,g⟩:=h;have hW:W (F j) ⟨c,G j⟩ (μ j):=⟨j,rfl,rfl,b3,rfl⟩;refine⟨F j,⟨c,G j⟩,g,⟨_,hW⟩, ?_⟩;show(if h:∃k,W (F j) ⟨c,G j⟩ k then Classical.choose (least _ _ h)else 0)<(if h:∃k,W env st k then Classical.choose (least env st h)else 0);rw[dif_pos ⟨_,hW⟩,dif_pos hk,<-e5];exact Nat.lt_of_le_of_lt ((Classical.choose_spec (least _ _ ⟨_,hW⟩)).2 _ hW) b5
  |exit j=>simp only[Bj]at h⊢;split<;>rename_i hj<;>simp only[hj,bh,aX]at h<;>exact h
  |ret=>exact h
def nth:List aY->Nat->aY
 |[],_=>.un
 |a::_,0=>a
 |_::r,n+1=>nth r n
def C5:∀(l:List aY) (n:Nat),l.getD n .un=nth l n
 |[],n=>by simp[nth]
 |a::_,0=>by simp[nth]
 |_::r,n+1=>by simpa[nth]using C5 r n
def bQ (env rs:List aY):Src->aY
 | .s n=>nth env n
 | .l p=>bif Nat.blt p rs.length then nth rs (rs.length-1-p)else .un
 | .c d=>⟨true,d⟩
theorem oL (env rs:List aY):Src.ev env rs.reverse=bQ env rs:=by
 funext s;cases s with
 |s n=>exact C5 env n
 |l p=>
  simp only[Src.ev,bQ];cases h:Nat.blt p rs.length with
  |true=>
   have:p<rs.length:=by simp[Nat.blt]at h;omega
   rw[cond_true,<-C5]
   grind
  |false=>
   have:¬p<rs.length:=by intro e;have:Nat.blt p rs.length=true:=by {simp[Nat.blt];omega};rw[this]at h;cases h
   grind
 |c d=>rfl
def ay (Y:Ctx)(draw:Bool)(l:List GI)(env rs:List aY)(nx:Nat)(m:List (Nat×bj))(K:List aY->St->Prop):Prop:=eV Y draw l env rs.reverse ⟨nx,m⟩ K
def Wz (env rs:List aY):List (Nat×Nat)->List aY
 |[]=>env
 |(s,p)::r=>Wz (env.set s (bQ [] rs (.l p))) rs r
theorem Ol (rs:List aY):∀(cm:List (Nat×Nat)) (env:List aY),iB env rs.reverse cm=Wz env rs cm
 |[],env=>rfl
 |(s,p)::r,env=>by
  simp only[iB,Wz];rw[Ol rs r,<-congrFun (oL [] rs) (.l p)];rfl
def aP {b:AC}{m:List (Nat×bj)}(h:ay Y draw ins env [] nx m (λvs st'=>du Y b Q (iB env vs cm) st')):du Y (.seq (.reg draw ins cm) b) Q env ⟨nx,m⟩:=.intro (.intro h)
def po {m:List (Nat×bj)}(h:ay Y draw ins env [] nx m (λvs st'=>Q .normal (iB env vs cm) st')):du Y (.reg draw ins cm) Q env ⟨nx,m⟩:=.intro h
theorem bm {b:AC}{nx':Nat}{m:List (Nat×bj)}{rs fQ:List aY}(h:du Y b Q env' ⟨nx',m⟩)(he:Wz env rs cm=env':=by exact rfl)(hn:nx+rs.length=nx':=by exact zu):ay Y draw [] fQ rs nx m (λvs st'=>du Y b Q (iB env vs cm) st'):=by
 grind [ay,eV,Ol]
theorem nF {nx':Nat}{m:List (Nat×bj)}{rs fQ:List aY}(h:Q .normal env' ⟨nx',m⟩)(he:Wz env rs cm=env':=by exact rfl)(hn:nx+rs.length=nx':=by exact zu):ay Y draw [] fQ rs nx m (λvs st'=>Q .normal (iB env vs cm) st'):=by
 grind [ay,eV,Ol]
def aQ {c:Src}{a b:AC}(h1:t=true->du Y (.seq a r) Q env st)(h2:t=false->du Y (.seq b r) Q env st)(hc:bQ env [] c=⟨true,.bool t⟩:=by exact rfl):du Y (.seq (.cond c a b) r) Q env st:=by
 have hc':c.ev env []=⟨true,.bool t⟩:=by rw[<-hc,<-oL];rfl
 refine .intro (.intro ?_);simp only[hc'];refine⟨trivial,λht=>?_,λht=>?_⟩
 .obtain⟨e,s,g,h⟩:=h1 ht;exact ij g h
 .obtain⟨e,s,g,h⟩:=h2 ht;exact ij g h
theorem wp_cond {c:Src}{a b:AC}(h1:t=true->du Y a Q env st)(h2:t=false->du Y b Q env st)(hc:bQ env [] c=⟨true,.bool t⟩:=by exact rfl):du Y (.cond c a b) Q env st:=by
 have hc':c.ev env []=⟨true,.bool t⟩:=by rw[<-hc,<-oL];rfl
 refine .intro ?_
 grind
def aZ.to {c nx':Nat}{m:List (Nat×bj)}(σ:List (Nat×Nat))(hc:nx'=c)(h:gN lo c σ=true)(he:fD lo σ env env')(hm:bo lo c σ m m'):aZ lo env ⟨nx,m⟩ env' ⟨nx',m'⟩:=by
 subst hc;exact .ren σ nx' env env' nx m m' h he hm
theorem bH {β:Type}(q:α->β)(xs:List α):(xs.map q).take xs.length=xs.map q:=gU aC
def bX {α:Type}{q:α->D}(h:∀x,(q x).aR=true):∀xs:List α,aK (xs.map q)=true
 |[]=>rfl
 |a::r=>by simp only[List.map_cons,aK,h a,bX h r,gC]
def aZ.fz {env2:List aY}{m:List (Nat×bj)}{es:List D}{st2:St}(l:Nat)(hl:look m l=some (.buf k es))(hn:aK es=true)(he:xc l k es env=env')(hm:zU l k es (c7 m l)=m')(h:aZ lo env' ⟨nx,m'⟩ env2 st2):aZ lo env ⟨nx,m⟩ env2 st2:=by
 have:=aZ.Vo (lo:=lo) l env ⟨nx,m⟩;simp only[Abs.Vo,hl,hn,cond_true,he,hm]at this;exact .trans _ _ _ _ _ _ this h
def bz {a:AC}{m:List (Nat×bj)}{es:List D}(l:Nat)(h:du Y a Q env' ⟨nx,m'⟩)(hl:look m l=some (.buf k es):=by exact rfl)(hn:aK es=true:=by first|exact rfl|exact bX (λ_=>rfl) _)(he:xc l k es env=env':=by simp only[xc,iY,mN,zU,EI,c7,Nat.reduceEqDiff,bh,aX,ir,ed,dw,il,iq,cr,a8,aN,cY,bH,reduceCtorEq,bD,ca,Nat.reduceAdd,Nat.reduceLeDiff];exact rfl)(hm:zU l k es (c7 m l)=m':=by simp only[xc,iY,mN,zU,EI,c7,Nat.reduceEqDiff,bh,aX,ir,ed,dw,il,iq,cr,a8,aN,cY,bH,reduceCtorEq,bD,ca,Nat.reduceAdd,Nat.reduceLeDiff];exact rfl):du Y a Q env ⟨nx,m⟩:=
 ij (aZ.fz l hl hn he hm (.refl _ _)) h
def WkE.rf:∀e:List aY,WkE e e
 |[]=>trivial
 |_::r=>⟨⟨rfl,.refl _⟩,WkE.rf r⟩
def QS.nil:QS [] []:=⟨rfl,λ_=>.refl _⟩
def QS.cons {x y:D}{a b:List D}(h:EN x y)(h2:QS a b):QS (x::a) (y::b):=⟨by simp[h2.1],λi=>by cases i with
 |zero=>exact h
 |succ i=>simpa using h2.2 i⟩
def QS.rf (a:List D):QS a a:=⟨rfl,λ_=>.refl _⟩
def QS.map {α:Type}{q p:α->D}:∀{xs:List α},(∀x∈xs,EN (q x) (p x))->QS (xs.map q) (xs.map p)
 |[],_=>.nil
 |x::r,h=>.cons (h x (.head _)) (QS.map λy hy=>h y (.tail _ hy))
def EN.ag {a b:List D}(h:QS a b):EN (.agg a) (.agg b):=.agg _ _ h.1 h.2
def EN.ss {a b:List D}(h:QS a b):EN (.sl k a) (.sl k b):=.sl _ _ _ h.1 h.2
def QT.nil {m:List (Nat×bj)}:QT m []:=trivial
def QT.id {m r:List (Nat×bj)}{b:bj}(h:look m l=some b)(h2:QT m r):QT m ((l,b)::r):=⟨⟨b,h,by cases b<;>first|exact⟨rfl,.rf _⟩|exact rfl⟩,h2⟩
def QT.bf {m r:List (Nat×bj)}{es es':List D}(h:look m l=some (.buf k es))(hw:QS es es')(h2:QT m r):QT m ((l,.buf k es')::r):=⟨⟨_,h,rfl,hw⟩,h2⟩
def AH {a:AC}{m:List (Nat×bj)}(m':List (Nat×bj))(hm:QT m m')(h:du Y a Q env ⟨nx,m'⟩):du Y a Q env ⟨nx,m⟩:=ij (.nz _ _ _ _ _ (WkE.rf _) hm) h
def fD.nil:fD lo σ [] []:=trivial
def fD.un {a:aY}{r s:List aY}(h:fD lo σ r s):fD lo σ (a::r) (.un::s):=⟨.inr rfl,h⟩
def fD.eq {ok:Bool}{d d':D}{r s:List aY}(hd:tx lo σ d=some d')(h:fD lo σ r s):fD lo σ (⟨ok,d⟩::r) (⟨ok,d'⟩::s):=⟨.inl ⟨rfl,.inr (.inl hd)⟩,h⟩
theorem fD.nl {ok:Bool}{d d':D}{r s:List aY}(hd:d'=d)(hn:d.aR=true)(h:fD lo σ r s):fD lo σ (⟨ok,d⟩::r) (⟨ok,d'⟩::s):=⟨.inl ⟨rfl,.inl ⟨hd,hn⟩⟩,h⟩
def fD.ni {ok:Bool}{d d':D}{r s:List aY}(hd:wq d d')(h:fD lo σ r s):fD lo σ (⟨ok,d⟩::r) (⟨ok,d'⟩::s):=⟨.inl ⟨rfl,.inr (.inr hd)⟩,h⟩
section
variable {c:Nat}{m r:List (Nat×bj)}
def bo.nil:bo lo c σ m []:=trivial
theorem bo.nl {es es':List D}(l:Nat)(hl:mT lo σ l=some l')(hm:look m l=some (.buf k es))(he:es'=es)(hn:aK es=true)(h:bo lo c σ m r):bo lo c σ m ((l',.buf k es')::r):=
 ⟨.inl ⟨l,_,hl,hm,rfl,.inl ⟨he,hn⟩⟩,h⟩
def bo.eq {es es':List D}(l:Nat)(hl:mT lo σ l=some l')(hm:look m l=some (.buf k es))(he:qT lo σ es=some es')(h:bo lo c σ m r):bo lo c σ m ((l',.buf k es')::r):=
 ⟨.inl ⟨l,_,hl,hm,rfl,.inr (.inl he)⟩,h⟩
def bo.ni {es es':List D}(l:Nat)(hl:mT lo σ l=some l')(hm:look m l=some (.buf k es))(he:N3 es es')(h:bo lo c σ m r):bo lo c σ m ((l',.buf k es')::r):=
 ⟨.inl ⟨l,_,hl,hm,rfl,.inr (.inr he)⟩,h⟩
def bo.AW {es':List D}(hl:mT lo σ l'=some l')(hm:look m l'=some (.buf k es'))(hn:aK es'=true)(h:bo lo c σ m r):bo lo c σ m ((l',.buf k es')::r):=.nl l' hl hm rfl hn h
def bo.NU {es' es:List D}(hl:mT lo σ l'=some l')(hm:look m l'=some (.buf k es))(he:qT lo σ es=some es')(h:bo lo c σ m r):bo lo c σ m ((l',.buf k es')::r):=.eq l' hl hm he h
def bo.mt {es':List D}(h1:Nat.ble lo l'=true)(h2:Nat.blt l' c=true)(h3:σ.all (λp=>!Nat.beq p.2 l')=true)(he:es'=[])(h:bo lo c σ m r):bo lo c σ m ((l',.buf k es')::r):=
 ⟨.inr ⟨h1,h2,h3,k,by rw[he]⟩,h⟩
def bo.it {p p':Nat}{s s':List UInt8}(l:Nat)(hl:mT lo σ l=some l')(hm:look m l=some (.iter s p))(hs:s'=s)(hp:p'=p)(h:bo lo c σ m r):bo lo c σ m ((l',.iter s' p')::r):=
 ⟨.inl ⟨l,_,hl,hm,hs,hp⟩,h⟩
def bo.NV {p p':Nat}{s s':List UInt8}(hl:mT lo σ l'=some l')(hm:look m l'=some (.iter s p))(hs:s'=s)(hp:p'=p)(h:bo lo c σ m r):bo lo c σ m ((l',.iter s' p')::r):=.it l' hl hm hs hp h
def bo.rw {s s':List UInt8}(l:Nat)(hl:mT lo σ l=some l')(hm:look m l=some (.row s))(hs:s'=s)(h:bo lo c σ m r):bo lo c σ m ((l',.row s')::r):=
 ⟨.inl ⟨l,_,hl,hm,hs⟩,h⟩
def bo.bl {l1 l2 n':Nat}{u u':Bool}(l:Nat)(hl:mT lo σ l=some l')(hm:look m l=some (.bld (some l1) n u))(h1:mT lo σ l1=some l2)(hn:n'=n)(hu:u'=u)(h:bo lo c σ m r):bo lo c σ m ((l',.bld (some l2) n' u')::r):=
 ⟨.inl ⟨l,_,hl,hm,⟨l2,h1,rfl⟩,hn,hu⟩,h⟩
def bo.b0 {n':Nat}{u u':Bool}(l:Nat)(hl:mT lo σ l=some l')(hm:look m l=some (.bld none n u))(hn:n'=n)(hu:u'=u)(h:bo lo c σ m r):bo lo c σ m ((l',.bld none n' u')::r):=
 ⟨.inl ⟨l,_,hl,hm,rfl,hn,hu⟩,h⟩
end
mutual
def xC (m:List (Nat×bj)):Sh->D->D
 | .a,d=>match d with
  | .aL=>.sl 0 []
  |d=>d
 | .sl k cs,d=>match d with
  | .aL=>.sl k []
  | .own l k' i c=>.sl k' ((((aH m l).drop i).take c).map λe=>match e with
   | .agg ds=>.agg (xL m cs ds)
   |e=>xH m cs e)
  |d=>d
 | .pt cs,d=>match d with
  | .ptr l k i o=>.ref k ((aH m l).map λe=>match e with
   | .agg ds=>.agg (xL m cs ds)
   |e=>xH m cs e) i o
  |d=>d
 | .kp cs,d=>match d with
  | .own l k' i c=>.sl k' ((((aH m l).drop i).take c).map λe=>match e with
   | .agg ds=>.agg (xL m cs ds)
   |e=>xH m cs e)
  |d=>d
def xH (m:List (Nat×bj)):List Sh->D->D
 |[],d=>d
 |s::_,d=>xC m s d
def xL (m:List (Nat×bj)):List Sh->List D->List D
 |[],ds=>ds
 |s::r,ds=>match ds with
  |[]=>[]
  |d::ds=>xC m s d::xL m r ds
end
def xV (m:List (Nat×bj))(cs:List Sh):D->D
 | .agg ds=>.agg (xL m cs ds)
 |e=>xH m cs e
mutual
def Vu (m:List (Nat×bj)):Sh->D->Prop
 | .a,d=>d.aR=true
 | .sl _ cs,d=>match d with
  | .own l k' i c=>dT m l k' (i+c)/\∀e∈((aH m l).drop i).take c,(match e with
   | .agg ds=>xLO m cs ds
   |e=>xHO m cs e)
  |d=>d.aR=true
 | .pt cs,d=>match d with
  | .ptr l k _ _=>dT m l k 0/\∀e∈aH m l,(match e with
   | .agg ds=>xLO m cs ds
   |e=>xHO m cs e)
  |d=>d.aR=true
 | .kp cs,d=>match d with
  | .own l k' i c=>dT m l k' (i+c)/\∀e∈((aH m l).drop i).take c,(match e with
   | .agg ds=>xLO m cs ds
   |e=>xHO m cs e)
  |d=>d.aR=true
def xHO (m:List (Nat×bj)):List Sh->D->Prop
 |[],d=>d.aR=true
 |s::_,d=>Vu m s d
def xLO (m:List (Nat×bj)):List Sh->List D->Prop
 |[],ds=>aK ds=true
 |s::r,ds=>match ds with
  |[]=>True
  |d::ds=>Vu m s d/\xLO m r ds
end
def xVO (m:List (Nat×bj))(cs:List Sh):D->Prop
 | .agg ds=>xLO m cs ds
 |e=>xHO m cs e
mutual
theorem aaA (m:List (Nat×bj)):∀(s:Sh) (d:D),kS m s d=xC m s d/\(ix m s d↔Vu m s d)
 | .a,d=>by cases d<;>simp only[kS,xC,ix,Vu]<;>exact⟨trivial,trivial⟩
 | .sl k cs,d=>by
  cases d<;>simp only[kS,xC,ix,Vu]<;>first
   |exact⟨trivial,trivial⟩
   |skip
  rename_i l k' i c;exact⟨aw (D.sl k') (List.map_congr_left λe _=>(El m cs e).1),and_congr_right λ_=>forall_congr' λe=>imp_congr_right λ_=>(El m cs e).2⟩
 | .pt cs,d=>by
  cases d<;>simp only[kS,xC,ix,Vu]<;>first
   |exact⟨trivial,trivial⟩
   |skip
  rename_i l k' i c;exact⟨aw (λx=>D.ref k' x i c) (List.map_congr_left λe _=>(El m cs e).1),and_congr_right λ_=>forall_congr' λe=>imp_congr_right λ_=>(El m cs e).2⟩
 | .kp cs,d=>by
  cases d<;>simp only[kS,xC,ix,Vu]<;>first
   |exact⟨trivial,trivial⟩
   |skip
  rename_i l k' i c;exact⟨aw (D.sl k') (List.map_congr_left λe _=>(El m cs e).1),and_congr_right λ_=>forall_congr' λe=>imp_congr_right λ_=>(El m cs e).2⟩
theorem El (m:List (Nat×bj)):∀(cs:List Sh) (d:D),jg m cs d=(match d with
   | .agg ds=>.agg (xL m cs ds)
   |e=>xH m cs e)/\(gH m cs d↔(match d with
   | .agg ds=>xLO m cs ds
   |e=>xHO m cs e))
 |[],d=>by cases d<;>simp only[jg,xH,xL,gH,xHO,xLO,D.aR]<;>first|exact⟨trivial,Iff.rfl⟩|exact⟨trivial,trivial⟩
 |s::r,d=>by
  cases d<;>simp only[jg,xH,gH,xHO]<;>first
   |exact aaA m s _
   |skip
  rename_i ds;exact⟨aw D.agg (SU m (s::r) ds).1,(SU m (s::r) ds).2⟩
theorem SU (m:List (Nat×bj)):∀(cs:List Sh) (ds:List D),nD m cs ds=xL m cs ds/\(ku m cs ds↔xLO m cs ds)
 |[],ds=>by simp only[nD,xL,ku,xLO];exact⟨trivial,trivial⟩
 |s::r,[]=>by simp only[nD,xL,ku,xLO];exact⟨trivial,trivial⟩
 |s::r,d::ds=>by
  simp only[nD,xL,ku,xLO,(aaA m s d).1,(SU m r ds).1];exact⟨trivial,and_congr (aaA m s d).2 (SU m r ds).2⟩
end
theorem GD (m:List (Nat×bj))(cs:List Sh)(d:D):jg m cs d=xV m cs d/\(gH m cs d↔xVO m cs d):=by
 have:=El m cs d;cases d<;>exact this
def jm (m:List (Nat×bj)):List (List Sh)->List D->List D
 |_,[]=>[]
 |[],d::r=>xV m [.a] d::jm m [] r
 |s::ss,d::r=>xV m s d::jm m ss r
def jb (m:List (Nat×bj)):List (List Sh)->List D->Prop
 |_,[]=>True
 |[],d::r=>xVO m [.a] d/\jb m [] r
 |s::ss,d::r=>xVO m s d/\jb m ss r
theorem dz (m:List (Nat×bj)):∀(ss:List (List Sh)) (ds:List D),iG m ss ds=jm m ss ds/\(jl m ss ds↔jb m ss ds)
 |ss,[]=>by simp[iG,jm,jl,jb]
 |[],d::r=>by
  simp only[iG,jm,jl,jb,(GD m [.a] d).1,(dz m [] r).1];exact⟨trivial,and_congr (GD m _ d).2 (dz m [] r).2⟩
 |s::ss,d::r=>by
  simp only[iG,jm,jl,jb,(GD m s d).1,(dz m ss r).1];exact⟨trivial,and_congr (GD m _ d).2 (dz m ss r).2⟩
def N4 (a:aj)(d:D):Ex->List aY->St->Prop:=λe env st=>e.home/\ow st.m env a.res/\M5 a env st/\ZT a env st=d
def NR (a:aj)(env:List aY)(m:List (Nat×bj)):D:=match a.res with
 |[r]=>xV m (a.rsh.getD 0 []) (Ip m env r)
 |rs=>.tup (jm m a.rsh (qS m env rs))
def AI (a:aj)(env:List aY)(m:List (Nat×bj)):Prop:=match a.res with
 |[r]=>xVO m (a.rsh.getD 0 []) (Ip m env r)
 |rs=>jb m a.rsh (qS m env rs)
theorem P3 {a:aj}{d:D}{e:Ex}{m:List (Nat×bj)}(he:e.home)(h1:ow m env a.res)(h2:AI a env m)(h3:NR a env m=d):N4 a d e env ⟨nx,m⟩:=by
 refine⟨he,h1, ?_, ?_⟩
 .unfold M5;unfold AI at h2;split<;>rename_i hr
  .rw[hr]at h2;exact(GD _ _ _).2.2 h2
  .split at h2
   .rename_i hr2;exact absurd hr2 (hr _)
   .exact(dz _ _ _).2.2 h2
 grind [ZT,NR,GD,dz]
def GP (a:aj)(k:Nat)(vd sd:D):Ex->List aY->St->Prop:=λe env st=>e.home/\ow st.m env a.res/\(ke a env st).aR=true/\ke a env st=vd/\look st.m 0=some (.buf k [sd])/\sd.aR=true
def jc {a:aj}{vd sd:D}{e:Ex}{m:List (Nat×bj)}(he:e.home)(h1:ow m env a.res)(h2:ke a env ⟨nx,m⟩=vd)(h3:look m 0=some (.buf k [sd]))(hn:vd.aR=true)(hs:sd.aR=true):GP a k vd sd e env ⟨nx,m⟩:=⟨he,h1,by rw[h2];exact hn,h2,h3,hs⟩
end
section
variable {Y:Ctx}{r:List GI}{rs:List aY}{m:List (Nat×bj)}{K:List aY->St->Prop}{g:Option (Nat×Bool)}{f:Bool}
def at8 (s:List UInt8)(i:Nat):Int:=((s.getD i 0).toNat:Int)
def GU (s:List UInt8)(i:Nat):0<=at8 s i/\at8 s i<256:=by
 have:=(s.getD i 0).toNat_lt;unfold at8;omega
def D.ajf:D->Bool
 | .str _=>true
 |_=>false
def wrap_i64 (h1:-9223372036854775808<=a)(h2:a<=9223372036854775807):IntKind.i64.wrap a=a:=IntWalk.i64_in _ ae
theorem Q0 (a b:List UInt8):(a==b)=decide (a=b):=by
 grind
def getD_map [Inhabited α]{q:α->D}{xs:List α}{i:Nat}(h:i<xs.length):(xs.map q).getD i .any=q xs[i]! :=by
 simp[List.getD,h]
def ale (b:UInt8):(D.int .u8 b.toNat).u8=b:=by simp[D.u8]
def ab7 (s:List UInt8):D.str ((s.map λb=>D.int .u8 b.toNat).map D.u8)=.str s:=by
 congr 1;rw[List.map_map]
 conv=>rhs;rw[<-List.map_id s]
 apply List.map_congr_left;intro b _;exact ale b
def GF (rs:List aY):Option (Nat×Bool)->Bool->Prop
 |none,f=>f=true
 |some (j,w),f=>∃ok b,bQ [] rs (.l j)=⟨ok,.bool b⟩/\(ok&&(b==w))=f
def GF.flag (h:GF rs g f):flag rs.reverse g=f/\yO rs.reverse g:=by
 cases g with
 |none=>exact⟨h.symm,trivial⟩
 |some jw=>
  obtain⟨j,w⟩:=jw;obtain⟨ok,b,h1,h2⟩:=h;have h3:rs.reverse.getD j .un=⟨ok,.bool b⟩:=by rw[<-h1,<-oL];rfl
  simp only[Abs.flag,yO,h3,h2,D.isBool];exact⟨trivial,λ_=>trivial⟩
theorem Ze {i:ax}(hM:i.cN=false)(hF:i.lD draw g=false)(hC:g.isSome=true->i.calm=true)(hg:GF rs g f)(d:D)(ho:f=true->i.eE Y (bQ env rs) m)(hv:f=true->i.val Y (bQ env rs) m (nx+rs.length)=d)(m':List (Nat×bj))(hm:i.bN Y (bQ env rs) m (nx+rs.length)=m')(h:(f=true->i.KH draw (bQ env rs))->ay Y draw r env (⟨f,d⟩::rs) nx m' K):ay Y draw (⟨i,g⟩::r) env rs nx m K:=by
 obtain⟨hf,hb⟩:=hg.flag;unfold ay;rw[nN hM hF,oL,hf];refine⟨?_,ho,λha=>⟨d,by simpa using hv, ?_⟩⟩
 .cases g with
  |none=>trivial
  |some jw=>exact⟨hC rfl,hb⟩
 grind [ay]
def fX {i:ax}(hC:i.calm=true)(hg:GF rs g f)(d:D)(ho:f=true->i.eE Y (bQ env rs) m)(hv:f=true->i.val Y (bQ env rs) m (nx+rs.length)=d)(m':List (Nat×bj))(hm:i.bN Y (bQ env rs) m (nx+rs.length)=m')(h:(f=true->i.KH draw (bQ env rs))->ay Y draw r env (⟨f,d⟩::rs) nx m' K):ay Y draw (⟨i,g⟩::r) env rs nx m K:=
 Ze (by cases i<;>first|rfl|cases hC) (by simp[ax.lD,hC]) (λ_=>hC) hg d ho hv m' hm h
def bw {i:ax}(hC:i.pure=true)(hg:GF rs g f)(d:D)(ho:f=true->i.eE Y (bQ env rs) m)(hv:f=true->i.val Y (bQ env rs) m (nx+rs.length)=d)(h:(f=true->i.KH draw (bQ env rs))->ay Y draw r env (⟨f,d⟩::rs) nx m K):ay Y draw (⟨i,g⟩::r) env rs nx m K:=
 fX (Ux hC) hg d ho hv m (Y6 hC) h
def pg {i:ax}(hM:i.cN=false)(d:D)(ho:i.eE Y (bQ env rs) m)(hv:i.val Y (bQ env rs) m (nx+rs.length)=d)(m':List (Nat×bj))(hm:i.bN Y (bQ env rs) m (nx+rs.length)=m')(h:i.KH draw (bQ env rs)->ay Y draw r env (⟨true,d⟩::rs) nx m' K):ay Y draw (⟨i,none⟩::r) env rs nx m K:=
 Ze hM (by simp[ax.lD]) (λh=>bZ) rfl d (λ_=>ho) (λ_=>hv) m' hm (λha=>h (ha rfl))
theorem Zh {i:ax}{w:Bool}(hM:i.cN=false)(hC:i.calm=false)(hg:GF rs (some (j,w)) f)(h1:f=true->∃d,i.eE Y (bQ env rs) m/\i.val Y (bQ env rs) m (nx+rs.length)=d/\∃m',i.bN Y (bQ env rs) m (nx+rs.length)=m'/\ay Y false r env (⟨true,d⟩::rs) nx m' K)(h2:f=false->ay Y false r env (⟨false,.any⟩::rs) nx m K):ay Y false (⟨i,some (j,w)⟩::r) env rs nx m K:=by
 obtain⟨hf,hb⟩:=hg.flag
 grind [ay,ze,ax.lD,oL]
def bI {d:D}(h:ay Y draw r env (⟨f,d⟩::rs) nx m K)(hg:GF rs g f:=by exact cD)(hx:bQ env rs x=⟨fx,d⟩:=by exact rfl)(kx:f=true->fx=true:=by exact bp):ay Y draw (⟨.mv x,g⟩::r) env rs nx m K:=
 bw rfl hg _ (λhf=>oC) (λhf=>me) (λha=>h)
def Sj {b:Bool}(h:ay Y draw r env (⟨f,.bool (!b)⟩::rs) nx m K)(hg:GF rs g f:=by exact cD)(hx:bQ env rs x=⟨fx,.bool b⟩:=by exact rfl)(kx:f=true->fx=true:=by exact bp):ay Y draw (⟨.un .not x,g⟩::r) env rs nx m K:=
 bw rfl hg _ (λhf=>oC) (λhf=>me) (λha=>h)
def Mt {c b:Src}{fc fb y:Bool}(h:ay Y draw r env (⟨f,.bool (t ||y)⟩::rs) nx m K)(hg:GF rs g f:=by exact cD)(hc:bQ env rs c=⟨fc,.bool t⟩:=by exact rfl)(hb:bQ env rs b=⟨fb,.bool y⟩:=by exact rfl)(kc:f=true->fc=true:=by exact bp)(kb:f=true->t=false->fb=true:=by intro h1 h2;first|(rw[h2];exact rfl)|(rw[h2,h1];rfl)|(rw[h1,h2];rfl)|simp_all):ay Y draw (⟨.pick c (.c (.bool true)) b,g⟩::r) env rs nx m K:=
 bw rfl hg _ (λhf=>by simp only[ax.eE,hc,hb];exact⟨kc hf,λ_=>rfl,λe=>kb hf e⟩) (λhf=>by simp only[ax.val,hc,hb];cases t<;>rfl) (λ_=>h)
def uU {c a:Src}{fc fa y:Bool}(h:ay Y draw r env (⟨f,.bool (t&&y)⟩::rs) nx m K)(hg:GF rs g f:=by exact cD)(hc:bQ env rs c=⟨fc,.bool t⟩:=by exact rfl)(ha:bQ env rs a=⟨fa,.bool y⟩:=by exact rfl)(kc:f=true->fc=true:=by exact bp)(ka:f=true->t=true->fa=true:=by intro h1 h2;first|(rw[h2];exact rfl)|(rw[h2,h1];rfl)|(rw[h1,h2];rfl)|simp_all):ay Y draw (⟨.pick c a (.c (.bool false)),g⟩::r) env rs nx m K:=
 bw rfl hg _ (λhf=>by simp only[ax.eE,hc,ha];exact⟨kc hf,λe=>ka hf e,λ_=>rfl⟩) (λhf=>by simp only[ax.val,hc,ha];cases t<;>rfl) (λ_=>h)
def mb (h:ay Y draw r env (⟨f,.int .i64 (a+b)⟩::rs) nx m K)(hg:GF rs g f:=by exact cD)(hx:bQ env rs x=⟨fx,.int .i64 a⟩:=by exact rfl)(hy:bQ env rs y=⟨fy,.int .i64 b⟩:=by exact rfl)(kx:f=true->fx=true:=by exact bp)(ky:f=true->fy=true:=by exact bp)(hb:f=true->-9223372036854775808<=a+b/\a+b<=9223372036854775807:=by exact II):ay Y draw (⟨.bin .add x y,g⟩::r) env rs nx m K:=
 bw rfl hg _ (λhf=>gV) (λhf=>QJ) (λha=>h)
def Zc {k:IntKind}(v:Int)(h:ay Y draw r env (⟨f,.int k v⟩::rs) nx m K)(hg:GF rs g f:=by exact cD)(hx:bQ env rs x=⟨fx,.int k a⟩:=by exact rfl)(hy:bQ env rs y=⟨fy,.int k b⟩:=by exact rfl)(kx:f=true->fx=true:=by exact bp)(ky:f=true->fy=true:=by exact bp)(hb:f=true->k.wrap (a+b)=v):ay Y draw (⟨.bin .add x y,g⟩::r) env rs nx m K:=
 bw rfl hg _ (λhf=>gV) (λhf=>px) (λha=>h)
def BI (h:ay Y draw r env (⟨f,.int .i64 (a-b)⟩::rs) nx m K)(hg:GF rs g f:=by exact cD)(hx:bQ env rs x=⟨fx,.int .i64 a⟩:=by exact rfl)(hy:bQ env rs y=⟨fy,.int .i64 b⟩:=by exact rfl)(kx:f=true->fx=true:=by exact bp)(ky:f=true->fy=true:=by exact bp)(hb:f=true->-9223372036854775808<=a-b/\a-b<=9223372036854775807:=by exact II):ay Y draw (⟨.bin .sub x y,g⟩::r) env rs nx m K:=
 bw rfl hg _ (λhf=>gV) (λhf=>QJ) (λha=>h)
def HZ {k:IntKind}(v:Int)(h:ay Y draw r env (⟨f,.int k v⟩::rs) nx m K)(hg:GF rs g f:=by exact cD)(hx:bQ env rs x=⟨fx,.int k a⟩:=by exact rfl)(hy:bQ env rs y=⟨fy,.int k b⟩:=by exact rfl)(kx:f=true->fx=true:=by exact bp)(ky:f=true->fy=true:=by exact bp)(hb:f=true->k.wrap (a-b)=v):ay Y draw (⟨.bin .sub x y,g⟩::r) env rs nx m K:=
 bw rfl hg _ (λhf=>gV) (λhf=>px) (λha=>h)
def xR (h:ay Y draw r env (⟨f,.int .i64 (a*b)⟩::rs) nx m K)(hg:GF rs g f:=by exact cD)(hx:bQ env rs x=⟨fx,.int .i64 a⟩:=by exact rfl)(hy:bQ env rs y=⟨fy,.int .i64 b⟩:=by exact rfl)(kx:f=true->fx=true:=by exact bp)(ky:f=true->fy=true:=by exact bp)(hb:f=true->-9223372036854775808<=a*b/\a*b<=9223372036854775807:=by exact II):ay Y draw (⟨.bin .mul x y,g⟩::r) env rs nx m K:=
 bw rfl hg _ (λhf=>gV) (λhf=>QJ) (λha=>h)
def Zm {k:IntKind}(v:Int)(h:ay Y draw r env (⟨f,.int k v⟩::rs) nx m K)(hg:GF rs g f:=by exact cD)(hx:bQ env rs x=⟨fx,.int k a⟩:=by exact rfl)(hy:bQ env rs y=⟨fy,.int k b⟩:=by exact rfl)(kx:f=true->fx=true:=by exact bp)(ky:f=true->fy=true:=by exact bp)(hb:f=true->k.wrap (a*b)=v):ay Y draw (⟨.bin .mul x y,g⟩::r) env rs nx m K:=
 bw rfl hg _ (λhf=>gV) (λhf=>px) (λha=>h)
def afP {k:IntKind}(v:Int)(h:ay Y draw r env (⟨f,.int k v⟩::rs) nx m K)(hg:GF rs g f:=by exact cD)(hx:bQ env rs x=⟨fx,.int k a⟩:=by exact rfl)(hy:bQ env rs y=⟨fy,.int k b⟩:=by exact rfl)(kx:f=true->fx=true:=by exact bp)(ky:f=true->fy=true:=by exact bp)(hn:f=true->b≠0)(hb:f=true->k.wrap (a.tdiv b)=v):ay Y draw (⟨.bin .quo x y,g⟩::r) env rs nx m K:=
 bw rfl hg _ (λhf=>KF) (λhf=>px) (λha=>h)
def Ai {k:IntKind}(v:Int)(h:ay Y draw r env (⟨f,.int k v⟩::rs) nx m K)(hg:GF rs g f:=by exact cD)(hx:bQ env rs x=⟨fx,.int k a⟩:=by exact rfl)(hy:bQ env rs y=⟨fy,.int k b⟩:=by exact rfl)(kx:f=true->fx=true:=by exact bp)(ky:f=true->fy=true:=by exact bp)(hn:f=true->b≠0)(hb:f=true->a.tmod b=v):ay Y draw (⟨.bin .rem x y,g⟩::r) env rs nx m K:=
 bw rfl hg _ (λhf=>KF) (λhf=>px) (λha=>h)
def F1 {k:IntKind}(v:Int)(h:ay Y draw r env (⟨f,.int k v⟩::rs) nx m K)(hg:GF rs g f:=by exact cD)(hx:bQ env rs x=⟨fx,.int k a⟩:=by exact rfl)(hy:bQ env rs y=⟨fy,.int k2 b⟩:=by exact rfl)(kx:f=true->fx=true:=by exact bp)(ky:f=true->fy=true:=by exact bp)(hn:f=true->0<=b:=by exact rR)(hb:f=true->k.wrap (a*2^(min b.toNat k.bits))=v):ay Y draw (⟨.bin .shl x y,g⟩::r) env rs nx m K:=
 bw rfl hg _ (λhf=>KF) (λhf=>px) (λha=>h)
def Sk {k:IntKind}(v:Int)(h:ay Y draw r env (⟨f,.int k v⟩::rs) nx m K)(hg:GF rs g f:=by exact cD)(hx:bQ env rs x=⟨fx,.int k a⟩:=by exact rfl)(hy:bQ env rs y=⟨fy,.int k2 b⟩:=by exact rfl)(kx:f=true->fx=true:=by exact bp)(ky:f=true->fy=true:=by exact bp)(hn:f=true->0<=b:=by exact rR)(hb:f=true->a.fdiv (2^(min b.toNat k.bits))=v):ay Y draw (⟨.bin .shr x y,g⟩::r) env rs nx m K:=
 bw rfl hg _ (λhf=>KF) (λhf=>px) (λha=>h)
def Dl {k:IntKind}(v:Int)(h:ay Y draw r env (⟨f,.int k v⟩::rs) nx m K)(hg:GF rs g f:=by exact cD)(hx:bQ env rs x=⟨fx,.int k a⟩:=by exact rfl)(hy:bQ env rs y=⟨fy,.int k b⟩:=by exact rfl)(kx:f=true->fx=true:=by exact bp)(ky:f=true->fy=true:=by exact bp)(hb:f=true->k.wrap (((BitVec.ofInt k.bits a)&&&(BitVec.ofInt k.bits b)).toNat)=v):ay Y draw (⟨.bin .and x y,g⟩::r) env rs nx m K:=
 bw rfl hg _ (λhf=>gV) (λhf=>px) (λha=>h)
def afM {k:IntKind}(v:Int)(h:ay Y draw r env (⟨f,.int k v⟩::rs) nx m K)(hg:GF rs g f:=by exact cD)(hx:bQ env rs x=⟨fx,.int k a⟩:=by exact rfl)(hy:bQ env rs y=⟨fy,.int k b⟩:=by exact rfl)(kx:f=true->fx=true:=by exact bp)(ky:f=true->fy=true:=by exact bp)(hb:f=true->k.wrap (((BitVec.ofInt k.bits a) |||(BitVec.ofInt k.bits b)).toNat)=v):ay Y draw (⟨.bin .or x y,g⟩::r) env rs nx m K:=
 bw rfl hg _ (λhf=>gV) (λhf=>px) (λha=>h)
def HT {k:IntKind}(v:Int)(h:ay Y draw r env (⟨f,.int k v⟩::rs) nx m K)(hg:GF rs g f:=by exact cD)(hx:bQ env rs x=⟨fx,.int k a⟩:=by exact rfl)(hy:bQ env rs y=⟨fy,.int k b⟩:=by exact rfl)(kx:f=true->fx=true:=by exact bp)(ky:f=true->fy=true:=by exact bp)(hb:f=true->k.wrap (((BitVec.ofInt k.bits a)^^^(BitVec.ofInt k.bits b)).toNat)=v):ay Y draw (⟨.bin .xor x y,g⟩::r) env rs nx m K:=
 bw rfl hg _ (λhf=>gV) (λhf=>px) (λha=>h)
def y9 {k:IntKind}(h:ay Y draw r env (⟨f,.bool (decide (a<b))⟩::rs) nx m K)(hg:GF rs g f:=by exact cD)(hx:bQ env rs x=⟨fx,.int k a⟩:=by exact rfl)(hy:bQ env rs y=⟨fy,.int k b⟩:=by exact rfl)(kx:f=true->fx=true:=by exact bp)(ky:f=true->fy=true:=by exact bp):ay Y draw (⟨.bin .lss x y,g⟩::r) env rs nx m K:=
 bw rfl hg _ (λhf=>gV) (λhf=>zD) (λha=>h)
def HW {k:IntKind}(h:ay Y draw r env (⟨f,.bool (decide (a<=b))⟩::rs) nx m K)(hg:GF rs g f:=by exact cD)(hx:bQ env rs x=⟨fx,.int k a⟩:=by exact rfl)(hy:bQ env rs y=⟨fy,.int k b⟩:=by exact rfl)(kx:f=true->fx=true:=by exact bp)(ky:f=true->fy=true:=by exact bp):ay Y draw (⟨.bin .leq x y,g⟩::r) env rs nx m K:=
 bw rfl hg _ (λhf=>gV) (λhf=>zD) (λha=>h)
def pe {k:IntKind}(h:ay Y draw r env (⟨f,.bool (decide (b<a))⟩::rs) nx m K)(hg:GF rs g f:=by exact cD)(hx:bQ env rs x=⟨fx,.int k a⟩:=by exact rfl)(hy:bQ env rs y=⟨fy,.int k b⟩:=by exact rfl)(kx:f=true->fx=true:=by exact bp)(ky:f=true->fy=true:=by exact bp):ay Y draw (⟨.bin .gtr x y,g⟩::r) env rs nx m K:=
 bw rfl hg _ (λhf=>gV) (λhf=>zD) (λha=>h)
def HU {k:IntKind}(h:ay Y draw r env (⟨f,.bool (decide (b<=a))⟩::rs) nx m K)(hg:GF rs g f:=by exact cD)(hx:bQ env rs x=⟨fx,.int k a⟩:=by exact rfl)(hy:bQ env rs y=⟨fy,.int k b⟩:=by exact rfl)(kx:f=true->fx=true:=by exact bp)(ky:f=true->fy=true:=by exact bp):ay Y draw (⟨.bin .geq x y,g⟩::r) env rs nx m K:=
 bw rfl hg _ (λhf=>gV) (λhf=>zD) (λha=>h)
def Pl {k:IntKind}(h:ay Y draw r env (⟨f,.bool (decide (a=b))⟩::rs) nx m K)(hg:GF rs g f:=by exact cD)(hx:bQ env rs x=⟨fx,.int k a⟩:=by exact rfl)(hy:bQ env rs y=⟨fy,.int k b⟩:=by exact rfl)(kx:f=true->fx=true:=by exact bp)(ky:f=true->fy=true:=by exact bp):ay Y draw (⟨.bin .eql x y,g⟩::r) env rs nx m K:=
 bw rfl hg _ (λhf=>gV) (λhf=>zD) (λha=>h)
def pf {k:IntKind}(h:ay Y draw r env (⟨f,.bool (!decide (a=b))⟩::rs) nx m K)(hg:GF rs g f:=by exact cD)(hx:bQ env rs x=⟨fx,.int k a⟩:=by exact rfl)(hy:bQ env rs y=⟨fy,.int k b⟩:=by exact rfl)(kx:f=true->fx=true:=by exact bp)(ky:f=true->fy=true:=by exact bp):ay Y draw (⟨.bin .neq x y,g⟩::r) env rs nx m K:=
 bw rfl hg _ (λhf=>gV) (λhf=>zD) (λha=>h)
def akJ {a b:List UInt8}(h:ay Y draw r env (⟨f,.bool (Op.bytesLess a b)⟩::rs) nx m K)(hg:GF rs g f:=by exact cD)(hx:bQ env rs x=⟨fx,.str a⟩:=by exact rfl)(hy:bQ env rs y=⟨fy,.str b⟩:=by exact rfl)(kx:f=true->fx=true:=by exact bp)(ky:f=true->fy=true:=by exact bp):ay Y draw (⟨.bin .lss x y,g⟩::r) env rs nx m K:=
 bw rfl hg _ (λhf=>gV) (λhf=>zC) (λha=>h)
def akI {a b:List UInt8}(h:ay Y draw r env (⟨f,.bool (Op.bytesLess a b ||decide (a=b))⟩::rs) nx m K)(hg:GF rs g f:=by exact cD)(hx:bQ env rs x=⟨fx,.str a⟩:=by exact rfl)(hy:bQ env rs y=⟨fy,.str b⟩:=by exact rfl)(kx:f=true->fx=true:=by exact bp)(ky:f=true->fy=true:=by exact bp):ay Y draw (⟨.bin .leq x y,g⟩::r) env rs nx m K:=
 bw rfl hg _ (λhf=>gV) (λhf=>zC) (λha=>h)
def akA {a b:List UInt8}(h:ay Y draw r env (⟨f,.bool (!(Op.bytesLess a b ||decide (a=b)))⟩::rs) nx m K)(hg:GF rs g f:=by exact cD)(hx:bQ env rs x=⟨fx,.str a⟩:=by exact rfl)(hy:bQ env rs y=⟨fy,.str b⟩:=by exact rfl)(kx:f=true->fx=true:=by exact bp)(ky:f=true->fy=true:=by exact bp):ay Y draw (⟨.bin .gtr x y,g⟩::r) env rs nx m K:=
 bw rfl hg _ (λhf=>gV) (λhf=>zC) (λha=>h)
def akz {a b:List UInt8}(h:ay Y draw r env (⟨f,.bool (!Op.bytesLess a b)⟩::rs) nx m K)(hg:GF rs g f:=by exact cD)(hx:bQ env rs x=⟨fx,.str a⟩:=by exact rfl)(hy:bQ env rs y=⟨fy,.str b⟩:=by exact rfl)(kx:f=true->fx=true:=by exact bp)(ky:f=true->fy=true:=by exact bp):ay Y draw (⟨.bin .geq x y,g⟩::r) env rs nx m K:=
 bw rfl hg _ (λhf=>gV) (λhf=>zC) (λha=>h)
def Zg {a b:List UInt8}(h:ay Y draw r env (⟨f,.bool (decide (a=b))⟩::rs) nx m K)(hg:GF rs g f:=by exact cD)(hx:bQ env rs x=⟨fx,.str a⟩:=by exact rfl)(hy:bQ env rs y=⟨fy,.str b⟩:=by exact rfl)(kx:f=true->fx=true:=by exact bp)(ky:f=true->fy=true:=by exact bp):ay Y draw (⟨.bin .eql x y,g⟩::r) env rs nx m K:=
 bw rfl hg _ (λhf=>gV) (λhf=>zC) (λha=>h)
def akK {a b:List UInt8}(h:ay Y draw r env (⟨f,.bool (!decide (a=b))⟩::rs) nx m K)(hg:GF rs g f:=by exact cD)(hx:bQ env rs x=⟨fx,.str a⟩:=by exact rfl)(hy:bQ env rs y=⟨fy,.str b⟩:=by exact rfl)(kx:f=true->fx=true:=by exact bp)(ky:f=true->fy=true:=by exact bp):ay Y draw (⟨.bin .neq x y,g⟩::r) env rs nx m K:=
 bw rfl hg _ (λhf=>gV) (λhf=>zC) (λha=>h)
def Pk {a b:List UInt8}(h:ay Y draw r env (⟨f,.str (a++b)⟩::rs) nx m K)(hg:GF rs g f:=by exact cD)(hx:bQ env rs x=⟨fx,.str a⟩:=by exact rfl)(hy:bQ env rs y=⟨fy,.str b⟩:=by exact rfl)(kx:f=true->fx=true:=by exact bp)(ky:f=true->fy=true:=by exact bp)(hb:f=true->a.length+b.length<=9223372036854775807):ay Y draw (⟨.bin .add x y,g⟩::r) env rs nx m K:=
 bw rfl hg _ (λhf=>by simp[ax.eE,hx,hy,kx hf,ky hf,AO,hb hf]) (λhf=>by simp only[ax.val,hx,hy,ER]) (λha=>h)
def r_eqP {ag:Bool}{ks:List CK}{a b:D}{v:Bool}(h:ay Y draw r env (⟨f,.bool (v)⟩::rs) nx m K)(hb:ib a.cells b.cells=v)(hg:GF rs g f:=by exact cD)(hx:bQ env rs x=⟨fx,a⟩:=by exact rfl)(hy:bQ env rs y=⟨fy,b⟩:=by exact rfl)(kx:f=true->fx=true:=by exact bp)(ky:f=true->fy=true:=by exact bp)(h1:f=true->a.isAgg=ag/\b.isAgg=ag/\fH ks a.cells/\fH ks b.cells:=by exact uJ):ay Y draw (⟨.eqA false ag ks x y,g⟩::r) env rs nx m K:=
 bw rfl hg _ (λhf=>Td) (λhf=>by simp only[ax.val,hx,hy];rw[hb];rfl) (λha=>h)
def r_eqN {ag:Bool}{ks:List CK}{a b:D}{v:Bool}(h:ay Y draw r env (⟨f,.bool (!v)⟩::rs) nx m K)(hb:ib a.cells b.cells=v)(hg:GF rs g f:=by exact cD)(hx:bQ env rs x=⟨fx,a⟩:=by exact rfl)(hy:bQ env rs y=⟨fy,b⟩:=by exact rfl)(kx:f=true->fx=true:=by exact bp)(ky:f=true->fy=true:=by exact bp)(h1:f=true->a.isAgg=ag/\b.isAgg=ag/\fH ks a.cells/\fH ks b.cells:=by exact uJ):ay Y draw (⟨.eqA true ag ks x y,g⟩::r) env rs nx m K:=
 bw rfl hg _ (λhf=>Td) (λhf=>by simp only[ax.val,hx,hy];rw[hb];rfl) (λha=>h)
def rB {k:IntKind}(v:Int)(h:ay Y draw r env (⟨f,.int k v⟩::rs) nx m K)(hg:GF rs g f:=by exact cD)(hx:bQ env rs x=⟨fx,.int k2 a⟩:=by exact rfl)(kx:f=true->fx=true:=by exact bp)(hb:f=true->k.wrap a=v):ay Y draw (⟨.cvi k x,g⟩::r) env rs nx m K:=
 bw rfl hg _ (λhf=>oC) (λhf=>by simp only[ax.val,hx];rw[hb hf]) (λha=>h)
def Dn {s:List UInt8}(h:(f=true->draw=false->s.length<=9223372036854775807)->ay Y draw r env (⟨f,.int .i64 s.length⟩::rs) nx m K)(hg:GF rs g f:=by exact cD)(hx:bQ env rs x=⟨fx,.str s⟩:=by exact rfl)(kx:f=true->fx=true:=by exact bp):ay Y draw (⟨.lenS x,g⟩::r) env rs nx m K:=
 bw rfl hg _ (λhf=>oC) (λhf=>me) (λha=>h (λhf hd=>QN))
def HV {q:α->D}{xs:List α}(h:(f=true->draw=false->xs.length<=9223372036854775807)->ay Y draw r env (⟨f,.int .i64 xs.length⟩::rs) nx m K)(hg:GF rs g f:=by exact cD)(hx:bQ env rs x=⟨fx,.sl k (xs.map q)⟩:=by exact rfl)(kx:f=true->fx=true:=by exact bp):ay Y draw (⟨.len x,g⟩::r) env rs nx m K:=
 bw rfl hg _ (λhf=>oC) (λhf=>me) (λha=>h (λhf hd=>QN))
def Po {i:Nat}(h:(f=true->draw=false->n<=9223372036854775807)->ay Y draw r env (⟨f,.int .i64 n⟩::rs) nx m K)(hg:GF rs g f:=by exact cD)(hx:bQ env rs x=⟨fx,.own l k i n⟩:=by exact rfl)(kx:f=true->fx=true:=by exact bp):ay Y draw (⟨.len x,g⟩::r) env rs nx m K:=
 bw rfl hg _ (λhf=>oC) (λhf=>me) (λha=>h (λhf hd=>QN))
def akH (h:ay Y draw r env (⟨f,.int .i64 0⟩::rs) nx m K)(hg:GF rs g f:=by exact cD)(hx:bQ env rs x=⟨fx,.aL⟩:=by exact rfl)(kx:f=true->fx=true:=by exact bp):ay Y draw (⟨.len x,g⟩::r) env rs nx m K:=
 bw rfl hg _ (λhf=>oC) (λhf=>me) (λha=>h)
def akL {i o:Nat}(h:ay Y draw r env (⟨f,.ptr l k i o⟩::rs) nx m K)(hg:GF rs g f:=by exact cD)(hx:bQ env rs x=⟨fx,.ptr l k i o⟩:=by exact rfl)(kx:f=true->fx=true:=by exact bp):ay Y draw (⟨.nilck x,g⟩::r) env rs nx m K:=
 bw rfl hg _ (λhf=>oC) (λhf=>me) (λha=>h)
def akM {i o:Nat}{es:List D}(h:ay Y draw r env (⟨f,.ref k es i o⟩::rs) nx m K)(hg:GF rs g f:=by exact cD)(hx:bQ env rs x=⟨fx,.ref k es i o⟩:=by exact rfl)(kx:f=true->fx=true:=by exact bp):ay Y draw (⟨.nilck x,g⟩::r) env rs nx m K:=
 bw rfl hg _ (λhf=>oC) (λhf=>me) (λha=>h)
def Sg {off i o:Nat}(h:ay Y draw r env (⟨f,.ptr l k i (o+off)⟩::rs) nx m K)(hg:GF rs g f:=by exact cD)(hx:bQ env rs x=⟨fx,.ptr l k i o⟩:=by exact rfl)(kx:f=true->fx=true:=by exact bp):ay Y draw (⟨.fa off x,g⟩::r) env rs nx m K:=
 bw rfl hg _ (λhf=>oC) (λhf=>me) (λha=>h)
def Ag {off i o:Nat}{es:List D}(h:ay Y draw r env (⟨f,.ref k es i (o+off)⟩::rs) nx m K)(hg:GF rs g f:=by exact cD)(hx:bQ env rs x=⟨fx,.ref k es i o⟩:=by exact rfl)(kx:f=true->fx=true:=by exact bp):ay Y draw (⟨.fa off x,g⟩::r) env rs nx m K:=
 bw rfl hg _ (λhf=>oC) (λhf=>me) (λha=>h)
def cK {q:α->D}{xs:List α}{i:Int}(j:Nat)(h:ay Y draw r env (⟨f,.ref k (xs.map q) j 0⟩::rs) nx m K)(hg:GF rs g f:=by exact cD)(hx:bQ env rs x=⟨fx,.sl k (xs.map q)⟩:=by exact rfl)(hy:bQ env rs y=⟨fy,.int kk i⟩:=by exact rfl)(kx:f=true->fx=true:=by exact bp)(ky:f=true->fy=true:=by exact bp)(hj:f=true->i=(j:Int):=by exact sS)(hb:f=true->j<xs.length:=by exact rR):ay Y draw (⟨.ia k x y,g⟩::r) env rs nx m K:=
 bw rfl hg _ (λhf=>by simp only[ax.eE,hx,hy,a8];exact⟨kx hf,ky hf,trivial,Kr,QI⟩) (λhf=>KD) (λha=>h)
def F0 {i:Int}(j:Nat)(h:ay Y draw r env (⟨f,.ptr l k (i0+j) 0⟩::rs) nx m K)(hg:GF rs g f:=by exact cD)(hx:bQ env rs x=⟨fx,.own l k i0 n⟩:=by exact rfl)(hy:bQ env rs y=⟨fy,.int kk i⟩:=by exact rfl)(kx:f=true->fx=true:=by exact bp)(ky:f=true->fy=true:=by exact bp)(hj:f=true->i=(j:Int):=by exact sS)(hb:f=true->j<n:=by exact rR):ay Y draw (⟨.ia k x y,g⟩::r) env rs nx m K:=
 bw rfl hg _ (λhf=>by simp only[ax.eE,hx,hy];exact⟨kx hf,ky hf,trivial,Kr,QI⟩) (λhf=>KD) (λha=>h)
def Pm {k2 o:Nat}{i:Int}(j:Nat)(h:ay Y draw r env (⟨f,.ptr l k2 i0 (o+j*k)⟩::rs) nx m K)(hg:GF rs g f:=by exact cD)(hx:bQ env rs x=⟨fx,.ptr l k2 i0 o⟩:=by exact rfl)(hy:bQ env rs y=⟨fy,.int kk i⟩:=by exact rfl)(kx:f=true->fx=true:=by exact bp)(ky:f=true->fy=true:=by exact bp)(hj:f=true->i=(j:Int):=by exact sS)(hb:f=true->j<n:=by exact rR):ay Y draw (⟨.iaP n k x y,g⟩::r) env rs nx m K:=
 bw rfl hg _ (λhf=>aa4) (λhf=>KD) (λha=>h)
def Ah {s:List UInt8}{i:Int}(j:Nat)(h:ay Y draw r env (⟨f,.int .u8 (at8 s j)⟩::rs) nx m K)(hg:GF rs g f:=by exact cD)(hx:bQ env rs x=⟨fx,.str s⟩:=by exact rfl)(hy:bQ env rs y=⟨fy,.int kk i⟩:=by exact rfl)(kx:f=true->fx=true:=by exact bp)(ky:f=true->fy=true:=by exact bp)(hj:f=true->i=(j:Int):=by exact sS)(hb:f=true->j<s.length:=by exact rR):ay Y draw (⟨.ixS x y,g⟩::r) env rs nx m K:=
 bw rfl hg _ (λhf=>aa4) (λhf=>KD) (λha=>h)
def r_ixA {ag:Bool}{cs:List D}{i:Int}(j:Nat)(v:D)(h:ay Y draw r env (⟨f,v⟩::rs) nx m K)(hg:GF rs g f:=by exact cD)(hx:bQ env rs x=⟨fx,.agg cs⟩:=by exact rfl)(hy:bQ env rs y=⟨fy,.int kk i⟩:=by exact rfl)(kx:f=true->fx=true:=by exact bp)(ky:f=true->fy=true:=by exact bp)(hj:f=true->i=(j:Int):=by exact sS)(hb:f=true->j<n:=by exact rR)(hl:cs.length=n*k:=by exact rfl)(h1:ag=false->k=1:=by intro h;first|exact rfl|cases h)(hv:f=true->cut cs (j*k) k ag=v):ay Y draw (⟨.ixA n k ag x y,g⟩::r) env rs nx m K:=
 bw rfl hg _ (λhf=>by simp only[ax.eE,hx,hy];exact⟨kx hf,ky hf,h1,Kr,QI,hl⟩) (λhf=>by simp only[ax.val,hx,hy];rw[<-hv hf,hj hf];rfl) (λha=>h)
def akB {q:α->D}{xs:List α}{i:Int}(h:ay Y draw r env (⟨f,.ref k (xs.map q) i.toNat 0⟩::rs) nx m K)(hg:GF rs g f:=by exact cD)(hx:bQ env rs x=⟨fx,.sl k (xs.map q)⟩:=by exact rfl)(hy:bQ env rs y=⟨fy,.int kk i⟩:=by exact rfl)(kx:f=true->fx=true:=by exact bp)(ky:f=true->fy=true:=by exact bp)(hb:f=true->0<=i/\i<(xs.length:Nat):=by exact II):ay Y draw (⟨.ia k x y,g⟩::r) env rs nx m K:=
 bw rfl hg _ (λhf=>by simp only[ax.eE,hx,hy,a8];exact⟨kx hf,ky hf,trivial,(hb hf).1,(hb hf).2⟩) (λhf=>by simp only[ax.val,hx,hy]<;>rfl) (λha=>h)
def akC {i:Int}(h:ay Y draw r env (⟨f,.ptr l k (i0+i.toNat) 0⟩::rs) nx m K)(hg:GF rs g f:=by exact cD)(hx:bQ env rs x=⟨fx,.own l k i0 n⟩:=by exact rfl)(hy:bQ env rs y=⟨fy,.int kk i⟩:=by exact rfl)(kx:f=true->fx=true:=by exact bp)(ky:f=true->fy=true:=by exact bp)(hb:f=true->0<=i/\i<(n:Nat):=by exact II):ay Y draw (⟨.ia k x y,g⟩::r) env rs nx m K:=
 bw rfl hg _ (λhf=>by simp only[ax.eE,hx,hy,a8];exact⟨kx hf,ky hf,trivial,(hb hf).1,(hb hf).2⟩) (λhf=>by simp only[ax.val,hx,hy]<;>rfl) (λha=>h)
def Zj {s:List UInt8}{i:Int}(h:ay Y draw r env (⟨f,.int .u8 (at8 s i.toNat)⟩::rs) nx m K)(hg:GF rs g f:=by exact cD)(hx:bQ env rs x=⟨fx,.str s⟩:=by exact rfl)(hy:bQ env rs y=⟨fy,.int kk i⟩:=by exact rfl)(kx:f=true->fx=true:=by exact bp)(ky:f=true->fy=true:=by exact bp)(hb:f=true->0<=i/\i<(s.length:Nat):=by exact II):ay Y draw (⟨.ixS x y,g⟩::r) env rs nx m K:=
 bw rfl hg _ (λhf=>by simp only[ax.eE,hx,hy,a8];exact⟨kx hf,ky hf,(hb hf).1,(hb hf).2⟩) (λhf=>by simp only[ax.val,hx,hy]<;>rfl) (λha=>h)
def Zu {s:List UInt8}(i:Nat)(h:ay Y draw r env (⟨f,.str (s.drop i)⟩::rs) nx m K)(hg:GF rs g f:=by exact cD)(hx:bQ env rs x=⟨fx,.str s⟩:=by exact rfl)(hy:bQ env rs y=⟨fy,.int k2 a⟩:=by exact rfl)(kx:f=true->fx=true:=by exact bp)(ky:f=true->fy=true:=by exact bp)(hi:f=true->a=(i:Int):=by exact sS)(hb:f=true->i<=s.length:=by exact rR):ay Y draw (⟨.slS x (some y) none,g⟩::r) env rs nx m K:=
 bw rfl hg _ (λhf=>by simp only[ax.eE,Ma,dO,hx,hy];have:=hb hf;have:=hi hf;refine⟨kx hf,ky hf,trivial, ?_⟩;simp only[nt,ee,ed,dw,Int.ofNat_eq_natCast];omega) (λhf=>by simp only[ax.val,dO,ee,hx,hy];rw[hi hf];simp) (λha=>h)
def Zp {q:α->D}{s:List α}(i:Nat)(h:ay Y draw r env (⟨f,.sl k ((s.drop i).map q)⟩::rs) nx m K)(hg:GF rs g f:=by exact cD)(hx:bQ env rs x=⟨fx,.sl k (s.map q)⟩:=by exact rfl)(hy:bQ env rs y=⟨fy,.int k2 a⟩:=by exact rfl)(kx:f=true->fx=true:=by exact bp)(ky:f=true->fy=true:=by exact bp)(hi:f=true->a=(i:Int):=by exact sS)(hb:f=true->i<=s.length:=by exact rR):ay Y draw (⟨.slA k x (some y) none,g⟩::r) env rs nx m K:=
 bw rfl hg _ (λhf=>by simp only[ax.eE,Ma,dO,hx,hy,a8];have:=hb hf;have:=hi hf;refine⟨kx hf,ky hf,trivial,trivial, ?_⟩;simp only[nt,ee,ed,dw,Int.ofNat_eq_natCast];omega) (λhf=>by simp only[ax.val,dO,ee,hx,hy];rw[hi hf];first|(simp only[List.take_length,Int.toNat_natCast,List.map_drop];done)|simp[List.map_drop,List.map_take]) (λha=>h)
def Mu (i:Nat)(h:ay Y draw r env (⟨f,.own l k (i0+i) (n-i)⟩::rs) nx m K)(hg:GF rs g f:=by exact cD)(hx:bQ env rs x=⟨fx,.own l k i0 n⟩:=by exact rfl)(hy:bQ env rs y=⟨fy,.int k2 a⟩:=by exact rfl)(kx:f=true->fx=true:=by exact bp)(ky:f=true->fy=true:=by exact bp)(hi:f=true->a=(i:Int):=by exact sS)(hb:f=true->i<=n:=by exact rR):ay Y draw (⟨.slA k x (some y) none,g⟩::r) env rs nx m K:=
 bw rfl hg _ (λhf=>by simp only[ax.eE,Ma,dO,hx,hy];have:=hb hf;have:=hi hf;refine⟨kx hf,ky hf,trivial,trivial, ?_⟩;simp only[nt,ee,ed,dw,Int.ofNat_eq_natCast];omega) (λhf=>by simp only[ax.val,dO,ee,hx,hy];rw[hi hf];simp) (λha=>h)
def Zs {fz:Bool}{s:List UInt8}(j:Nat)(h:ay Y draw r env (⟨f,.str (s.take j)⟩::rs) nx m K)(hg:GF rs g f:=by exact cD)(hx:bQ env rs x=⟨fx,.str s⟩:=by exact rfl)(hz:bQ env rs z=⟨fz,.int k3 c⟩:=by exact rfl)(kx:f=true->fx=true:=by exact bp)(kz:f=true->fz=true:=by exact bp)(hj:f=true->c=(j:Int):=by exact sS)(hb:f=true->j<=s.length:=by exact rR):ay Y draw (⟨.slS x none (some z),g⟩::r) env rs nx m K:=
 bw rfl hg _ (λhf=>by simp only[ax.eE,Ma,dO,hx,hz];have:=hb hf;have:=hj hf;refine⟨kx hf,trivial,kz hf, ?_⟩;simp only[nt,ee,ed,dw,Int.ofNat_eq_natCast];omega) (λhf=>by simp only[ax.val,dO,ee,hx,hz];rw[hj hf];simp) (λha=>h)
def Zn {fz:Bool}{q:α->D}{s:List α}(j:Nat)(h:ay Y draw r env (⟨f,.sl k ((s.take j).map q)⟩::rs) nx m K)(hg:GF rs g f:=by exact cD)(hx:bQ env rs x=⟨fx,.sl k (s.map q)⟩:=by exact rfl)(hz:bQ env rs z=⟨fz,.int k3 c⟩:=by exact rfl)(kx:f=true->fx=true:=by exact bp)(kz:f=true->fz=true:=by exact bp)(hj:f=true->c=(j:Int):=by exact sS)(hb:f=true->j<=s.length:=by exact rR):ay Y draw (⟨.slA k x none (some z),g⟩::r) env rs nx m K:=
 bw rfl hg _ (λhf=>by simp only[ax.eE,Ma,dO,hx,hz,a8];have:=hb hf;have:=hj hf;refine⟨kx hf,trivial,kz hf,trivial, ?_⟩;simp only[nt,ee,ed,dw,Int.ofNat_eq_natCast];omega) (λhf=>by simp only[ax.val,dO,ee,hx,hz];rw[hj hf];first|(simp only[List.take_length,Int.toNat_natCast,List.map_drop];done)|simp[List.map_drop,List.map_take]) (λha=>h)
def Zq {fz:Bool}(j:Nat)(h:ay Y draw r env (⟨f,.own l k i0 j⟩::rs) nx m K)(hg:GF rs g f:=by exact cD)(hx:bQ env rs x=⟨fx,.own l k i0 n⟩:=by exact rfl)(hz:bQ env rs z=⟨fz,.int k3 c⟩:=by exact rfl)(kx:f=true->fx=true:=by exact bp)(kz:f=true->fz=true:=by exact bp)(hj:f=true->c=(j:Int):=by exact sS)(hb:f=true->j<=n:=by exact rR):ay Y draw (⟨.slA k x none (some z),g⟩::r) env rs nx m K:=
 bw rfl hg _ (λhf=>by simp only[ax.eE,Ma,dO,hx,hz];have:=hb hf;have:=hj hf;refine⟨kx hf,trivial,kz hf,trivial, ?_⟩;simp only[nt,ee,ed,dw,Int.ofNat_eq_natCast];omega) (λhf=>by simp only[ax.val,dO,ee,hx,hz];rw[hj hf];simp) (λha=>h)
def Zt {fz:Bool}{s:List UInt8}(i:Nat)(j:Nat)(h:ay Y draw r env (⟨f,.str ((s.take j).drop i)⟩::rs) nx m K)(hg:GF rs g f:=by exact cD)(hx:bQ env rs x=⟨fx,.str s⟩:=by exact rfl)(hy:bQ env rs y=⟨fy,.int k2 a⟩:=by exact rfl)(hz:bQ env rs z=⟨fz,.int k3 c⟩:=by exact rfl)(kx:f=true->fx=true:=by exact bp)(ky:f=true->fy=true:=by exact bp)(kz:f=true->fz=true:=by exact bp)(hi:f=true->a=(i:Int):=by exact sS)(hj:f=true->c=(j:Int):=by exact sS)(hb:f=true->i<=j/\j<=s.length:=by exact II):ay Y draw (⟨.slS x (some y) (some z),g⟩::r) env rs nx m K:=
 bw rfl hg _ (λhf=>by simp only[ax.eE,Ma,dO,hx,hy,hz];have:=hb hf;have:=hi hf;have:=hj hf;refine⟨kx hf,ky hf,kz hf, ?_⟩;simp only[nt,ee,ed,dw,Int.ofNat_eq_natCast];omega) (λhf=>by simp only[ax.val,dO,ee,hx,hy,hz];rw[hi hf,hj hf];simp) (λha=>h)
def Zo {fz:Bool}{q:α->D}{s:List α}(i:Nat)(j:Nat)(h:ay Y draw r env (⟨f,.sl k (((s.take j).drop i).map q)⟩::rs) nx m K)(hg:GF rs g f:=by exact cD)(hx:bQ env rs x=⟨fx,.sl k (s.map q)⟩:=by exact rfl)(hy:bQ env rs y=⟨fy,.int k2 a⟩:=by exact rfl)(hz:bQ env rs z=⟨fz,.int k3 c⟩:=by exact rfl)(kx:f=true->fx=true:=by exact bp)(ky:f=true->fy=true:=by exact bp)(kz:f=true->fz=true:=by exact bp)(hi:f=true->a=(i:Int):=by exact sS)(hj:f=true->c=(j:Int):=by exact sS)(hb:f=true->i<=j/\j<=s.length:=by exact II):ay Y draw (⟨.slA k x (some y) (some z),g⟩::r) env rs nx m K:=
 bw rfl hg _ (λhf=>by simp only[ax.eE,Ma,dO,hx,hy,hz,a8];have:=hb hf;have:=hi hf;have:=hj hf;refine⟨kx hf,ky hf,kz hf,trivial, ?_⟩;simp only[nt,ee,ed,dw,Int.ofNat_eq_natCast];omega) (λhf=>by simp only[ax.val,dO,ee,hx,hy,hz];rw[hi hf,hj hf];first|(simp only[List.take_length,Int.toNat_natCast,List.map_drop];done)|simp[List.map_drop,List.map_take]) (λha=>h)
def Zr {fz:Bool}(i:Nat)(j:Nat)(h:ay Y draw r env (⟨f,.own l k (i0+i) (j-i)⟩::rs) nx m K)(hg:GF rs g f:=by exact cD)(hx:bQ env rs x=⟨fx,.own l k i0 n⟩:=by exact rfl)(hy:bQ env rs y=⟨fy,.int k2 a⟩:=by exact rfl)(hz:bQ env rs z=⟨fz,.int k3 c⟩:=by exact rfl)(kx:f=true->fx=true:=by exact bp)(ky:f=true->fy=true:=by exact bp)(kz:f=true->fz=true:=by exact bp)(hi:f=true->a=(i:Int):=by exact sS)(hj:f=true->c=(j:Int):=by exact sS)(hb:f=true->i<=j/\j<=n:=by exact II):ay Y draw (⟨.slA k x (some y) (some z),g⟩::r) env rs nx m K:=
 bw rfl hg _ (λhf=>by simp only[ax.eE,Ma,dO,hx,hy,hz];have:=hb hf;have:=hi hf;have:=hj hf;refine⟨kx hf,ky hf,kz hf,trivial, ?_⟩;simp only[nt,ee,ed,dw,Int.ofNat_eq_natCast];omega) (λhf=>by simp only[ax.val,dO,ee,hx,hy,hz];rw[hi hf,hj hf];simp) (λha=>h)
def kV {i:Nat}{ds:List D}(v:D)(h:ay Y draw r env (⟨f,v⟩::rs) nx m K)(hg:GF rs g f:=by exact cD)(hx:bQ env rs x=⟨fx,.tup ds⟩:=by exact rfl)(kx:f=true->fx=true:=by exact bp)(hv:f=true->ds.getD i .any=v:=by exact λ_=>rfl)(hb:f=true->i<ds.length:=by intro _;simp only[bD,ca];omega):ay Y draw (⟨.ext x i,g⟩::r) env rs nx m K:=
 bw rfl hg _ (λhf=>by simp only[ax.eE,hx];exact⟨kx hf,hb hf⟩) (λhf=>by simp only[ax.val,hx];exact hv hf) (λha=>h)
def bR {z:List D}(v:List D)(h:ay Y draw r env (⟨f,.agg v⟩::rs) nx m K)(hg:GF rs g f:=by exact cD)(hv:f=true->Cf (bQ env rs) z ps=v:=by exact λ_=>rfl)(ho:f=true->zQ (bQ env rs) z.length ps:=by exact uJ):ay Y draw (⟨.build z ps,g⟩::r) env rs nx m K:=
 bw rfl hg _ (λhf=>ho hf) (λhf=>by simp only[ax.val];rw[hv hf]) (λ_=>h)
def a7 {z:List D}(d:D)(h:ay Y draw r env (⟨f,d⟩::rs) nx m K)(hg:GF rs g f:=by exact cD)(hv:f=true->D.agg (Cf (bQ env rs) z ps)=d:=by exact λ_=>rfl)(ho:f=true->zQ (bQ env rs) z.length ps:=by exact uJ):ay Y draw (⟨.build z ps,g⟩::r) env rs nx m K:=
 bw rfl hg _ (λhf=>ho hf) (λhf=>by simp only[ax.val];exact hv hf) (λ_=>h)
def ajp {e:D}{o:Nat}{ag:Bool}(h:e.isAgg=ag):kP e n n o ag=e:=by simp[kP,h]
def kW {ag:Bool}{d:D}(h:ay Y draw r env (⟨f,d⟩::rs) nx m K)(hg:GF rs g f:=by exact cD)(hx:bQ env rs x=⟨fx,.ptr l n 0 0⟩:=by exact rfl)(kx:f=true->fx=true:=by exact bp)(hl:f=true->look m l=some (.buf n [d]):=by exact λ_=>rfl)(ha:f=true->d.isAgg=ag:=by exact λ_=>rfl):ay Y draw (⟨.ld n ag x,g⟩::r) env rs nx m K:=
 fX rfl hg _ (λhf=>by simp only[ax.eE,hx,KJ,dT,hl hf];exact⟨kx hf,⟨trivial,aC⟩,ae⟩) (λhf=>by simp only[ax.val,hx,KK,aH,hl hf,iW];exact ajp (ha hf)) m rfl (λha=>h)
def oR {o:Nat}{ag:Bool}{d:D}(v:D)(h:ay Y draw r env (⟨f,v⟩::rs) nx m K)(hg:GF rs g f:=by exact cD)(hx:bQ env rs x=⟨fx,.ptr l k 0 o⟩:=by exact rfl)(kx:f=true->fx=true:=by exact bp)(hl:f=true->look m l=some (.buf k [d]):=by exact λ_=>rfl)(hv:f=true->kP d k n o ag=v:=by exact λ_=>rfl)(ho:o+n<=k:=by omega):ay Y draw (⟨.ld n ag x,g⟩::r) env rs nx m K:=
 fX rfl hg _ (λhf=>by simp only[ax.eE,hx,KJ,dT,hl hf];exact⟨kx hf,⟨trivial,aC⟩,ho⟩) (λhf=>QL) m rfl (λha=>h)
def r_ldE {i o:Nat}{ag:Bool}{es:List D}(v:D)(h:ay Y draw r env (⟨f,v⟩::rs) nx m K)(hg:GF rs g f:=by exact cD)(hx:bQ env rs x=⟨fx,.ptr l k i o⟩:=by exact rfl)(kx:f=true->fx=true:=by exact bp)(hl:f=true->look m l=some (.buf k es):=by exact λ_=>rfl)(hi:f=true->i<es.length)(hv:f=true->kP (es.getD i .any) k n o ag=v)(ho:o+n<=k:=by omega):ay Y draw (⟨.ld n ag x,g⟩::r) env rs nx m K:=
 fX rfl hg _ (λhf=>by simp only[ax.eE,hx,KJ,dT,hl hf];exact⟨kx hf,⟨trivial,by have:=hi hf;omega⟩,ho⟩) (λhf=>by simp only[ax.val,hx,KK,aH,hl hf];exact hv hf) m rfl (λha=>h)
def xQ [Inhabited α]{i o:Nat}{ag:Bool}{q:α->D}{xs:List α}(v:D)(h:ay Y draw r env (⟨f,v⟩::rs) nx m K)(hg:GF rs g f:=by exact cD)(hx:bQ env rs x=⟨fx,.ptr l k i o⟩:=by exact rfl)(kx:f=true->fx=true:=by exact bp)(hl:f=true->look m l=some (.buf k (xs.map q)):=by exact λ_=>rfl)(hi:f=true->i<xs.length:=by exact rR)(hv:f=true->kP (q xs[i]!) k n o ag=v:=by exact λ_=>rfl)(ho:o+n<=k:=by omega):ay Y draw (⟨.ld n ag x,g⟩::r) env rs nx m K:=
 fX rfl hg _ (λhf=>by simp only[ax.eE,hx,KJ,dT,hl hf,a8];exact⟨kx hf,⟨trivial,by have:=hi hf;omega⟩,ho⟩) (λhf=>by simp only[ax.val,hx,KK,aH,hl hf];rw[getD_map (hi hf)];exact hv hf) m rfl (λha=>h)
def dh [Inhabited α]{i o:Nat}{ag:Bool}{q:α->D}{xs:List α}(v:D)(h:ay Y draw r env (⟨f,v⟩::rs) nx m K)(hg:GF rs g f:=by exact cD)(hx:bQ env rs x=⟨fx,.ref k (xs.map q) i o⟩:=by exact rfl)(kx:f=true->fx=true:=by exact bp)(hi:f=true->i<xs.length:=by exact rR)(hv:f=true->kP (q xs[i]!) k n o ag=v:=by exact λ_=>rfl)(ho:o+n<=k:=by omega):ay Y draw (⟨.ld n ag x,g⟩::r) env rs nx m K:=
 fX rfl hg _ (λhf=>abg) (λhf=>abc) m rfl (λha=>h)
def r_ldQ {i o:Nat}{ag:Bool}{es:List D}(v:D)(h:ay Y draw r env (⟨f,v⟩::rs) nx m K)(hg:GF rs g f:=by exact cD)(hx:bQ env rs x=⟨fx,.ref k es i o⟩:=by exact rfl)(kx:f=true->fx=true:=by exact bp)(hi:f=true->i<es.length:=by intro _;simp only[bD,ca];omega)(hv:f=true->kP (es.getD i .any) k n o ag=v:=by exact λ_=>rfl)(ho:o+n<=k:=by omega):ay Y draw (⟨.ld n ag x,g⟩::r) env rs nx m K:=
 fX rfl hg _ (λhf=>QG) (λhf=>Kn) m rfl (λha=>h)
def Zk {i o:Nat}{ag:Bool}{es:List D}(v:D)(h:ay Y draw r env (⟨f,v⟩::rs) nx m K)(hg:GF rs g f:=by exact cD)(hx:bQ env rs x=⟨fx,.ref k es i o⟩:=by exact rfl)(kx:f=true->fx=true:=by exact bp)(hi:f=true->i<es.length:=by intro _;simp only[bD,ca];omega)(hv:f=true->kP (es.getD i .any) k n o ag=v:=by exact λ_=>rfl)(ho:o+n<=k:=by omega):ay Y draw (⟨.ldI n ag x,g⟩::r) env rs nx m K:=
 bw rfl hg _ (λhf=>QG) (λhf=>Kn) (λha=>h)
def xP {d:D}(h:ay Y draw r env (⟨f,.ptr L k 0 0⟩::rs) nx m2 K)(hg:GF rs g f:=by exact cD)(hx:bQ env rs x=⟨fx,d⟩:=by exact rfl)(kx:f=true->fx=true:=by exact bp)(hc:d.cells.length=k:=by exact rfl)(hL:nx+rs.length=L:=by exact zu)(hm:cT m L (.buf k [d])=m2:=by simp only[cT,c7,Nat.reduceEqDiff,bh,aX,Nat.reduceAdd,reduceCtorEq];exact rfl):ay Y draw (⟨.box k x,g⟩::r) env rs nx m K:=
 fX rfl hg _ (λhf=>by simp only[ax.eE,hx];exact⟨kx hf,hc⟩) (λhf=>by simp only[ax.val,hx,hL]) _ (by simp only[ax.bN,hx,hL];exact hm) (λ_=>h)
def r_mkB (h:ay Y draw r env (⟨f,.ptr L 2 0 0⟩::rs) nx m2 K)(hg:GF rs g f:=by exact cD)(hL:nx+rs.length=L:=by exact zu)(hm:cT m L (.bld none 0 false)=m2:=by simp only[cT,c7,Nat.reduceEqDiff,bh,aX,Nat.reduceAdd,reduceCtorEq];exact rfl):ay Y draw (⟨.mkB,g⟩::r) env rs nx m K:=
 fX rfl hg _ (λ_=>trivial) (λhf=>by simp only[ax.val,hL]) _ (by simp only[ax.bN,hL];exact hm) (λ_=>h)
def r_s2b {s:List UInt8}(h:ay Y draw r env (⟨f,.own L 1 0 s.length⟩::rs) nx m2 K)(hg:GF rs g f:=by exact cD)(hx:bQ env rs x=⟨fx,.str s⟩:=by exact rfl)(kx:f=true->fx=true:=by exact bp)(hL:nx+rs.length=L:=by exact zu)(hm:cT m L (.buf 1 (s.map λb=>.int .u8 b.toNat))=m2:=by simp only[cT,c7,Nat.reduceEqDiff,bh,aX,Nat.reduceAdd,reduceCtorEq];exact rfl):ay Y draw (⟨.s2b x,g⟩::r) env rs nx m K:=
 fX rfl hg _ (λhf=>by simp only[ax.eE,hx];exact⟨kx hf,trivial⟩) (λhf=>by simp only[ax.val,hx,hL]) _ (by simp only[ax.bN,hx,hL];exact hm) (λ_=>h)
def r_rng {s:List UInt8}(h:ay Y draw r env (⟨f,.it L⟩::rs) nx m2 K)(hg:GF rs g f:=by exact cD)(hx:bQ env rs x=⟨fx,.str s⟩:=by exact rfl)(kx:f=true->fx=true:=by exact bp)(hL:nx+rs.length=L:=by exact zu)(hm:cT m L (.iter s 0)=m2:=by simp only[cT,c7,Nat.reduceEqDiff,bh,aX,Nat.reduceAdd,reduceCtorEq];exact rfl):ay Y draw (⟨.rng x,g⟩::r) env rs nx m K:=
 fX rfl hg _ (λhf=>by simp only[ax.eE,hx];exact⟨kx hf,trivial⟩) (λhf=>by simp only[ax.val,hx,hL]) _ (by simp only[ax.bN,hx,hL];exact hm) (λ_=>h)
def bg {z:D}{ps:List (Nat×Src)}(es:List D)(h:ay Y draw r env (⟨f,.own L k 0 n⟩::rs) nx m2 K)(hg:GF rs g f:=by exact cD)(he:mh (bQ env rs) (List.replicate n z) ps=es:=by exact rfl)(ho:f=true->qA (bQ env rs) k n ps:=by exact uJ)(hz:z.cells.length=k:=by exact rfl)(hL:nx+rs.length=L:=by exact zu)(hm:cT m L (.buf k es)=m2:=by simp only[cT,c7,Nat.reduceEqDiff,bh,aX,Nat.reduceAdd,reduceCtorEq];exact rfl):ay Y draw (⟨.bsl k z n ps,g⟩::r) env rs nx m K:=
 fX rfl hg _ (λhf=>⟨hz,ho hf⟩) (λhf=>by simp only[ax.val,hL]) _ (by simp only[ax.bN,he,hL];exact hm) (λ_=>h)
def afO {z:D}{k1:IntKind}(n:Nat)(h:ay Y draw r env (⟨true,.own L k 0 n⟩::rs) nx m2 K)(hx:bQ env rs x=⟨true,.int k1 a⟩:=by exact rfl)(hy:bQ env rs y=⟨true,.int k2 c⟩:=by exact rfl)(hn:a=(n:Int):=by first|exact rfl|omega)(hc:a<=c/\c<=1073741824:=by constructor<;>omega)(hz:z.cells.length=k:=by exact rfl)(hL:nx+rs.length=L:=by exact zu)(hm:cT m L (.buf k (List.replicate n z))=m2:=by simp only[cT,c7,Nat.reduceEqDiff,bh,aX,Nat.reduceAdd,reduceCtorEq];exact rfl):ay Y draw (⟨.mks k z x y,none⟩::r) env rs nx m K:=
 pg rfl _ (by simp only[ax.eE,hx,hy];exact⟨trivial,trivial,hz,ae,hc.1,hc.2⟩) (by simp only[ax.val,hx,hL,D.nat,hn];rfl) _ (by simp only[ax.bN,hx,hL,D.nat,hn];exact hm) (λ_=>h)
def cy {o:Nat}{d v:D}(e:D)(h:ay Y draw r env (⟨true,.any⟩::rs) nx m2 K)(hx:bQ env rs x=⟨true,.ptr l k 0 o⟩:=by exact rfl)(hy:bQ env rs y=⟨true,v⟩:=by exact rfl)(hl:look m l=some (.buf k [d]):=by exact rfl)(hc:v.cells.length=n:=by exact rfl)(he:rO d k n o v=e:=by exact rfl)(ho:o+n<=k:=by omega)(hm:cT m l (.buf k [e])=m2:=by simp only[cT,c7,Nat.reduceEqDiff,bh,aX,Nat.reduceAdd,reduceCtorEq];exact rfl):ay Y draw (⟨.st n x y,none⟩::r) env rs nx m K:=
 pg rfl _ (by simp only[ax.eE,hx,hy,dT,hl];exact⟨trivial,trivial,hc,⟨trivial,aC⟩,ho⟩) rfl _ (by simp only[ax.bN,hx,hy,aH,hl,iW,List.set_cons_zero,he];exact hm) (λ_=>h)
def afQ {o:Nat}{qs:List Src}{d v:D}(e:D)(h:ay Y draw r env (⟨true,.any⟩::rs) nx m2 K)(hx:bQ env rs x=⟨true,.ptr l k 0 o⟩:=by exact rfl)(hy:bQ env rs y=⟨true,v⟩:=by exact rfl)(hl:look m l=some (.buf k [d]):=by exact rfl)(hc:v.cells.length=n:=by exact rfl)(he:rO d k n o v=e:=by exact rfl)(ho:o+n<=k:=by omega)(hw:k<=4:=by omega)(hm:cT m l (.buf k [e])=m2:=by simp only[cT,c7,Nat.reduceEqDiff,bh,aX,Nat.reduceAdd,reduceCtorEq];exact rfl):ay Y draw (⟨.stU n x y qs,none⟩::r) env rs nx m K:=
 pg rfl _ (by simp only[ax.eE,hx,hy,dT,hl];exact⟨trivial,trivial,hc,⟨trivial,aC⟩,ho,.inl hw⟩) rfl _ (by simp only[ax.bN,hx,hy,aH,hl,iW,List.set_cons_zero,he];exact hm) (λ_=>h)
def pZ {i o:Nat}{v:D}{es:List D}(es2:List D)(h:ay Y draw r env (⟨true,.any⟩::rs) nx m2 K)(hx:bQ env rs x=⟨true,.ptr l k i o⟩:=by exact rfl)(hy:bQ env rs y=⟨true,v⟩:=by exact rfl)(hl:look m l=some (.buf k es):=by exact rfl)(hi:i<es.length)(hc:v.cells.length=n:=by exact rfl)(he:es.set i (rO (es.getD i .any) k n o v)=es2)(ho:o+n<=k:=by omega)(hm:cT m l (.buf k es2)=m2:=by simp only[cT,c7,Nat.reduceEqDiff,bh,aX,Nat.reduceAdd,reduceCtorEq];exact rfl):ay Y draw (⟨.st n x y,none⟩::r) env rs nx m K:=
 pg rfl _ (by simp only[ax.eE,hx,hy,dT,hl];exact⟨trivial,trivial,hc,⟨trivial,ae⟩,ho⟩) rfl _ (by simp only[ax.bN,hx,hy,aH,hl,he];exact hm) (λ_=>h)
def mW (m:List (Nat×bj))(k:Nat)(d:D)(ys:List D):Prop:=Ca m k d/\qn m d=ys
def mW.sl {es:List D}:mW m k (.sl k es) es:=⟨rfl,rfl⟩
def mW.aL:mW m k .aL []:=⟨trivial,rfl⟩
def mW.own {i:Nat}{es:List D}(hl:look m l=some (.buf k es))(hb:i+n<=es.length):mW m k (.own l k i n) ((es.drop i).take n):=⟨⟨rfl,by simp only[dT,hl];exact⟨trivial,hb⟩⟩,by simp only[qn,aH,hl]⟩
def mW.all {es:List D}(hl:look m l=some (.buf k es))(hb:n=es.length):mW m k (.own l k 0 n) es:=by
 have:=mW.own (i:=0) (n:=n) hl ae;simpa[hb]using this
def mW.str {s:List UInt8}:mW m 1 (.str s) (s.map λb=>.int .u8 b.toNat):=⟨rfl,rfl⟩
def qO {d:D}{ys:List D}(h:ay Y draw r env (⟨true,.own L k 0 n⟩::rs) nx m2 K)(hx:bQ env rs x=⟨true,.aL⟩:=by exact rfl)(hy:bQ env rs y=⟨true,d⟩:=by exact rfl)(he:mW m k d ys)(hn:ys.length=n)(hb:n<=1073741824:=by omega)(hL:nx+rs.length=L:=by exact zu)(hm:cT m L (.buf k ys)=m2:=by simp only[cT,c7,Nat.reduceEqDiff,bh,aX,Nat.reduceAdd,reduceCtorEq];exact rfl):ay Y draw (⟨.app k x y,none⟩::r) env rs nx m K:=
 pg rfl _ (by simp only[ax.eE,hx,hy,he.2,hn];exact⟨trivial,trivial,he.1,hb⟩) (by simp only[ax.val,hx,hy,he.2,hn,hL]) _ (by simp only[ax.bN,hx,hy,he.2,hL];exact hm) (λ_=>h)
def BG {d:D}{ys:List D}(h:ay Y draw r env (⟨f,.own L k 0 n⟩::rs) nx m2 K)(hg:GF rs g f:=by exact cD)(hy:bQ env rs y=⟨fy,d⟩:=by exact rfl)(ky:f=true->fy=true:=by exact bp)(he:mW m k d ys)(hn:ys.length=n)(hb:n<=1073741824:=by omega)(hL:nx+rs.length=L:=by exact zu)(hm:cT m L (.buf k ys)=m2:=by simp only[cT,c7,Nat.reduceEqDiff,bh,aX,Nat.reduceAdd,reduceCtorEq];exact rfl):ay Y draw (⟨.appN k y,g⟩::r) env rs nx m K:=
 fX rfl hg _ (λhf=>by simp only[ax.eE,hy,he.2,hn];exact⟨ky hf,he.1,hb⟩) (λhf=>by simp only[ax.val,hy,he.2,hn,hL]) _ (by simp only[ax.bN,hy,he.2,hL];exact hm) (λ_=>h)
def xO {i a:Nat}{d:D}{xs ys:List D}(zs:List D)(h:ay Y draw r env (⟨true,.own L k 0 n⟩::rs) nx m2 K)(hx:bQ env rs x=⟨true,.own l k i a⟩:=by exact rfl)(hy:bQ env rs y=⟨true,d⟩:=by exact rfl)(hl:look m l=some (.buf k xs):=by exact rfl)(ha:i+a<=xs.length)(he:mW m k d ys)(hz:(xs.drop i).take a++ys=zs)(hn:a+ys.length=n)(hb:n<=1073741824:=by omega)(hL:nx+rs.length=L:=by exact zu)(hm:cT (c7 m l) L (.buf k zs)=m2:=by simp only[cT,c7,Nat.reduceEqDiff,bh,aX,Nat.reduceAdd,reduceCtorEq];exact rfl):ay Y draw (⟨.app k x y,none⟩::r) env rs nx m K:=
 pg rfl _ (by simp only[ax.eE,hx,hy,he.2,dT,hl,hn];exact⟨trivial,trivial,he.1,trivial,⟨trivial,ha⟩,hb⟩) (by simp only[ax.val,hx,hy,he.2,hn,hL]) _ (by simp only[ax.bN,hx,hy,he.2,aH,hl,hz,hL];exact hm) (λ_=>h)
def cH {q:α->D}{xs:List α}{e:α}{ly:Nat}(h:ay Y draw r env (⟨true,.own L k 0 (xs++[e]).length⟩::rs) nx m2 K)(hx:bQ env rs x=⟨true,.own l k 0 xs.length⟩:=by exact rfl)(hy:bQ env rs y=⟨true,.own ly k 0 1⟩:=by exact rfl)(hl:look m l=some (.buf k (xs.map q)):=by exact rfl)(he:look m ly=some (.buf k [q e]):=by exact rfl)(hb:xs.length+1<=1073741824:=by omega)(hL:nx+rs.length=L:=by exact zu)(hm:cT (c7 m l) L (.buf k ((xs++[e]).map q))=m2:=by simp only[cT,c7,Nat.reduceEqDiff,bh,aX,Nat.reduceAdd,reduceCtorEq];exact rfl):ay Y draw (⟨.app k x y,none⟩::r) env rs nx m K:=
 xO (zs:=(xs++[e]).map q) (hx:=hx) (hy:=hy) (hl:=hl) (ha:=aC) (he:=mW.all (es:=[q e]) he rfl) (hz:=by rw[cY,gU aC];simp) (hn:=aC) (hb:=fh) (hL:=hL) (hm:=hm) (h:=h)
def pd {q:α->D}{xs ys:List α}{d:D}(h:ay Y draw r env (⟨true,.own L k 0 (xs++ys).length⟩::rs) nx m2 K)(hx:bQ env rs x=⟨true,.own l k 0 xs.length⟩:=by exact rfl)(hy:bQ env rs y=⟨true,d⟩:=by exact rfl)(hl:look m l=some (.buf k (xs.map q)):=by exact rfl)(he:mW m k d (ys.map q))(hb:xs.length+ys.length<=1073741824:=by omega)(hL:nx+rs.length=L:=by exact zu)(hm:cT (c7 m l) L (.buf k ((xs++ys).map q))=m2:=by simp only[cT,c7,Nat.reduceEqDiff,bh,aX,Nat.reduceAdd,reduceCtorEq];exact rfl):ay Y draw (⟨.app k x y,none⟩::r) env rs nx m K:=
 xO (zs:=(xs++ys).map q) (hx:=hx) (hy:=hy) (hl:=hl) (ha:=aC) (he:=he) (hz:=by rw[cY,gU aC];simp) (hn:=aC) (hb:=fh) (hL:=hL) (hm:=hm) (h:=h)
def Zd {d:D}{ys:List D}(s:List UInt8)(h:ay Y draw r env (⟨f,.str s⟩::rs) nx m K)(hg:GF rs g f:=by exact cD)(hx:bQ env rs x=⟨fx,d⟩:=by exact rfl)(kx:f=true->fx=true:=by exact bp)(he:f=true->mW m 1 d ys)(hs:f=true->ys=s.map λb=>.int .u8 b.toNat)(hd:d.ajf=false:=by exact rfl):ay Y draw (⟨.b2s x,g⟩::r) env rs nx m K:=
 fX rfl hg _ (λhf=>by
  simp only[ax.eE,hx,(he hf).2,hs hf];refine⟨kx hf,(by cases d<;>first|trivial|(cases hd)),(he hf).1,λe hm=>?_⟩;obtain⟨b,_,rfl⟩:=bY.1 hm;have:=b.toNat_lt;exact⟨rfl,ae,ae⟩) (λhf=>by simp only[ax.val,hx,(he hf).2,hs hf];rw[ab7]) m rfl (λ_=>h)
def HY {pos:Nat}{s:List UInt8}(c w:Nat)(h:ay Y draw r env (⟨true,.tup [.bool true,.int .i64 pos,.int .i32 c]⟩::rs) nx m2 K)(hx:bQ env rs x=⟨true,.it l⟩:=by exact rfl)(hl:look m l=some (.iter s pos):=by exact rfl)(hp:pos<s.length)(hc:yI s pos=(c,w))(hm:cT m l (.iter s (pos+w))=m2:=by simp only[cT,c7,Nat.reduceEqDiff,bh,aX,Nat.reduceAdd,reduceCtorEq];exact rfl):ay Y draw (⟨.aS x,none⟩::r) env rs nx m K:=
 pg rfl _ (by simp only[ax.eE,hx,hl];exact⟨trivial,trivial⟩) (by simp only[ax.val,hx,hl,hc,hp,decide_true,cond_true]) _ (by simp only[ax.bN,hx,hl,hc,hp,decide_true,cond_true];exact hm) (λ_=>h)
def HX {pos:Nat}{s:List UInt8}(h:ay Y draw r env (⟨true,.tup [.bool false]⟩::rs) nx m K)(hx:bQ env rs x=⟨true,.it l⟩:=by exact rfl)(hl:look m l=some (.iter s pos):=by exact rfl)(hp:¬pos<s.length):ay Y draw (⟨.aS x,none⟩::r) env rs nx m K:=
 pg rfl _ (by simp only[ax.eE,hx,hl];exact⟨trivial,trivial⟩) (by simp only[ax.val,hx,hl,hp,decide_false,cond_false]) _ (by simp only[ax.bN,hx,hl,hp,decide_false,cond_false]) (λ_=>h)
def aF {aE5:List D}{v:D}(h:ay Y draw r env (⟨f,v⟩::rs) nx m K)(hg:GF rs g f:=by exact cD)(hc:Y.pre n aE5/\Y.val n aE5=v)(ha:f=true->jm m sh (iS (bQ env rs) args)=aE5:=by exact λ_=>rfl)(ho:f=true->BB (bQ env rs) args:=by exact uJ)(hp:f=true->jb m sh (iS (bQ env rs) args):=by exact uJ)(hk:f=true->qv (iS (bQ env rs) args) v=true:=by exact λ_=>rfl):ay Y draw (⟨.call n args sh,g⟩::r) env rs nx m K:=
 fX rfl hg _ (λhf=>by simp only[ax.eE,(dz _ _ _).1,ha hf,hc.2];exact⟨ho hf,(dz _ _ _).2.2 (hp hf),hc.1,hk hf⟩) (λhf=>by simp only[ax.val,(dz _ _ _).1,ha hf,hc.2]) m rfl (λ_=>h)
def cv {aE5:List D}{v:D}(h:ay Y draw r env (⟨f,v⟩::rs) nx m K)(hg:GF rs g f:=by exact cD)(hc:f=true->Y.pre n aE5/\Y.val n aE5=v)(ha:f=true->jm m sh (iS (bQ env rs) args)=aE5:=by exact λ_=>rfl)(ho:f=true->BB (bQ env rs) args:=by exact uJ)(hp:f=true->jb m sh (iS (bQ env rs) args):=by exact uJ)(hk:f=true->qv (iS (bQ env rs) args) v=true:=by exact λ_=>rfl):ay Y draw (⟨.call n args sh,g⟩::r) env rs nx m K:=
 fX rfl hg _ (λhf=>by simp only[ax.eE,(dz _ _ _).1,ha hf,(hc hf).2];exact⟨ho hf,(dz _ _ _).2.2 (hp hf),(hc hf).1,hk hf⟩) (λhf=>by simp only[ax.val,(dz _ _ _).1,ha hf,(hc hf).2]) m rfl (λ_=>h)
def BH {caps:List D}{aE5:List D}{v:D}(h:ay Y draw r env (⟨f,v⟩::rs) nx m K)(hg:GF rs g f:=by exact cD)(hx:bQ env rs x=⟨fx,.fn n caps⟩:=by exact rfl)(kx:f=true->fx=true:=by exact bp)(hb:n<1000000:=by decide)(hc:f=true->Y.pre n aE5/\Y.val n aE5=v)(ha:f=true->jm m sh (iS (bQ env rs) args++caps)=aE5:=by exact λ_=>rfl)(ho:f=true->BB (bQ env rs) args:=by exact uJ)(hp:f=true->jb m sh (iS (bQ env rs) args++caps):=by exact uJ)(hk:f=true->qv (iS (bQ env rs) args++caps) v=true:=by exact λ_=>rfl):ay Y draw (⟨.callv x args sh,g⟩::r) env rs nx m K:=
 fX rfl hg _ (λhf=>by simp only[ax.eE,hx,(dz _ _ _).1,ha hf,(hc hf).2];exact⟨kx hf,ho hf,hb,(dz _ _ _).2.2 (hp hf),(hc hf).1,hk hf⟩) (λhf=>by simp only[ax.val,hx,(dz _ _ _).1,ha hf,(hc hf).2]) m rfl (λ_=>h)
def Si {caps:List Src}(cs:List D)(h:ay Y draw r env (⟨f,.fn n cs⟩::rs) nx m K)(hg:GF rs g f:=by exact cD)(hc:f=true->iS (bQ env rs) caps=cs:=by exact λ_=>rfl)(ho:f=true->BB (bQ env rs) caps:=by exact uJ):ay Y draw (⟨.mkf n caps,g⟩::r) env rs nx m K:=
 bw rfl hg _ (λhf=>ho hf) (λhf=>by simp only[ax.val,hc hf]) (λ_=>h)
def di {d v e:D}{aE5:List D}(h:ay Y draw r env (⟨true,v⟩::rs) nx m2 K)(hx:bQ env rs x=⟨true,.ptr l k 0 0⟩:=by exact rfl)(hl:look m l=some (.buf k [d]):=by exact rfl)(hd:d.aR=true:=by exact rfl)(hc:Y.fp n d aE5/\Y.fv n d aE5=v/\Y.fs n d aE5=e)(ha:jm [] sh (iS (bQ env rs) args)=aE5:=by exact rfl)(ho:BB (bQ env rs) args:=by repeat' first|exact trivial|exact rfl|refine And.intro ?_ ?_|decide)(hn:aK (iS (bQ env rs) args)=true:=by exact rfl)(hm:cT m l (.buf k [e])=m2:=by simp only[cT,c7,Nat.reduceEqDiff,bh,aX,Nat.reduceAdd,reduceCtorEq];exact rfl):ay Y draw (⟨.callF n x args sh,none⟩::r) env rs nx m K:=
 pg rfl _ aa8 (by simp only[ax.val,hx,aH,hl,iW,(dz _ _ _).1,ha,hc.2.1]) _ (by simp only[ax.bN,hx,aH,hl,iW,(dz _ _ _).1,ha,hc.2.2];exact hm) (λ_=>h)
end
abbrev au:=List UInt8
variable{nm:au}
structure bV where
 major:Int
 minor:Int
 patch:Int
 pre:au
 build:au
 deriving Inhabited,DecidableEq
def bV.D (v:bV):D:=.agg [.int .i64 v.major,.int .i64 v.minor,.int .i64 v.patch,.str v.pre,.str v.build]
structure ea where
 name:au
 v:bV
 shelf:au
 sum:Int
 feats:List au
 deriving Inhabited,DecidableEq
def ea.D (x:ea):D:=.agg [.str x.name,.int .i64 x.v.major,.int .i64 x.v.minor,.int .i64 x.v.patch,.str x.v.pre,.str x.v.build,.str x.shelf,.int .u64 x.sum,.sl 1 (x.feats.map D.str)]
structure Env where
 e0:au
 e1:au
 e2:au
 deriving Inhabited,DecidableEq
def Env.D (e:Env):D:=.agg [.str e.e0,.str e.e1,.str e.e2]
structure lI where
 env:Env
 lines:List ea
 deriving Inhabited,DecidableEq
def lI.D (l:lI):D:=.agg [.str l.env.e0,.str l.env.e1,.str l.env.e2,.sl 9 (l.lines.map ea.D)]
theorem te (a b:List UInt8):eqD (.str a) (.str b)=decide (a=b):=Q0 a b
theorem Bs (k k2:IntKind)(a b:Int):eqD (.int k a) (.int k2 b)=decide (a=b):=rfl
theorem bV.eq (a b:bV):ib (bV.D a).cells (bV.D b).cells=decide (a=b):=by
 obtain⟨a1,a2,a3,a4,a5⟩:=a;obtain⟨b1,b2,b3,b4,b5⟩:=b
 grind [bV.D,D.cells,ib,te,Bs]
theorem Env.eq (a b:Env):ib (Env.D a).cells (Env.D b).cells=decide (a=b):=by
 obtain⟨a1,a2,a3⟩:=a;obtain⟨b1,b2,b3⟩:=b
 grind [Env.D,D.cells,ib,te,Bs]
theorem bV.inj {a b:bV}(h:bV.D a=bV.D b):a=b:=by
 obtain⟨a1,a2,a3,a4,a5⟩:=a;obtain⟨b1,b2,b3,b4,b5⟩:=b
 grind [bV.D]
theorem Env.inj {a b:Env}(h:Env.D a=Env.D b):a=b:=by
 obtain⟨a1,a2,a3⟩:=a;obtain⟨b1,b2,b3⟩:=b
 grind [Env.D]
theorem map_inj {α:Type}{q:α->D}(hq:∀a b,q a=q b->a=b):∀{xs ys:List α},xs.map q=ys.map q->xs=ys
 |[],[],_=>rfl
 |[],_::_,h=>by simp at h
 |_::_,[],h=>by simp at h
 |a::r,b::s,h=>by
  simp only[List.map_cons,sV]at h;rw[hq a b h.1,map_inj hq h.2]
theorem str_inj (a b:List UInt8)(h:D.str a=D.str b):a=b:=by simpa using h
theorem ea.inj {a b:ea}(h:ea.D a=ea.D b):a=b:=by
 obtain⟨a1,⟨v1,v2,v3,v4,v5⟩,a2,a3,a4⟩:=a;obtain⟨b1,⟨w1,w2,w3,w4,w5⟩,b2,b3,b4⟩:=b
 grind [ea.D,map_inj,str_inj]
theorem lI.inj {a b:lI}(h:lI.D a=lI.D b):a=b:=by
 obtain⟨⟨a1,a2,a3⟩,a4⟩:=a;obtain⟨⟨b1,b2,b3⟩,b4⟩:=b
 grind [lI.D,map_inj,ea.inj]
def allI (p:Nat->Bool):Nat->Nat->Bool
 |_,0=>true
 |i,k+1=>p i&&allI p (i+1) k
def bW (p:Nat->Bool)(i n:Nat):Bool:=allI p i (n-i)
def aB {p:Nat->Bool}{i:Nat}(h:i<n):bW p i n=(p i&&bW p (i+1) n):=by
 unfold bW;rw[show n-i=(n-(i+1))+1 by omega];rfl
def bE {p:Nat->Bool}{i:Nat}(h:n<=i):bW p i n=true:=by
 unfold bW;rw[show n-i=0 by omega];rfl
theorem K0 {p:Nat->Bool}:∀{k i:Nat},allI p i k=true↔∀j,i<=j->j<i+k->p j=true
 |0,i=>by simp[allI];intro j h1 h2;omega
 |k+1,i=>by
  simp only[allI,aA,K0 (k:=k)]
  grind
theorem bd {p:Nat->Bool}{i:Nat}:bW p i n=true↔∀j,i<=j->j<n->p j=true:=by
 grind [bW,K0]
def bT {a a' b b':D}(h1:a=a')(h2:b=b'):D.tup [a,b]=D.tup [a',b']:=by rw[h1,h2]
def ld8 (s:au)(i:Nat):kP (D.int .u8 (s[i]!).toNat) 1 1 0 false=.int .u8 (at8 s i):=by
 simp only[kP,D.isAgg,at8];simp;rfl
theorem wU (s:au)(pos:Nat)(h:pos<s.length):∃c w,yI s pos=(c,w)/\1<=w/\((w=1/\(c:Int)=at8 s pos/\c<128)\/(128<=c/\128<=at8 s pos)):=by
 refine⟨(yI s pos).1,(yI s pos).2,rfl, ?_⟩;have e:yI s pos=Lib.decodeN (s.length-pos) (s.getD pos 0).toNat (s.getD (pos+1) 0).toNat (s.getD (pos+2) 0).toNat (s.getD (pos+3) 0).toNat:=Lib.decode_N ⟨⟨s⟩⟩ pos;rw[e];unfold at8;generalize (s.getD pos 0).toNat=b0;generalize (s.getD (pos+1) 0).toNat=b1;generalize (s.getD (pos+2) 0).toNat=b2;generalize (s.getD (pos+3) 0).toNat=b3;generalize s.length-pos=n;by_cases hb:b0<128
 .unfold Lib.decodeN;rw[ak hb];exact⟨aN _,.inl ⟨rfl,rfl,hb⟩⟩
 .unfold Lib.decodeN
  grind
def tG {q:α->D}{xs:List α}{m:List (Nat×bj)}(hq:∀x,xV m [.a] (q x)=q x)(hl:look m l=some (.buf 1 (xs.map q))):xV m [.sl 1 [.a]] (.own l 1 0 xs.length)=.sl 1 (xs.map q):=by
 show D.sl 1 _=_;simp only[aH,hl,cY,bH,List.map_map];congr 1;apply List.map_congr_left;intro x _;have:=hq x;simp only[Function.comp];generalize q x=d at this;cases d<;>exact this
theorem qe {q:α->D}{xs:List α}{m:List (Nat×bj)}(hq:∀x,xVO m [.a] (q x))(hl:look m l=some (.buf 1 (xs.map q))):xVO m [.sl 1 [.a]] (.own l 1 0 xs.length):=by
 grind [xVO,xHO,Vu,dT,aH,bH]
def jU (c:Int):Bool:=decide (97<=c)&&decide (c<=122)
def bJ (c:Int):Bool:=decide (48<=c)&&decide (c<=57)
def Gx (c:Int):Bool:=jU c ||bJ c ||decide (c=95)
def gL (s:au):Bool:=decide (1<=s.length)&&decide (s.length<=12)&&bW (λi=>Gx (at8 s i)) 0 s.length
def nch (s:au)(i:Nat):Bool:=(jU (at8 s i) ||bJ (at8 s i) ||decide (at8 s i=45))&& !(decide (at8 s i=45)&&decide (at8 s (i-1)=45))
def df (s:au):Bool:=decide (1<=s.length)&&decide (s.length<=16)&&jU (at8 s 0)&& !decide (at8 s (s.length-1)=45)&&bW (nch s) 1 s.length
def o9 (s:au)(i:Nat):Bool:=jU (at8 s i) ||(bJ (at8 s i)&& !decide (i=0)) ||(decide (at8 s i=45)&& !decide (i=0)&& !decide (i=s.length-1)&& !decide (at8 s (i-1)=45))
def adM (s:au)(h1:1<=s.length)(h2:s.length<=16):df s=bW (o9 s) 0 s.length:=by
 rw[Bool.eq_iff_iff];simp only[df,br h1,br h2,eI,aA,cE,ct,bd];constructor
 .rintro⟨⟨h3,h4⟩,h5⟩ j _ hj;rcases Nat.eq_zero_or_pos j with rfl|hp
  .simp[o9,h3]
  .have:=h5 j hp hj;simp only[nch,aA,dK,cE,ep,aT,ct]at this;simp only[o9,aA,dK,cE,aT,ct];rcases this with⟨(h6|h6)|h6,h7⟩
   .exact Or.inl (Or.inl h6)
   .exact Or.inl (Or.inr ⟨h6,ae⟩)
   .refine Or.inr ⟨⟨⟨h6,ae⟩, ?_⟩, ?_⟩
    .rintro rfl;exact h4 h6
    .rcases h7 with h7|h7
     .exact absurd h6 h7
     .exact h7
 .intro h;have h0:=h 0 ae ae;have hlow:jU (at8 s 0)=true:=by simpa[o9]using h0
  refine⟨⟨hlow, ?_⟩,λj hj1 hj2=>?_⟩
  .intro he;have hl:=h (s.length-1) ae ae;rcases Nat.eq_or_lt_of_le h1 with e|e
   .rw[<-e]at he;simp only[Nat.sub_self]at he;simp only[jU,aA,aT]at hlow;omega
   .simp only[o9,he,jU,bJ]at hl;simp at hl
  .have:=h j ae hj2;simp only[o9,aA,dK,cE,aT,ct]at this;simp only[nch,aA,dK,cE,ep,aT,ct];rcases this with(h6|h6)|h6
   .refine⟨Or.inl (Or.inl h6),Or.inl ?_⟩;simp only[jU,aA,aT]at h6;omega
   .refine⟨Or.inl (Or.inr h6.1),Or.inl ?_⟩;have:=h6.1;simp only[bJ,aA,aT]at this;omega
   .exact⟨Or.inr h6.1.1.1,Or.inr h6.2⟩
def e7 (s:au):Nat:=s.foldl (λn b=>n*10+(b.toNat-48)) 0
def ot (s:au):Bool:=decide (1<=s.length)&&decide (s.length<=9)&& !(decide (1<s.length)&&decide (at8 s 0=48))&&bW (λi=>bJ (at8 s i)) 0 s.length&&decide (e7 s<=9999)
def C6 (s:au):Int:=if ot s=true then(e7 s:Int)else 0
theorem q9 (s:au)(i:Nat)(h:i<s.length):s.take (i+1)=s.take i++[s.getD i 0]:=by
 rw[List.take_succ];simp[h]
def Ac (s:au)(i:Nat)(h:i<s.length):e7 (s.take (i+1))=e7 (s.take i)*10+((at8 s i).toNat-48):=by
 rw[q9 s i h];simp[e7,List.foldl_append,at8]
def Uk (s:au):e7 s+23<=23*10^s.length:=by
 have:∀(s:au) (n k:Nat),n+23<=23*10^k->s.foldl (λn b=>n*10+(b.toNat-48)) n+23<=23*10^(k+s.length):=by
  intro s;induction s with
  |nil=>intro n k h;simpa using h
  |cons b r ih=>
   intro n k h;have hb:=b.toNat_lt;have:=ih (n*10+(b.toNat-48)) (k+1) (by rw[Nat.pow_succ];omega);simp only[List.foldl_cons,bD];rw[show k+(r.length+1)=k+1+r.length by omega];exact this
 have:=this s 0 0 aC;simpa[e7]using this
def xy (s:au)(i:Nat)(h:i<=9):e7 (s.take i)<=23000000000:=by
 have h1:=Uk (s.take i);have h2:(s.take i).length<=9:=fh;have h3:10^(s.take i).length<=10^9:=Nat.pow_le_pow_right ae h2;omega
def L7 (s:au):∀n:Nat,s.foldl (λn b=>n*10+(b.toNat-48)) n=n*10^s.length+e7 s:=by
 unfold e7;induction s with
 |nil=>intro n;simp
 |cons b r ih=>
  intro n;simp only[List.foldl_cons,bD];rw[ih,ih (0*10+(b.toNat-48)),Nat.pow_succ];simp only[Nat.zero_mul,cr,Nat.add_mul];rw[Nat.mul_assoc n 10,Nat.mul_comm 10];omega
def Ab (b:UInt8)(r:au):e7 (b::r)=(b.toNat-48)*10^r.length+e7 r:=by
 have:=L7 r (0*10+(b.toNat-48));simp only[e7,List.foldl_cons]at this⊢;rw[this];simp
def zM {b:UInt8}{r:au}(h:bW (λi=>bJ (at8 (b::r) i)) 0 (b::r).length=true):bJ b.toNat=true/\bW (λi=>bJ (at8 r i)) 0 r.length=true:=by
 rw[bd]at h;refine⟨by simpa[at8]using h 0 ae aC, ?_⟩;rw[bd];intro j _ hj;simpa[at8]using h (j+1) ae fh
def FO:∀(s:au),bW (λi=>bJ (at8 s i)) 0 s.length=true->e7 s<10^s.length
 |[],_=>by simp[e7]
 |b::r,h=>by
  obtain⟨h1,h2⟩:=zM h;have:=FO r h2;rw[Ab,bD,Nat.pow_succ];simp only[bJ,aA,aT]at h1;have h3:b.toNat-48<=9:=ae;have:=fP (10^r.length) h3;omega
def Uj {b:UInt8}{r:au}(h:49<=b.toNat):10^r.length<=e7 (b::r):=by
 rw[Ab];have:=fP (10^r.length) (show 1<=b.toNat-48 by omega);omega
def Yl (s:au):ot s=(decide (1<=s.length)&&decide (s.length<=4)&& !(decide (1<s.length)&&decide (at8 s 0=48))&&bW (λi=>bJ (at8 s i)) 0 s.length):=by
 unfold ot;cases hd:bW (λi=>bJ (at8 s i)) 0 s.length with
 |false=>simp
 |true=>
  have hlt:=FO s hd;by_cases h4:s.length<=4
  .have:10^s.length<=10^4:=Nat.pow_le_pow_right ae h4;rw[br h4,br (by omega:s.length<=9),br (by omega:e7 s<=9999)];simp
  .rw[bL h4]
   match s,hd,h4 with
   |b::r,hd,h4=>
    by_cases h0:at8 (b::r) 0=48
    .rw[br h0,br (by omega:1<(b::r).length)];simp
    .have h1:=(zM hd).1;simp only[bJ,aA,aT]at h1;have h2:49<=b.toNat:=by
      simp[at8]at h0;omega
     have h3:=Uj (r:=r) h2;have:10^4<=10^r.length:=Nat.pow_le_pow_right ae (by simp at h4;omega);rw[bL (by omega:¬e7 (b::r)<=9999)];simp
def dg (n:Nat):UInt8:=UInt8.ofNat (48+n)
def G5:Nat->Nat->au
 |0,n=>[dg n]
 |f+1,n=>if n<10 then [dg n]else G5 f (n/10)++[dg (n%10)]
def nT (n:Nat):au:=G5 n n
def Rh:∀(f g n:Nat),n<=f->n<=g->G5 f n=G5 g n
 |0,0,n,_,_=>rfl
 |0,g+1,n,h,_=>by
  obtain rfl:n=0:=ae;simp[G5]
 |f+1,0,n,_,h=>by
  obtain rfl:n=0:=ae;simp[G5]
 |f+1,g+1,n,h1,h2=>by
  simp only[G5];split
  .rfl
  .rw[Rh f g (n/10) ae ae]
def Bq (h:n<10):nT n=[dg n]:=by
 unfold nT;cases n<;>simp[G5,h]
def Bp (h:9<n):nT n=nT (n/10)++[dg (n%10)]:=by
 unfold nT;obtain⟨k,rfl⟩:∃k,n=k+1:=⟨n-1,ae⟩
 simp only[G5];rw[ah ae,Rh k ((k+1) /10) _ ae ae]
def hZ:∀(k n:Nat),n<10^k->0<k->(nT n).length<=k:=by
 intro k;induction k with
 |zero=>intro n _ h;omega
 |succ k ih=>
  intro n h _;by_cases h10:n<10
  .rw[Bq h10];simp
  .rw[Bp ae];have hk:0<k:=by
    rcases Nat.eq_zero_or_pos k with rfl|h0
    .simp at h;omega
    .exact h0
   have:=ih (n/10) (by rw[Nat.pow_succ]at h;omega) hk;simp;omega
def afm (h:n<10):((dg n).toNat:Int)=48+n:=by
 have:(48+n)%256=48+n:=Nat.mod_eq_of_lt ae;simp[dg,this]
def fA (b:Int):au->au->List au
 |[],cur=>[cur]
 |c::r,cur=>if(c.toNat:Int)=b then cur::fA b r []else fA b r (cur++[c])
def ba (s:au)(b:Int):List au:=fA b s []
def Rj (s:au)(i:Nat)(h:i<s.length):s.drop i=s.getD i 0::s.drop (i+1):=by
 rw[eH h];simp[h]
def Gi {s:au}{i fr:Nat}(h:i<s.length)(he:at8 s i=b):fA b (s.drop i) ((s.take i).drop fr)=((s.take i).drop fr)::fA b (s.drop (i+1)) ((s.take (i+1)).drop (i+1)):=by
 rw[Rj s i h];have h2:(s.take (i+1)).drop (i+1)=[]:=aC;rw[h2];simp only[fA];rw[ak (by simpa[at8]using he)]
def Gj {s:au}{i fr:Nat}(h:i<s.length)(hf:fr<=i)(he:¬at8 s i=b):fA b (s.drop i) ((s.take i).drop fr)=fA b (s.drop (i+1)) ((s.take (i+1)).drop fr):=by
 rw[Rj s i h,q9 s i h,List.drop_append_of_le_length fh];simp only[fA];rw[ah (by simpa[at8]using he)]
def DZ {s:au}{i fr:Nat}(h:s.length<=i):fA b (s.drop i) ((s.take i).drop fr)=[s.drop fr]:=by
 rw[jN h,gU h];rfl
def we (b:Int):∀(s cur:au),(fA b s cur).length<=s.length+1
 |[],cur=>by simp[fA]
 |c::r,cur=>by
  simp only[fA];split
  .have:=we b r [];simp;omega
  .have:=we b r (cur++[c]);simp;omega
def P9 (s:au)(b:Int):(ba s b).length<=s.length+1:=we b s []
def nq (c:Int):Bool:=jU c ||bJ c ||decide (c=45)
def wi (t:au):Bool:=decide (1<=t.length)&&decide (t.length<=8)&&bW (λi=>nq (at8 t i)) 0 t.length
def cP (t:au):Bool:=bW (λi=>bJ (at8 t i)) 0 t.length&&decide (0<t.length)
def jq (p:Bool)(t:au):Bool:=wi t&& !(p&&cP t&& !ot t)
def sM (s:au)(p:Bool):Bool:=decide ((ba s 46).length<=4)&&bW (λi=>jq p (ba s 46)[i]!) 0 (ba s 46).length
def D4 (s:au)(p:Bool):Bool:=decide (s=[]) ||sM s p
def Cq (n:Int):Bool:=decide (0<=n)&&decide (n<=9999)
def gJ (v:bV):Bool:=Cq v.major&&Cq v.minor&&Cq v.patch&&D4 v.pre true&&D4 v.build false
def Fc (v:bV):au:=nT v.major.toNat++[46]++nT v.minor.toNat++[46]++nT v.patch.toNat++(if v.pre=[]then []else 45::v.pre)++(if v.build=[]then []else 43::v.build)
def uI (v:bV):au:=if gJ v=true then Fc v else []
def bV.sm (v:bV):Prop:=v.pre.length<=1048576/\v.build.length<=1048576
def or64 (a b:Int):Int:=IntKind.u64.wrap ((BitVec.ofInt 64 a |||BitVec.ofInt 64 b).toNat)
def SW (a b:Int):Int:=IntKind.u64.wrap ((BitVec.ofInt 64 a^^^BitVec.ofInt 64 b).toNat)
def Z6 (a:Int)(k:Nat):Int:=IntKind.u64.wrap (a*2^k)
def Gd (a:Int)(k:Nat):Int:=a.fdiv (2^k)
def rot (h:Int)(k:Nat):Int:=or64 (Z6 h k) (Gd h (64-k))
def SF (h:Int)(c:Int):Int:=IntKind.u64.wrap (rot (SW h c) 13*18397679294719823053)
def zn (s:au):Int:=s.foldl (λh c=>SF h c.toNat) 11400714819323198485
def sumL (s:au):Int:=SW (zn s) (Gd (zn s) 29)
theorem Gm (s:au)(i:Nat)(h:i<s.length):zn (s.take (i+1))=SF (zn (s.take i)) (at8 s i):=by
 grind [q9,zn,at8]
def Env.at (e:Env):Nat->au
 |0=>e.e0
 |1=>e.e1
 |_=>e.e2
def Env.ld (e:Env){i:Nat}(h:i<3):kP (Env.D e) 3 1 (0+i*1) false=.str (e.at i):=by
 match i,h with
 |0,_=>rfl
 |1,_=>rfl
 |2,_=>rfl
def lI.ld (l:lI){i:Nat}(h:i<3):kP (lI.D l) 4 1 (0+i*1) false=.str (l.env.at i):=by
 match i,h with
 |0,_=>rfl
 |1,_=>rfl
 |2,_=>rfl
def Env.cut (e:Env){i:Nat}(h:i<3):Abs.cut [.str e.e0,.str e.e1,.str e.e2] (i*1) 1 false=.str (e.at i):=by
 match i,h with
 |0,_=>rfl
 |1,_=>rfl
 |2,_=>rfl
def nV (e:Env):Bool:=bW (λi=>decide (e.at i=[]) ||gL (e.at i)) 0 3
def zO (l:List au)(i:Nat):Bool:=gL l[i]! && !(decide (0<i)&& !Op.bytesLess l[i-1]! l[i]!)
def Hs (x:ea):Bool:=df x.name&&gJ x.v&& !(decide (x.shelf≠[])&& !df x.shelf)&& !(decide (x.shelf=[])&&decide (x.sum≠0))&&decide (x.feats.length<=9)&&bW (zO x.feats) 0 x.feats.length
def xh (l:List ea)(i:Nat):Bool:=Hs l[i]! && !(decide (0<i)&& !Op.bytesLess l[i-1]!.name l[i]!.name)
def LM (l:lI):Bool:=nV l.env&&decide (l.lines.length<=48)&&bW (xh l.lines) 0 l.lines.length
def ea.sm (x:ea):Prop:=x.v.sm/\x.name.length<=1048576/\x.shelf.length<=1048576/\x.feats.length<=1048576/\∀t∈x.feats,t.length<=1048576
def lI.sm (l:lI):Prop:=l.lines.length<=1048576/\(∀x∈l.lines,x.sm)/\∀i,(l.env.at i).length<=1048576
theorem aq [Inhabited α]{l:List α}{i:Nat}(h:i<l.length):l[i]! ∈l:=by
 simp[h]
structure Kp where
 name:au
 v:bV
 deriving Inhabited,DecidableEq
def Kp.D (x:Kp):D:=.agg [.str x.name,.int .i64 x.v.major,.int .i64 x.v.minor,.int .i64 x.v.patch,.str x.v.pre,.str x.v.build]
def iX (l:List ea)(nm:au)(i:Nat):Int:=match(l.drop i).findIdx? (λx=>decide (x.name=nm))with
 |some k=>((i+k:Nat):Int)
 |none=>-1
theorem Lk {l:List ea}{i:Nat}(h:i<l.length)(he:l[i]!.name=nm):iX l nm i=(i:Nat):=by
 unfold iX;rw[eH h,List.findIdx?_cons]
 grind
theorem Ll {l:List ea}{i:Nat}(h:i<l.length)(he:¬l[i]!.name=nm):iX l nm i=iX l nm (i+1):=by
 unfold iX;have:¬l[i].name=nm:=by simpa[h]using he
 rw[eH h,List.findIdx?_cons]
 grind
def Fz {l:List ea}{i:Nat}(h:l.length<=i):iX l nm i=-1:=by
 unfold iX;rw[jN h];rfl
theorem ZZ [Inhabited α][DecidableEq α]{a b:List α}(h:a.length=b.length):decide (a=b)=bW (λi=>decide (a[i]! =b[i]!)) 0 a.length:=by
 rw[Bool.eq_iff_iff,aT,bd];constructor
 .rintro rfl j _ _;simp
 .intro hj;apply List.ext_getElem h
  grind
theorem ea.same {a b:ea}(e1:a.name=b.name)(e2:a.v=b.v)(e3:a.shelf=b.shelf)(e4:a.sum=b.sum)(e5:a.feats.length=b.feats.length):decide (a=b)=bW (λi=>decide (a.feats[i]! =b.feats[i]!)) 0 a.feats.length:=by
 rw[<-ZZ e5];obtain⟨a1,a2,a3,a4,a5⟩:=a;obtain⟨b1,b2,b3,b4,b5⟩:=b
 grind
def cn (b:au):List au->au
 |[]=>[]
 |[t]=>t
 |t::u::r=>t++b++cn b (u::r)
def vI (b t:au)(r:List au)(h:r≠[]):cn b (t::r)=t++b++cn b r:=by
 cases r with
 |nil=>exact absurd rfl h
 |cons u r=>rfl
def sf {α:Type}(q:α->au)(B:Nat):∀l:List α,(∀x∈l,(q x).length<=B)->((l.map q).flatten).length<=l.length*B
 |[],_=>aC
 |a::r,h=>by
  have h1:=h a (.head _);have h2:=sf q B r λx hx=>h x (.tail _ hx)
  simp only[List.map_cons,List.flatten_cons,cu,bD,Nat.succ_mul];omega
theorem Ed (v:bV)(h:v.sm):(uI v).length<=2097200:=by
 unfold uI;split
 .rename_i hv;simp only[gJ,aA]at hv;obtain⟨⟨⟨⟨hv1,hv2⟩,hv3⟩,_⟩,_⟩:=hv;simp only[Cq,aA,aT]at hv1 hv2 hv3;have hl1:=hZ 4 v.major.toNat ae ae;have hl2:=hZ 4 v.minor.toNat ae ae;have hl3:=hZ 4 v.patch.toNat ae ae;obtain⟨h1,h2⟩:=h
  grind [Fc]
 .simp
def Env.sm (e:Env):=∀i,(e.at i).length<=1048576
def iE (v n:Int):Int:=if n<1 then 0 else if v.tmod n<0 then v.tmod n+n else v.tmod n
def D7 (v n:Int)(h:1<=n):-n<v.tmod n/\v.tmod n<n:=⟨Int.lt_tmod_of_pos v ae,Int.tmod_lt_of_pos v ae⟩
theorem iF (v n:Int)(h:1<=n):0<=iE v n/\iE v n<n:=by
 have:=D7 v n h
 grind [iE]
def atI (l:List Int)(i:Int):Int:=if i<0\/(l.length:Int)<=i then i.tmod 3 else l[i.toNat]!
structure Gs where
 l:List Int
 i:Int
 deriving Inhabited
def Gs.D (g:Gs):D:=.agg [.sl 1 (g.l.map (D.int .i64)),.int .i64 g.i]
def Gs.val (g:Gs)(n:Int):Int:=iE (atI g.l g.i) n
def Gs.aS (g:Gs):Gs:=⟨g.l,g.i+1⟩
def uC (s:au)(b:UInt8):au×au×Bool:=match s.findIdx? (λc=>c==b)with
 |some k=>(s.take k,s.drop (k+1),true)
 |none=>(s,[],false)
def qy (s p:au):au×Bool:=if p.isPrefixOf s=true then(s.drop p.length,true)else(s,false)
def WB (s:au)(b:UInt8):(uC s b).1.length<=s.length/\((uC s b).2.2=true->(uC s b).1.length+1<=s.length):=by
 unfold uC;split
 .rename_i k h;have:=List.findIdx?_eq_some_iff_findIdx_eq.1 h;simp only[dF];omega
 .simp
structure Rdr where
 s:au
 at':Nat
 n:Nat
def Rdr.D (r:Rdr):D:=.agg [.str r.s,.int .i64 (r.at':Nat),.int .i64 (r.n:Nat)]
def Rdr.ln (r:Rdr):au×au×Bool:=uC (r.s.drop r.at') 10
def Rdr.aS (r:Rdr):Rdr:=⟨r.s,if r.ln.2.2=true then r.at'+(r.ln.1.length+1)else r.at',r.n+1⟩
def wg (b:Int):∀(s cur:au),∀t∈fA b s cur,t.length<=cur.length+s.length
 |[],cur,t,h=>by simp only[fA,aD]at h;subst h;simp
 |c::r,cur,t,h=>by
  simp only[fA]at h;split at h
  .rcases bG.1 h with rfl|h
   .simp
   .have:=wg b r [] t h;simp at this⊢;omega
  .have:=wg b r (cur++[c]) t h;simp at this⊢;omega
def Qa (s:au)(b:Int){t:au}(h:t∈ba s b):t.length<=s.length:=by
 have:=wg b s [] t h;simpa using this
def Oo (s p:au):(qy s p).1.length<=s.length:=by
 unfold qy;split<;>simp
end Go.Abs
namespace Go.Abs
variable {e:Env} {f:Nat} {r:Rdr} {ls:List ea}
end Go.Abs
namespace Go.Abs
variable(P:Program){Q:Abs.D->List (Nat×bj)->Prop}{af:aj}{σi σ:List (Nat×Nat)}{fx w:Bool}{ds:List Abs.D}{x:Src}{m0:List (Nat×bj)}{n k:Nat}{args:List Src}{K:Abs.D->St->Prop}{d:Abs.D}(C:Ctx->Prop){st:St}
section
variable {Y:Ctx}{draw:Bool}{r:List GI}{env rs:List aY}{nx:Nat}{m:List (Nat×bj)}{K:List aY->St->Prop}{g:Option (Nat×Bool)}{f:Bool}
def Zf {l j:Nat}{sh:List (List Sh)}{v e:D}{aE5:List D}{m2:List (Nat×bj)}(h:ay Y false r env (⟨true,v⟩::rs) nx m2 K)(hg:GF rs (some (j,w)) true:=by exact⟨_,_,rfl,rfl⟩)(hx:bQ env rs x=⟨true,.ptr l k 0 0⟩:=by exact rfl)(hl:look m l=some (.buf k [d]):=by exact rfl)(hd:d.aR=true:=by exact rfl)(hc:Y.fp n d aE5/\Y.fv n d aE5=v/\Y.fs n d aE5=e)(ha:jm [] sh (iS (bQ env rs) args)=aE5:=by exact rfl)(ho:BB (bQ env rs) args:=by repeat' first|exact trivial|exact rfl|refine And.intro ?_ ?_|decide)(hn:aK (iS (bQ env rs) args)=true:=by exact rfl)(hm:cT m l (.buf k [e])=m2:=by simp only[cT,c7,Nat.reduceEqDiff,bh,aX,Nat.reduceAdd,reduceCtorEq];exact rfl):ay Y false (⟨.callF n x args sh,some (j,w)⟩::r) env rs nx m K:=
 Zh rfl rfl hg (λ_=>⟨v,aa8,by simp only[ax.val,hx,aH,hl,iW,(dz _ _ _).1,ha,hc.2.1],m2,by simp only[ax.bN,hx,aH,hl,iW,(dz _ _ _).1,ha,hc.2.2];exact hm,h⟩) (λh=>bZ)
def akv {i:ax}{j:Nat}(h:ay Y false r env (⟨false,.any⟩::rs) nx m K)(hM:i.cN=false:=by exact rfl)(hC:i.calm=false:=by exact rfl)(hg:GF rs (some (j,w)) false:=by exact⟨_,_,rfl,rfl⟩):ay Y false (⟨i,some (j,w)⟩::r) env rs nx m K:=
 Zh hM hC hg (λh=>bZ) (λ_=>h)
def r_off {i:ax}{j:Nat}(d:D)(h:ay Y draw r env (⟨false,d⟩::rs) nx m K)(hC:i.pure=true:=by exact rfl)(hg:GF rs (some (j,w)) false:=by exact⟨_,_,rfl,rfl⟩):ay Y draw (⟨i,some (j,w)⟩::r) env rs nx m K:=
 bw hC hg d (λh=>bZ) (λh=>bZ) (λ_=>h)
theorem dI {aE5:List D}{v:D}{nx':Nat}{m':List (Nat×bj)}(h:ay Y draw r env (⟨true,v⟩::rs) nx' m' K)(hc:∀K':D->St->Prop,K' v ⟨nx'+rs.length,m'⟩->Y.tr n aE5 ⟨nx+rs.length,m⟩ K')(hn:nx<=nx')(ha:iS (bQ env rs) args=aE5:=by exact rfl)(ho:BB (bQ env rs) args:=by repeat' first|exact trivial|exact rfl|refine And.intro ?_ ?_):ay Y draw (⟨.callM n args,none⟩::r) env rs nx m K:=by
 unfold ay;show True/\(true=true->BB (Src.ev env rs.reverse) args/\Y.tr n (iS (Src.ev env rs.reverse) args) {nx:=nx+rs.reverse.length,m:=m} _)/\(true=false->_)
 grind [oL,ay]
def akN {α:Type}{q:α->D}{s:List α}{y z:Src}{fy fz:Bool}{kh km:IntKind}{h' m':Int}(j:Nat)(h:ay Y draw r env (⟨f,.sl k ((s.take j).map q)⟩::rs) nx m K)(hg:GF rs g f:=by exact cD)(hx:bQ env rs x=⟨fx,.sl k (s.map q)⟩:=by exact rfl)(hy:bQ env rs y=⟨fy,.int kh h'⟩:=by exact rfl)(hz:bQ env rs z=⟨fz,.int km m'⟩:=by exact rfl)(kx:f=true->fx=true:=by exact bp)(ky:f=true->fy=true:=by exact bp)(kz:f=true->fz=true:=by exact bp)(hj:f=true->h'=(j:Int))(hb:f=true->(j:Int)<=m'/\m'<=(s.length:Int)):ay Y draw (⟨.slX k x y z,g⟩::r) env rs nx m K:=
 bw rfl hg _ (λhf=>by have h1:=hj hf;have h2:=hb hf;simp only[ax.eE,hx,hy,hz,a8];exact⟨kx hf,ky hf,kz hf,ae,ae,trivial,h2.2⟩) (λhf=>by simp only[ax.val,hx,hy];rw[hj hf,Int.toNat_natCast,List.map_take]) (λ_=>h)
def Dm {α:Type}[Inhabited α]{i o:Nat}{ag:Bool}{q:α->D}{xs:List α}(v:D)(h:ay Y draw r env (⟨f,v⟩::rs) nx m K)(hg:GF rs g f:=by exact cD)(hx:bQ env rs x=⟨fx,.ref k (xs.map q) i o⟩:=by exact rfl)(kx:f=true->fx=true:=by exact bp)(hi:f=true->i<xs.length:=by exact rR)(hv:f=true->kP (q xs[i]!) k n o ag=v:=by exact λ_=>rfl)(ho:o+n<=k:=by omega):ay Y draw (⟨.ldU n ag x,g⟩::r) env rs nx m K:=
 fX rfl hg _ (λhf=>abg) (λhf=>abc) m rfl (λha=>h)
def Pn {i o:Nat}{ag:Bool}{es:List D}(v:D)(h:ay Y draw r env (⟨f,v⟩::rs) nx m K)(hg:GF rs g f:=by exact cD)(hx:bQ env rs x=⟨fx,.ref k es i o⟩:=by exact rfl)(kx:f=true->fx=true:=by exact bp)(hi:f=true->i<es.length:=by intro _;simp only[bD,ca];omega)(hv:f=true->kP (es.getD i .any) k n o ag=v:=by exact λ_=>rfl)(ho:o+n<=k:=by omega):ay Y draw (⟨.ldU n ag x,g⟩::r) env rs nx m K:=
 fX rfl hg _ (λhf=>QG) (λhf=>Kn) m rfl (λha=>h)
def y8 {l o:Nat}{ag:Bool}(v:D)(h:ay Y draw r env (⟨f,v⟩::rs) nx m K)(hg:GF rs g f:=by exact cD)(hx:bQ env rs x=⟨fx,.ptr l k 0 o⟩:=by exact rfl)(kx:f=true->fx=true:=by exact bp)(hl:f=true->look m l=some (.buf k [d]):=by exact λ_=>rfl)(hv:f=true->kP d k n o ag=v:=by exact λ_=>rfl)(ho:o+n<=k:=by omega)(hd:f=true->d.aR=false:=by exact λ_=>rfl):ay Y draw (⟨.ldU n ag x,g⟩::r) env rs nx m K:=
 fX rfl hg _ (λhf=>by simp only[ax.eE,hx,KJ,dT,hl hf];exact⟨kx hf,⟨⟨trivial,aC⟩,ho⟩,by simp only[aH,hl hf,aK,hd hf];rfl⟩) (λhf=>QL) m rfl (λha=>h)
def Zl {l o:Nat}{ag:Bool}(v:D)(h:ay Y draw r env (⟨f,v⟩::rs) nx m K)(hg:GF rs g f:=by exact cD)(hx:bQ env rs x=⟨fx,.ptr l k 0 o⟩:=by exact rfl)(kx:f=true->fx=true:=by exact bp)(hl:f=true->look m l=some (.buf k [d]):=by exact λ_=>rfl)(hv:f=true->kP d k n o ag=v:=by exact λ_=>rfl)(ho:o+n<=k:=by omega)(hd:4<k:=by omega):ay Y draw (⟨.ldW n ag x,g⟩::r) env rs nx m K:=
 fX rfl hg _ (λhf=>by simp only[ax.eE,hx,KJ,dT,hl hf];exact⟨kx hf,⟨⟨trivial,aC⟩,ho⟩,hd⟩) (λhf=>QL) m rfl (λha=>h)
end
def Gs.Ym (g:Gs):g.aS.i=g.i+1:=rfl
def Gs.eR (g:Gs)(n:Int)(h:1<=n):0<=g.val n/\g.val n<n:=iF _ _ h
def fW:au:=[102]
def X3:au:=[109,97,105,110]
def DU:au:=[115,105,100,101]
def cF:List au:=[[97,110,116],[98,101,101],[99,111,119],[100,111,103]]
def bF:List bV:=[⟨1,0,0,[],[]⟩,⟨1,2,0,[],[]⟩,⟨2,0,0,[97,46,49],[]⟩,⟨2,0,0,[],[]⟩]
def Fu:List au:=[[],[108,105,110,117,120],[112,108,97,110,57]]
def iD (n:Int):Env:=⟨Fu[(iE n 3).toNat]!,[],[]⟩
def nlS:List au->D
 |[]=>.aL
 |a::r=>.sl 1 ((a::r).map D.str)
def ea.N (x:ea):Go.Abs.D:=.agg [.str x.name,.int .i64 x.v.major,.int .i64 x.v.minor,.int .i64 x.v.patch,.str x.v.pre,.str x.v.build,.str x.shelf,.int .u64 x.sum,nlS x.feats]
def ea.F (name:au)(v:bV)(shelf:au)(sum:Int)(fs:Go.Abs.D):Go.Abs.D:=.agg [.str name,.int .i64 v.major,.int .i64 v.minor,.int .i64 v.patch,.str v.pre,.str v.build,.str shelf,.int .u64 sum,fs]
def Xh (l k:Nat)(es:List Go.Abs.D)(g:Gs):iY l k es (Gs.D g)=Gs.D g:=rfl
mutual
theorem ic (l k:Nat)(es:List D):∀d:D,d.aR=true->iY l k es d=d
 | .agg a,h=>by simp only[iY,jM l k es a (by simpa[D.aR]using h)]
 | .tup a,h=>by simp only[iY,jM l k es a (by simpa[D.aR]using h)]
 | .fn n a,h=>by simp only[iY,jM l k es a (by simpa[D.aR]using h)]
 | .own ..,h=>by simp[D.aR]at h
 | .ptr ..,h=>by simp[D.aR]at h
 | .it ..,h=>by simp[D.aR]at h
 | .any,_| .bool _,_| .int ..,_| .str _,_| .aL,_| .sl ..,_| .ref ..,_| .nilp,_| .nilf,_=>rfl
theorem jM (l k:Nat)(es:List D):∀ds:List D,aK ds=true->mN l k es ds=ds
 |[],_=>rfl
 |d::r,h=>by
  simp only[aK,aA]at h;simp only[mN,ic l k es d h.1,jM l k es r h.2]
end
def bq (L c:Nat)(ls:List ea)(k j:Nat):D:=if j=k then ea.F ls[j]!.name ls[j]!.v ls[j]!.shelf ls[j]!.sum (.own L 1 0 c)else ea.D ls[j]!
theorem Kp.eq (a b:Kp):ib (Kp.D a).cells (Kp.D b).cells=decide (a=b):=by
 obtain⟨n1,⟨a1,a2,a3,a4,a5⟩⟩:=a;obtain⟨n2,⟨b1,b2,b3,b4,b5⟩⟩:=b
 grind [Kp.D,D.cells,ib,te,Bs]
theorem aiZ {l:List au}{B:Nat}(h:∀t∈l,t.length<=B)(i:Nat):(l[i]!).length<=B:=by
 by_cases hi:i<l.length
 .grind
 .simp only[List.getElem!_eq_getElem?_getD,List.getElem?_eq_none (Nat.le_of_not_lt hi),Option.getD_none];exact Nat.zero_le _
structure ea.ok (n:Nat)(x:ea):Prop where
 pre:x.v.pre.length<=3
 build:x.v.build.length<=2
 name:x.name.length<=16
 shelf:x.shelf.length<=16
 nf:x.feats.length<=n
 ft:∀t∈x.feats,t.length<=16
 sum:0<=x.sum/\x.sum<18446744073709551616
structure lI.ok (n:Nat)(l:lI):Prop where
 len:l.lines.length<=4
 lines:∀x∈l.lines,x.ok n
 env:∀i,(l.env.at i).length<=16
theorem lI.ok.sm {l:lI}(h:l.ok n)(hn:n<=1000):l.sm:=by
 refine⟨by have:=h.len;omega,λx hx=>?_,λi=>by have:=h.env i;omega⟩;have k:=h.lines x hx;have k1:=k.pre;have k2:=k.build;have k3:=k.name;have k4:=k.shelf;have k5:=k.nf;exact⟨⟨ae,ae⟩,ae,ae,ae,λt ht=>by have:=k.ft t ht;omega⟩
def acZ (n:Int)(i:Nat):((iD n).at i).length<=16:=by
 have h:∀t∈Fu,t.length<=16:=aV
 match i with
 |0=>exact aiZ h _
 |1=>show([]:au).length<=_;decide
 |_+2=>show([]:au).length<=_;decide
def ea.ok.mono {m:Nat}{x:ea}(h:x.ok n)(hm:n<=m):x.ok m:=⟨h.pre,h.build,h.name,h.shelf,fg h.nf hm,h.ft,h.sum⟩
def lk {α:Type}:List (Nat×α)->Nat->α->α
 |[],_,d=>d
 |(a,b)::r,n,d=>bif Nat.beq a n then b else lk r n d
structure Row where
 key:Nat
 pre:List D->Prop
 val:List D->D
structure RowF where
 pre:D->List D->Prop
 val:D->List D->D
 new:D->List D->D
def Row.no:Row:=⟨0,λ_=>False,λ_=>.any⟩
def RowF.no:RowF:=⟨λ_ _=>False,λ_ _=>.any,λ_ _=>.any⟩
section
variable [cL]
section
variable {P:Program}{ν:List (Nat×Nat)}{bN:List Nat}{Y:Ctx}
theorem RD.re {x x':X}(hw:x'.w=x.w)(hI:x'.I=x.I)(hβ:∀l l',mT 0 σ l=some l'->x'.β l'=x.β l){v:Value}{d':D}(hv:RD ν x v d)(hd:RnD 0 σ d d'):RD ν x' v d':=by
 rcases hd with⟨rfl,hn⟩|hd|hd
 .exact hv.aR hn (λ_ h=>by rw[hI];exact h) (λ_ _=>by rw[hw])
 .grind [RD.rn]
 grind [RD.nl]
def oV.re {x x':X}{σ:List (Nat×Nat)}(hw:x'.w=x.w)(hI:x'.I=x.I)(hβ:∀l l',mT 0 σ l=some l'->x'.β l'=x.β l){b base tot:Nat}{b0 blk:bj}(o2:oV ν x b base tot b0)(q3:qm 0 σ b0 blk):oV ν x' b base tot blk:=by
 cases b0 with
 |iter s p=>
  cases blk with
  |iter s' p'=>simp only[qm]at q3;obtain⟨rfl,rfl⟩:=q3;simp only[oV,hw]at o2⊢;exact o2
  |_=>simp[qm]at q3
 |row s=>
  cases blk with
  |row s'=>simp only[qm]at q3;subst q3;simp only[oV,hw]at o2⊢;exact o2
  |_=>simp[qm]at q3
 |bld o n u=>
  cases blk with
  |bld o' n' u'=>
   simp only[qm]at q3;obtain⟨q3,rfl,rfl⟩:=q3;obtain⟨p1,v,p2,p3⟩:=o2;refine⟨p1,v,by rw[hw];exact p2, ?_⟩;cases o with
   |none=>simp only at q3;subst q3;exact p3
   |some l0=>
    obtain⟨l1,q4,rfl⟩:=q3;obtain⟨g,t,p4,p5,p6⟩:=p3;exact⟨g,t,p4,p5,by rw[hβ l0 l1 q4];exact p6⟩
  |_=>simp[qm]at q3
 |mpb s=>
  cases blk with
  |mpb s'=>
   simp only[qm]at q3;subst q3;obtain⟨p1,es2,cl,p2,p3,p4,p5⟩:=o2;exact⟨p1,es2,cl,by rw[hw];exact p2,p3,p4,λi hi=>(p5 i hi).aR (cW p1 i) (λ_ h=>by rw[hI];exact h) (λ_ _=>by rw[hw])⟩
  |_=>simp[qm]at q3
 |buf k es=>
  cases blk with
  |iter s' p'=>simp[qm]at q3
  |row s'=>simp[qm]at q3
  |bld o' n' u'=>simp[qm]at q3
  |mpb s'=>simp[qm]at q3
  |buf k' es'=>
   simp only[qm]at q3;obtain⟨rfl,q3⟩:=q3;obtain⟨p1,p2,cc,T,fr,p3,p4,p5,p6⟩:=o2;rw[<-hw]at p3;rcases q3 with⟨rfl,hn⟩|q3|q3
   .exact⟨p1,p2,cc,T,fr,p3,p4,p5,λi hi=>⟨(p6 i hi).1,λj hj=>⟨((p6 i hi).2 j hj).1,RD.re hw hI hβ ((p6 i hi).2 j hj).2 (.inl ⟨rfl,lO (cW hn i) j⟩)⟩⟩⟩
   .obtain⟨r1,r2⟩:=jY q3;refine⟨p1,ae,cc,T,fr,p3,p4,p5,λi hi=>?_⟩;have hi':i<es.length:=ae;obtain⟨s1,s2⟩:=F9 (r2 i hi');exact⟨s1.trans (p6 i hi').1,λj hj=>⟨((p6 i hi').2 j hj).1,RD.re hw hI hβ ((p6 i hi').2 j hj).2 (.inr (.inl (s2 j (by rw[(p6 i hi').1];exact hj))))⟩⟩
   .obtain⟨r1,r2⟩:=rS q3;refine⟨p1,ae,cc,T,fr,p3,p4,p5,λi hi=>?_⟩;have hi':i<es.length:=ae;obtain⟨s1,s2⟩:=Fi (r2 i hi');exact⟨s1.trans (p6 i hi').1,λj hj=>⟨((p6 i hi').2 j hj).1,RD.re hw hI hβ ((p6 i hi').2 j hj).2 (.inr (.inr (s2 j (by rw[(p6 i hi').1];exact hj))))⟩⟩
theorem Su {lo c:Nat}{l l':Nat}(h0:gN 0 c σ=true)(h:mT 0 σ l=some l'):l'<c/\(l,l')∈σ:=by
 obtain⟨h1,h2⟩:=yh h0 h
 grind
def xq {c:Nat}:∀{σ:List (Nat×Nat)}{a b:Nat},gN 0 c σ=true->(a,b)∈σ->mT 0 σ a=some b
 |[],a,b,_,h=>by cases h
 |(a0,b0)::r,a,b,h0,h=>by
  unfold mT;simp only[gN,aA,List.all_eq_true,cE]at h0;obtain⟨_,_,p4,p5⟩:=h0;rcases bG.1 h with h|h
  .simp only[dj]at h;obtain⟨rfl,rfl⟩:=h;simp
  .have:=(p4 _ h).1;simp only at this;have hne:Nat.beq a0 a=false:=by
    cases hb:Nat.beq a0 a with
    |false=>rfl
    |true=>obtain rfl:=Nat.eq_of_beq_eq_true hb;simp at this
   rw[hne];exact xq p5 h
structure Fr (σi σo:List (Nat×Nat))(q q1:Nat)(m0 m1:List (Nat×bj))(st st':St):Prop where
 oki:gN 0 q σi=true
 oko:gN 0 st'.nx σo=true
 nx:st.nx<=st'.nx
 lt:∀l i,(l,i)∈σi->look st.m l≠none
 io:∀i l,(i,l)∈σo->(l,i)∈σi\/st.nx<=l
 m0:∀i b,look m0 i=some b->∃l b',(l,i)∈σi/\look st.m l=some b'/\qm 0 σi b' b
 m1:∀l b,look st'.m l=some b->(∃i b1,(i,l)∈σo/\look m1 i=some b1/\qm 0 σo b1 b)\/(nZ σo l=none/\(∀i,(l,i)∉σi)/\look st.m l=some b)
def ac3 {fid:Nat}{fn:Func}(hΓ:Ok P ν bN Y)(hmix:P.follows .mixedOrders=true)(hf:P.funcs[fid]? =some fn)(hc:compile P ν bN fn=some af){x:X}{args:Array Value}{cs:List D}{q:Nat}(hl:args.size=ds.length)(hargs:∀i,i<ds.length->RD ν x (args.getD i undef) (ds.getD i .any))(hs:fF ν x (look st.m))(hfr:fj st x)(hlen:cs.length=ds.length)(hds:∀i,i<ds.length->RnD 0 σi (ds.getD i .any) (cs.getD i .any))(hnp:cs.length=af.np)(oki:gN 0 q σi=true)(hlt:∀l i,(l,i)∈σi->look st.m l≠none)(hm0:∀i b,look m0 i=some b->∃l b',(l,i)∈σi/\look st.m l=some b'/\qm 0 σi b' b)(hw:du (Y.at q) af.body (λe env st1=>e.home/\ow st1.m env af.res/\∃(σo:List (Nat×Nat)) (q1:Nat) (m1:List (Nat×bj)) (st':St) (vd':D),Fr σi σo q q1 m0 m1 st st'/\RnD 0 σo (ke af env st1) vd'/\K vd' st'/\∀i,look st1.m i=look m1 i) (fQ af cs) ⟨q,m0⟩):
  Calls P fid args x.w fun
   | .returned v,w'=>∃x' d st',K d st'/\x'.w=w'/\Step x x'/\RD ν x' v d/\fF ν x' (look st'.m)/\fj st' x'
   |_,_=>False:=by
 obtain⟨body,c1,c2,c3,c4,c5,c6⟩:=gE hc
 let x0:X:=⟨x.w,x.I,λi=>(nZ σi i).bind x.β⟩
 have hx0:∀l i,(l,i)∈σi->x0.β i=x.β l:=λl i h=>by simp only[x0,Bu oki h,Option.bind_some]
 have hβ0:∀l i,mT 0 σi l=some i->x0.β i=x.β l:=λl i h=>hx0 l i (Su (lo:=0) oki h).2
 have hx0':∀i p,x0.β i=some p->∃l,(l,i)∈σi/\x.β l=some p/\i<q:=by
  intro i p h;obtain⟨l,h1,h2⟩:=Option.bind_eq_some_iff.1 (show(nZ σi i).bind x.β=some p from h);exact⟨l,mq h1,h2,sY oki (mq h1)⟩
 have hs0:fF ν x0 (look m0):=by
  refine⟨λi blk b base tot e1 e2=>?_,λi j b base tot base' tot' e1 e2 e3 e4=>?_,hs.imm,λi b base tot e=>?_,cL.le x _ (λ_ h=>h) (λ_ _=>rfl) hs.gd⟩
  .obtain⟨l,b',h1,h2,h3⟩:=hm0 i blk e1;rw[hx0 l i h1]at e2;obtain⟨o1,o2⟩:=hs.own l b' b base tot h2 e2;exact⟨o1,oV.re (x:=x) (x':=x0) rfl rfl hβ0 o2 h3⟩
  .obtain⟨l,h1,h2,_⟩:=hx0' i _ e3;obtain⟨l',h1',h2',_⟩:=hx0' j _ e4;have:=hs.inj l l' b base tot base' tot' (hlt _ _ h1) (hlt _ _ h1') h2 h2';subst this;have:=xq oki h1;rw[xq oki h1']at this;exact(aW this).symm
  .obtain⟨l,_,h2,_⟩:=hx0' i _ e;exact hs.ee l b base tot h2
 have hf0:fj ⟨q,m0⟩ x0:=by
  refine⟨λi hi=>?_,λi hi=>?_⟩
  .cases h:x0.β i with
   |none=>rfl
   |some p=>obtain⟨_,_,_,h4⟩:=hx0' i p h;simp only at hi;omega
  .cases h:look m0 i with
   |none=>exact absurd h hi
   |some b=>obtain⟨l,b',h1,_⟩:=hm0 i b h;exact sY oki h1
 have hi:=tC (P:=P) (ν:=ν) (bN:=bN) (x:=x0) (ds:=cs) (st:=⟨q,m0⟩) c4 c5 c6 (args:=args) ae hnp (λi hi=>RD.re (x:=x) (x':=x0) rfl rfl hβ0 (hargs i ae) (hds i ae)) hs0 hf0;have hcs:=qx (C:={P,ν,bN,slots:=slotsOf fn,ntmps:=fn.ntmps,vm:=Qk P fn}) (hΓ.at q) (mF fn).1 hmix x0 (λl h=>hf0.β l h) body af.body c2 _ _ _ _ x0 hw hi (.refl _);refine calls_of_wp hf c1 (wp_mono hcs λe a w' hp=>?_);obtain⟨e',x',env',st1,he,hxw,hst,hi',hh,hro,σo,q1,m1,st',vd',hfm,hvd,hK,hlk⟩:=hp;subst hxw;obtain⟨v,r1,r2,r3⟩:=oS hΓ.small hi' c3 hro
 let x2:X:=⟨x'.w,x'.I,λl=>match nZ σo l with|some i=>x'.β i|none=>x.β l⟩
 have hx2:∀i l,(i,l)∈σo->x2.β l=x'.β i:=λi l h=>by simp only[x2,Bu hfm.oko h]
 have hx2n:∀l,nZ σo l=none->x2.β l=x.β l:=λl h=>by simp only[x2,h]
 have hβ2:∀i l,mT 0 σo i=some l->x2.β l=x'.β i:=λi l h=>hx2 i l (Su (lo:=0) hfm.oko h).2
 have hx0s:∀l i p,(l,i)∈σi->x.β l=some p->x'.β i=some p:=λl i p h e=>hst.β _ _ (by rw[hx0 l i h];exact e)

 have hnew:∀i p,x'.β i=some p->(∃l,(l,i)∈σi/\x.β l=some p)\/x.w.heap.size<=p.1\/∃l p',(∃j,(l,j)∈σi)/\x.β l=some p'/\p'.1=p.1:=by
  intro i p e;rcases hst.newβ i p e with h|h|⟨j,p',h1,h2⟩
  .obtain⟨l,h3,h4,_⟩:=hx0' i p h;exact .inl ⟨l,h3,h4⟩
  .exact .inr (.inl h)
  .obtain⟨l,h3,h4,_⟩:=hx0' j p' h1;exact .inr (.inr ⟨l,p',⟨j,h3⟩,h4,h2⟩)
 have hstep:Step x x2:=by
  refine⟨hst.os,hst.tape,hst.output,hst.size,hst.I,hst.o8,λl p hp=>?_,λb hb hn=>hst.old b hb λi p h e=>?_,λb h=>?_,λl p h=>?_⟩
  .cases h:nZ σo l with
   |none=>rw[hx2n l h];exact hp
   |some i=>
    have hm:=mq h;rw[hx2 i l hm];rcases hfm.io i l hm with h2|h2
    .exact hx0s l i p h2 hp
    .rw[hfr.β l h2]at hp;cases hp
  .obtain⟨l,_,h2,_⟩:=hx0' i p h;exact hn l p h2 e
  .rcases hst.newI b h with h|h|⟨i,p,h1,h2⟩
   .exact .inl h
   .exact .inr (.inl h)
   .obtain⟨l,_,h3,_⟩:=hx0' i p h1;exact .inr (.inr ⟨l,p,h3,h2⟩)
  .cases h1:nZ σo l with
   |none=>rw[hx2n l h1]at h;exact .inl h
   |some i=>
    have hm:=mq h1;rw[hx2 i l hm]at h;rcases hnew i p h with⟨l',h2,h3⟩|h2|⟨l',p',_,h3,h4⟩
    .exact .inr (.inr ⟨l',p,h3,rfl⟩)
    .exact .inr (.inl h2)
    .exact .inr (.inr ⟨l',p',h3,h4⟩)
 have hsim:fF ν x2 (look st'.m):=by
  refine⟨λl blk b base tot e1 e2=>?_,λl1 l2 b base tot base' tot' e1 e2 e3 e4=>?_,hi'.oE.imm,λl b base tot e=>?_,cL.le x' _ (λ_ h=>h) (λ_ _=>rfl) hi'.oE.gd⟩
  .rcases hfm.m1 l blk e1 with⟨i,b1,h1,h2,h3⟩|⟨h1,h2,h3⟩
   .rw[hx2 i l h1]at e2;obtain⟨o1,o2⟩:=hi'.oE.own i b1 b base tot (by rw[hlk];exact h2) e2;exact⟨o1,oV.re (x:=x') (x':=x2) rfl rfl hβ2 o2 h3⟩
   .rw[hx2n l h1]at e2;obtain⟨o1,o2⟩:=hs.own l blk b base tot h3 e2;have hlt:=hs.ee l b base tot e2;have hno:∀i p,x0.β i=some p->p.1≠b:=by
     rintro i ⟨b',base',tot'⟩ h e;simp only at e;subst e;obtain⟨l',h4,h5,_⟩:=hx0' i _ h;have:=hs.inj l' l b' base' tot' base tot (hfm.lt _ _ h4) (by rw[h3];simp) h5 e2;subst this;exact h2 _ h4
    refine⟨λh=>?_,o2.mono hstep.le (hst.old b hlt hno)⟩;rcases hst.newI b h with h|h|⟨i,p,h4,h5⟩
    .exact o1 h
    .exact absurd hlt (Nat.not_lt.2 h)
    .exact hno i p h4 h5
  .have mix:∀l1 l2 base tot base' tot',(∃i b1,(i,l1)∈σo/\look m1 i=some b1)->nZ σo l2=none->(∀i,(l2,i)∉σi)->look st.m l2≠none->x2.β l1=some (b,base,tot)->x2.β l2=some (b,base',tot')->False:=by
    rintro l1 l2 base tot base' tot' ⟨i,b1,h1,h2⟩ h3 h4 h5 e3 e4;rw[hx2 i l1 h1]at e3;rw[hx2n l2 h3]at e4;rcases hnew i _ e3 with⟨l',h6,h7⟩|h6|⟨l',⟨pb,pt,pq⟩,⟨j,h6⟩,h7,h8⟩
    .have:=hs.inj l' l2 b base tot base' tot' (hfm.lt _ _ h6) h5 h7 e4;subst this;exact h4 _ h6
    .have:=hs.ee l2 b base' tot' e4;simp only at h6;omega
    .simp only at h8;subst h8;have:=hs.inj l' l2 pb pt pq base' tot' (hfm.lt _ _ h6) h5 h7 e4;subst this;exact h4 _ h6
   cases f1:look st'.m l1 with
   |none=>exact absurd f1 e1
   |some b1=>
    cases f2:look st'.m l2 with
    |none=>exact absurd f2 e2
    |some b2=>
     rcases hfm.m1 l1 b1 f1 with⟨i,c1,h1,h2,_⟩|⟨h1,h2,h3⟩<;>rcases hfm.m1 l2 b2 f2 with⟨j,c2,k1,k2,_⟩|⟨k1,k2,k3⟩
     .rw[hx2 i l1 h1]at e3;rw[hx2 j l2 k1]at e4;have:=hi'.oE.inj i j b base tot base' tot' (by rw[hlk,h2];simp) (by rw[hlk,k2];simp) e3 e4;subst this;have:=xq hfm.oko h1;rw[xq hfm.oko k1]at this;exact(aW this).symm
     .exact(mix l1 l2 base tot base' tot' ⟨i,c1,h1,h2⟩ k1 k2 (by rw[k3];simp) e3 e4).elim
     .exact(mix l2 l1 base' tot' base tot ⟨j,c2,k1,k2⟩ h1 h2 (by rw[h3];simp) e4 e3).elim
     .rw[hx2n l1 h1]at e3;rw[hx2n l2 k1]at e4;exact hs.inj l1 l2 b base tot base' tot' (by rw[h3];simp) (by rw[k3];simp) e3 e4
  .cases h1:nZ σo l with
   |none=>rw[hx2n l h1]at e;exact jr (hs.ee l b base tot e) hst.size
   |some i=>
    rw[hx2 i l (mq h1)]at e;exact hi'.oE.ee i b base tot e
 have hfr2:fj st' x2:=by
  refine⟨λl hl=>?_,λl hl=>?_⟩
  .cases h1:nZ σo l with
   |none=>rw[hx2n l h1];exact hfr.β l (by have:=hfm.nx;omega)
   |some i=>have:=sY hfm.oko (mq h1);omega
  .cases f1:look st'.m l with
   |none=>exact absurd f1 hl
   |some b1=>
    rcases hfm.m1 l b1 f1 with⟨i,c1,h1,_⟩|⟨_,_,h3⟩
    .exact sY hfm.oko h1
    .have:=hfr.m l (by rw[h3];simp);have:=hfm.nx;omega
 have hrd:=RD.re (ν:=ν) (x:=x') (x':=x2) rfl rfl hβ2 r2 hvd;rcases Ex.BA hh with h|h<;>rw[h]at he<;>subst he<;>exact⟨hi'.defers,v,r1,x2,vd',st',hK,rfl,hstep,hrd,hsim,hfr2⟩
end
end
structure RowT where
 tr:List D->St->(D->St->Prop)->Prop
 mu:List D->St->Nat
 mono:∀(ds:List D) (st:St) (K K':D->St->Prop),(∀d st',K d st'->K' d st')->tr ds st K->tr ds st K'
def RowT.no:RowT:=⟨λ_ _ _=>False,λ_ _=>0,λ_ _ _ _ _ h=>h⟩
def uA (af:aj)(Q:D->List (Nat×bj)->Prop):Ex->List aY->St->Prop:=λe env st=>e.home/\ow st.m env af.res/\∃m1,(∀i,look st.m i=look m1 i)/\Q (ke af env st) m1
def ei {vd:D}{m1:List (Nat×bj)}{e:Ex}{env:List aY}(h1:e.home)(h2:ow st.m env af.res)(h3:ke af env st=vd)(h4:st.m=m1)(h5:Q vd m1):uA af Q e env st:=⟨h1,h2,m1,λi=>by rw[h4],by rw[h3];exact h5⟩
section
variable [cL]{P:Program}{ν:List (Nat×Nat)}{bN:List Nat}{Y:Ctx}
def VT (P:Program)(ν:List (Nat×Nat))(Γ':Ctx)(bN:List Nat)(tr:List D->St->(D->St->Prop)->Prop)(fid:Nat):Prop:=
 ∀(ds:List D) (st:St) (K:D->St->Prop),tr ds st K->Ok P ν bN Γ'->∀(x:X) (args:Array Value),args.size=ds.length->(∀i,i<ds.length->RD ν x (args.getD i undef) (ds.getD i .any))->fF ν x (look st.m)->fj st x->
  jQ P x (λv x'=>∃d st',K d st'/\Step x x'/\RD ν x' v d/\fF ν x' (look st'.m)/\fj st' x') ((callFunc fid args).run P x.w)
end
abbrev RT:=List D->D->Prop
abbrev FT:=D->List D->D->D->Prop
abbrev TT:=List D->St->(D->St->Prop)->Prop
def KT (T:TT):=∀ds st K K',(∀d st',K d st'->K' d st')->T ds st K->T ds st K'
def Hq (A:RT->Prop):RT:=λds d=>∀T,A T->T ds d
def n8 (A:FT->Prop):FT:=λd ds v s=>∀T,A T->T d ds v s
def afV (T:TT):Ctx:=⟨λ_ _=>False,λ_ _=>.any,λ_=>T,λ_ _ _=>False,λ_ _ _=>.any,λ_ _ _=>.any,0⟩
def XQ:TT:=λds st K=>∀T,KT T->C (afV T)->T ds st K
def LN:KT (XQ C):=λ_ _ _ _ h h1 T hT hC=>hT _ _ _ _ h (h1 T hT hC)
def noR:RT:=λ_ _=>False
def noF:FT:=λ_ _ _ _=>False
def noT:TT:=λ_ _ _=>False
def C4:KT noT:=λ_ _ _ _ _ h=>h.elim
structure mL where
 key:Nat
 rel:RT
 mu:List D->Nat
 relF:FT
 tr:TT
 muE:List D->St->Nat
 mono:KT tr
variable(t:List (Nat×mL))
def mu0:List D->Nat:=λ_=>0
def muE0:List D->St->Nat:=λ_ _=>0
def na:mL:=⟨0,noR,mu0,noF,noT,muE0,C4⟩
def rP (k:Nat)(A:RT->Prop)(mu:List D->Nat:=mu0):mL:=⟨k,Hq A,mu,noF,noT,muE0,C4⟩
def rF (k:Nat)(A:FT->Prop):mL:=⟨k,noR,mu0,n8 A,noT,muE0,C4⟩
def rG (k:Nat)(C:Ctx->Prop)(mu:List D->St->Nat:=muE0):mL:=⟨k,noR,mu0,noF,XQ C,mu,LN C⟩
noncomputable def pick (r:D->Prop):D:=Classical.epsilon r
def lP {r:D->Prop}(h:∃d,r d):r (pick r):=Classical.epsilon_spec h
def Det (R:RT):=∀ds d d',R ds d->R ds d'->d=d'
def yB (R:FT):=∀d ds v s v' s',R d ds v s->R d ds v' s'->v=v'/\s=s'
def ahD {A:RT->Prop}(h:A λds d=>A λds' d'=>ds'=ds->d=d'):Det (Hq A):=λds d d' h1 h2=>h2 _ (h1 _ h) rfl
def acC {A:FT->Prop}(h:A λd ds v s=>A λd' ds' v' s'=>d'=d->ds'=ds->v=v'/\s=s'):yB (n8 A):=λd ds v s v' s' h1 h2=>h2 _ (h1 _ h) rfl rfl
noncomputable def EV:Ctx where
 pre n ds:=∃d,(lk t n na).rel ds d
 val n ds:=pick ((lk t n na).rel ds)
 tr n:=(lk t n na).tr
 fp n d ds:=∃v s,(lk t n na).relF d ds v s
 fv n d ds:=pick λv=>∃s,(lk t n na).relF d ds v s
 fs n d ds:=pick λs=>∃v,(lk t n na).relF d ds v s
 lo:=0
def Zv:Rank:=⟨λn=>(lk t n na).key,λn=>(lk t n na).mu,λn=>(lk t n na).muE⟩
noncomputable abbrev under (t:List (Nat×mL))(k u:Nat):Ctx:=(EV t).under (Zv t) k u
def Gu (k u n:Nat):(((EV t).under (Zv t) k u).at n).bU:=
 λf ds st K K' h hh=>⟨hh.1,(lk t f na).mono ds st K K' h hh.2⟩
section
variable {t:List (Nat×mL)}{u:Nat}{v s:D}
def okp (hD:Det (lk t n na).rel)(hk:(lk t n na).key<k\/(lk t n na).key=k/\(lk t n na).mu ds<u)(h:(lk t n na).rel ds d):(under t k u).pre n ds/\(under t k u).val n ds=d:=
 ⟨⟨hk,d,h⟩,hD _ _ _ (lP ⟨d,h⟩) h⟩
def okf (hD:yB (lk t n na).relF)(hk:(lk t n na).key<k)(h:(lk t n na).relF d ds v s):(under t k u).fp n d ds/\(under t k u).fv n d ds=v/\(under t k u).fs n d ds=s:=by
 refine⟨⟨.inl hk,v,s,h⟩, ?_, ?_⟩
 .obtain⟨s',h'⟩:=lP (r:=λv=>∃s,(lk t n na).relF d ds v s) ⟨v,s,h⟩;exact(hD _ _ _ _ _ _ h' h).1
 .obtain⟨v',h'⟩:=lP (r:=λs=>∃v,(lk t n na).relF d ds v s) ⟨s,v,h⟩;exact(hD _ _ _ _ _ _ h' h).2
def R5 (hk:(lk t n na).key<k\/(lk t n na).key=k/\(lk t n na).muE ds st<u)(h:(lk t n na).tr ds st K):(under t k u).tr n ds st K:=⟨hk,h⟩
end
section
variable [cL]{P:Program}{ν:List (Nat×Nat)}{bN:List Nat}{Y:Ctx}{t:List (Nat×mL)}{fid key:Nat}
def KQ (P:Program)(ν:List (Nat×Nat))(bN:List Nat)(Y:Ctx)(fid:Nat)(ds:List D)(d:D):Prop:=Ok P ν bN Y->∀(x:X) (args:Array Value),args.size=ds.length->(∀i,i<ds.length->RD ν x (args.getD i undef) (ds.getD i .any))->aK ds=true->
  (∀b,x.I b->b<x.w.heap.size)->cL.gd x->jQ P x (λv x'=>nQ x x'/\RD ν x' v d) ((callFunc fid args).run P x.w)
def QR (P:Program)(ν:List (Nat×Nat))(bN:List Nat)(Y:Ctx)(fid:Nat)(d:D)(ds:List D)(vd new:D):Prop:=Ok P ν bN Y->∀(x:X) (f:Nat->Option bj) (args:Array Value) (l k:Nat),args.size=ds.length+1->
   RD ν x (args.getD 0 undef) (.ptr l k 0 0)->(∀i,i<ds.length->RD ν x (args.getD (i+1) undef) (ds.getD i .any))->fF ν x f->f l=some (.buf k [d])->d.aR=true->aK ds=true->
   jQ P x (λv x'=>Step x x'/\RD ν x' v vd/\fF ν x' (λl'=>if l'=l then some (.buf k [new])else f l')/\x'.β=x.β) ((callFunc fid args).run P x.w)
def uL (P:Program)(ν:List (Nat×Nat))(bN:List Nat)(Y:Ctx)(fid:Nat)(ds:List D)(st:St)(K:D->St->Prop):Prop:=Ok P ν bN Y->∀(x:X) (args:Array Value),args.size=ds.length->(∀i,i<ds.length->RD ν x (args.getD i undef) (ds.getD i .any))->fF ν x (look st.m)->fj st x->
  jQ P x (λv x'=>∃d st',K d st'/\Step x x'/\RD ν x' v d/\fF ν x' (look st'.m)/\fj st' x') ((callFunc fid args).run P x.w)
structure Owe (P:Program)(ν:List (Nat×Nat))(bN:List Nat)(t:List (Nat×mL))(fid n:Nat):Prop where
 p:∀ds d,(lk t n na).rel ds d->KQ P ν bN (under t (lk t n na).key ((lk t n na).mu ds)) fid ds d
 f:yB (lk t n na).relF/\∀d ds v s,(lk t n na).relF d ds v s->QR P ν bN (under t (lk t n na).key ((lk t n na).mu (d::ds))) fid d ds v s
 g:∀ds st K,(lk t n na).tr ds st K->uL P ν bN (under t (lk t n na).key ((lk t n na).muE ds st)) fid ds st K
def okA (hsm:∀fid n,dN ν fid=some n->n<1000000)(hB:∀t,bN.contains (1000000000+t)=true->t=cL.tB)(hG:∀g,bN.contains (500000000+g)=true/\g<400000000->cL.gz g)(h:∀fid n,dN ν fid=some n->Owe P ν bN t fid n):Ok P ν bN (EV t):=by
 refine ok_of (Zv t) hsm hB hG (λfid n hn ds hp hok=>(h fid n hn).p ds _ (lP hp) hok) (λfid n hn _ d ds hp hok=>?_) (λfid n hn ds st K htr hok=>(h fid n hn).g ds st K htr hok);obtain⟨v,s,hr⟩:=hp;obtain⟨hD,hf⟩:=(h fid n hn).f;have h2:(EV t).fv n d ds=v/\(EV t).fs n d ds=s:=by
  constructor
  .obtain⟨s',h'⟩:=lP (r:=λv=>∃s,(lk t n na).relF d ds v s) ⟨v,s,hr⟩;exact(hD _ _ _ _ _ _ h' hr).1
  .obtain⟨v',h'⟩:=lP (r:=λs=>∃v,(lk t n na).relF d ds v s) ⟨s,v,hr⟩;exact(hD _ _ _ _ _ _ h' hr).2
 rw[h2.1,h2.2];exact hf d ds v s hr hok
def HF {Y:D->List D->Ctx}:yB noF/\∀d ds v s,noF d ds v s->QR P ν bN (Y d ds) fid d ds v s:=⟨λ_ _ _ _ _ _ h=>h.elim,λ_ _ _ _ h=>h.elim⟩
def aM {A:RT->Prop}{mu:List D->Nat}(hr:lk t n na=rP key A mu)(h:A λds d=>KQ P ν bN (under t key (mu ds)) fid ds d):Owe P ν bN t fid n:=by
 refine⟨?_, ?_, ?_⟩<;>rw[hr]
 .exact λds d hd=>hd (λds d=>KQ P ν bN (under t key (mu ds)) fid ds d) h
 .exact HF
 .exact λ_ _ _ h=>h.elim
def Pf {A:FT->Prop}(hr:lk t n na=rF key A)(hD:yB (n8 A))(h:A λd ds v s=>QR P ν bN (under t key 0) fid d ds v s):Owe P ν bN t fid n:=by
 refine⟨?_, ?_, ?_⟩<;>rw[hr]
 .exact λ_ _ h=>h.elim
 .exact⟨hD,λd ds v s hd=>hd _ h⟩
 .exact λ_ _ _ h=>h.elim
def TQ {Y:List D->St->Ctx}:KT λds st K=>uL P ν bN (Y ds st) fid ds st K:=λds st K K' h hg hok x args hl ha hs hf=>(hg hok x args hl ha hs hf).mono λv x' ⟨d,st',h1,h2⟩=>⟨d,st',h _ _ h1,h2⟩
def y3 {C:Ctx->Prop}{mu:List D->St->Nat}(hr:lk t n na=rG key C mu)(h:C (afV λds st K=>uL P ν bN (under t key (mu ds st)) fid ds st K)):Owe P ν bN t fid n:=by
 refine⟨?_, ?_, ?_⟩<;>rw[hr]
 .exact λ_ _ h=>h.elim
 .exact HF
 .exact λds st K hd=>hd (λds st K=>uL P ν bN (under t key (mu ds st)) fid ds st K) TQ h
def Vn (P:Program)(ν:List (Nat×Nat))(bN:List Nat)(fid:Nat)(af:aj):Prop:=(P.funcs[fid]?).map (λf=>(compile P ν bN f,f.name== "runtime.NumGoroutine"))=some (some af,false)
theorem Vn.split (h:Vn P ν bN fid af):∃fn,P.funcs[fid]? =some fn/\compile P ν bN fn=some af/\(fn.name== "runtime.NumGoroutine")=false:=by
 grind [Vn]
def av (hmix:P.follows .mixedOrders=true)(hC:Vn P ν bN fid af)(h1:ds.length=af.np)(h2:du (Y.at 0) af.body (N4 af d) (fQ af ds) ⟨0,[]⟩):KQ P ν bN Y fid ds d:=by
 intro hok x args hl hargs hnl himm hgd;obtain⟨fn,hf,hc,hn⟩:=hC.split;obtain⟨body,c1,_⟩:=gE hc;exact .inr ⟨fid,args,hY hf hn (by rw[c1];rfl) args x.w,ac4 hok hmix hf hc hl hargs hnl himm hgd h1 h2⟩
theorem Cu {vd new:D}(k0:Nat)(hmix:P.follows .mixedOrders=true)(hC:Vn P ν bN fid af)(h1:ds.length+1=af.np)(hk:d.cells.length=k0)(h2:du (Y.at 1) af.body (GP af k0 vd new) (fQ af (.ptr 0 k0 0 0::ds)) ⟨1,[(0,.buf k0 [d])]⟩):QR P ν bN Y fid d ds vd new:=by
 intro hok x f args l k hl h0 hargs hs hfl hd hnl;obtain⟨fn,hf,hc,hn⟩:=hC.split;obtain⟨body,c1,_⟩:=gE hc;have hkk:k=k0:=by
  generalize args.getD 0 undef=v0 at h0;cases h0 with
  |ptr _ _ _ _ b base tot at_ hβ hat=>
   obtain⟨p1,p2,c,T,fr,p3,p4,p5,p6⟩:=(hs.own l _ b base tot hfl hβ).2;have:=(p6 0 aC).1
   grind
 subst hkk;exact .inr ⟨fid,args,hY hf hn (by rw[c1];rfl) args x.w,ac2 hok hmix hf hc hl h0 hargs hs hfl hd hnl h1 h2⟩
theorem Ly {q:Nat}{cs:List D}(hmono:∀q,(Y.at q).bU)(hmix:P.follows .mixedOrders=true)(hC:Vn P ν bN fid af)(h1:cs.length=ds.length)(h2:∀i,i<ds.length->RnD 0 σi (ds.getD i .any) (cs.getD i .any))(h3:cs.length=af.np)(h4:gN 0 q σi=true)(h5:∀l i,(l,i)∈σi->look st.m l≠none)(h6:∀i b,look m0 i=some b->∃l b',(l,i)∈σi/\look st.m l=some b'/\qm 0 σi b' b)(h7:du (Y.at q) af.body (uA af Q) (fQ af cs) ⟨q,m0⟩)(h8:∀d m1,Q d m1->∃(σo:List (Nat×Nat)) (q1:Nat) (st':St) (vd':D),Fr σi σo q q1 m0 m1 st st'/\RnD 0 σo d vd'/\K vd' st'):uL P ν bN Y fid ds st K:=by
 intro hok x args hl hargs hs hfr;obtain⟨fn,hf,hc,hn⟩:=hC.split;obtain⟨body,c1,_⟩:=gE hc;refine .inr ⟨fid,args,hY hf hn (by rw[c1];rfl) args x.w, ?_⟩;refine Calls.mono (ac3 (K:=K) hok hmix hf hc hl hargs hs hfr h1 h2 h3 h4 h5 h6 (ik (hmono q) _ _ _ _ _ (λe env st1 h=>?_) h7)) λe w' he=>?_
 .obtain⟨g1,g2,m1,g3,g4⟩:=h
  grind
 grind
end
theorem kQ {α:Type}{f:α->D}(hf:∀x y,f x=f y↔x=y):∀a b:List α,a.map f=b.map f↔a=b
 |[],[]=>aC
 |[],_::_=>aC
 |_::_,[]=>aC
 |x::a,y::b=>by simp only[List.map_cons,sV,hf,kQ hf a b]
def iNat (a b:Nat):((a:Nat):Int)=(b:Nat)↔a=b:=ae
theorem iU8 (x y:UInt8):((x.toNat:Nat):Int)=(y.toNat:Nat)↔x=y:=(iNat _ _).trans pw
def Xz (a b:List au):a.map D.str=b.map D.str↔a=b:=kQ (λ_ _=>aC) a b
def TX (a b:List Int):a.map (D.int .i64)=b.map (D.int .i64)↔a=b:=kQ (λ_ _=>aC) a b
theorem iByt (a b:au):(a.map λc=>D.int .u8 c.toNat)=(b.map λc=>D.int .u8 c.toNat)↔a=b:=by grind [kQ,iU8]
def iVer (a b:bV):bV.D a=bV.D b↔a=b:=by cases a;cases b;simp[bV.D]
end Go.Abs
