/- A part of the proofs. -/
import Derived.IntWalk
import Derived.KernelRfl
import Derived.Lib.TrimUEq
import Derived.Test.YtdhangmdmdegpaaGreatDoorP04
set_option linter.all false
set_option maxRecDepth 60000
set_option maxHeartbeats 2000000
namespace Go.Abs
variable{fx fy draw t:Bool}{x y z:Src}{m2 m':Γ}{next:Φ->St->Prop}{k n l L lo nx l' j i0:Nat}{a b c:Int}{α ι:Type}{k2 kk k3:IntKind}{σ cm:Ξ}{sh:Ι}{args:ς}{r:AC}{env' env:Φ}{ps:ψ}{ins:Υ}
section
variable {Y:Ctx}{Q Q':Ex->Φ->St->Prop}{st:St}
def Ctx.bU (Z:Ctx):=∀f ds st (K K':Τ),(∀d st,K d st->K' d st)->Z.tr f ds st K->Z.tr f ds st K'
def iS {draw:Bool}{K K':Φ->St->Prop}(h:∀vs st,K vs st->K' vs st)(htr:Y.bU):∀(l:Υ) (env vs:Φ) (st:St),fg Y draw l env vs st K->fg Y draw l env vs st K'
 |[],env,vs,st,hh=>h _ _ hh
 |⟨i,g⟩::r,env,vs,st,hh=>by
  cases hcm:i.cR with
  |true=>
   cases i<;>simp only[aA.cR]at hcm<;>try(cases hcm;done)
   .exact⟨hh.1,λhf=>⟨(hh.2.1 hf).1,htr _ _ _ _ _ (λd st' ⟨h1,h2⟩=>⟨h1,iS h htr r _ _ _ h2⟩) (hh.2.1 hf).2⟩,λhf=>iS h htr r _ _ _ (hh.2.2 hf)⟩
   .rename_i fv args;simp only[fg]at hh⊢;refine⟨hh.1,λhf=>⟨(hh.2.1 hf).1,(hh.2.1 hf).2.1, ?_⟩,λhf=>iS h htr r _ _ _ (hh.2.2 hf)⟩;have h3:=(hh.2.1 hf).2.2;cases hd:(Src.ev env vs fv).d<;>simp only[hd]at h3⊢;exact⟨h3.1,htr _ _ _ _ _ (λd st' ⟨h1,h2⟩=>⟨h1,iS h htr r _ _ _ h2⟩) h3.2⟩
   .exact⟨hh.1,λhf=>⟨(hh.2.1 hf).1,(hh.2.1 hf).2.1,λb hb=>iS h htr r _ _ _ ((hh.2.1 hf).2.2 b hb)⟩,λhf=>iS h htr r _ _ _ (hh.2.2 hf)⟩
  |false=>
   cases hf:i.lH draw g with
   |true=>
    rw[zR hcm hf]at hh⊢;exact⟨hh.1,λe=>⟨(hh.2.1 e).1,iS h htr r _ _ _ (hh.2.1 e).2⟩,λe=>iS h htr r _ _ _ (hh.2.2 e)⟩
   |false=>
    rw[nZ hcm hf]at hh⊢;exact⟨hh.1,hh.2.1,λha=>(hh.2.2 ha).imp λ_ h2=>⟨h2.1,iS h htr r _ _ _ h2.2⟩⟩
def Gh.mono {p q:Φ->St->Prop}(h:∀env st,p env st->q env st):Gh lo p env st->Gh lo q env st
 |⟨e,s,h1,h2⟩=>⟨e,s,h1,h _ _ h2⟩
def Gh.intro {p:Φ->St->Prop}(h:p env st):Gh lo p env st:=⟨env,st,.refl _ _,h⟩
def iv (htr:Y.bU):∀(a:AC) (Q Q':Ex->Φ->St->Prop) (env:Φ) (st:St),(∀e env st,Q e env st->Q' e env st)->dD Y a Q env st->dD Y a Q' env st
 | .reg draw ins cm,Q,Q',env,st,h,hh=>Gh.mono (λenv st h2=>iS (λvs st=>h _ _ _) htr _ _ _ _ h2) hh
 | .seq a b,Q,Q',env,st,h,hh=>Gh.mono (λenv st h2=>iv htr a _ _ env st (λe env st h2=>by
   cases e with
   |normal=>exact iv htr b Q Q' env st h h2
   |exit id=>exact h _ _ _ h2
   |ret=>exact h _ _ _ h2) h2) hh
 | .cond c a b,Q,Q',env,st,h,hh=>Gh.mono (λenv st h2=>by
  refine⟨h2.1, ?_⟩;have:=h2.2;cases hd:(c.ev env []).d<;>simp only[hd]at this⊢;exact⟨λht=>iv htr a Q Q' env st h (this.1 ht),λht=>iv htr b Q Q' env st h (this.2 ht)⟩) hh
 | .block id a,Q,Q',env,st,h,hh=>Gh.mono (λenv st h2=>iv htr a _ _ env st (λe env st h2=>by
   cases e with
   |normal=>exact h _ _ _ h2
   |exit j=>simp only at h2⊢;split<;>rename_i hj<;>simp only[hj,br,ba]at h2<;>exact h _ _ _ h2
   |ret=>exact h _ _ _ h2) h2) hh
 | .loop a,Q,Q',env,st,h,hh=>Gh.mono (λenv st h2=>by
  obtain⟨I,μ,h1,h2⟩:=h2;refine⟨I,μ,h1,λenv st hi=>iv htr a _ _ env st (λe env' st' h3=>?_) (h2 env st hi)⟩;cases e with
  |normal=>exact h3
  |exit id=>exact h _ _ _ h3
  |ret=>exact h _ _ _ h3) hh
 | .exit id,Q,Q',env,st,h,hh=>Gh.mono (λ_ _=>h _ _ _) hh
 | .ret,Q,Q',env,st,h,hh=>Gh.mono (λ_ _=>h _ _ _) hh
 | .skip,Q,Q',env,st,h,hh=>Gh.mono (λ_ _=>h _ _ _) hh
def iu {a:AC}{st':St}(g:a8 Y.lo env st env' st')(h:dD Y a Q env' st'):dD Y a Q env st:=by
 cases a<;>(obtain⟨e2,s2,g2,h2⟩:=h;exact⟨e2,s2,.trans _ _ _ _ _ _ g g2,h2⟩)
def BQ (Y:Ctx)(id:Nat)(r:AC)(Q:Ex->Φ->St->Prop):Ex->Φ->St->Prop:=λe env st=>match e with
 | .normal=>dD Y r Q env st
 | .exit j=>if j=id then dD Y r Q env st else Q (.exit j) env st
 | .ret=>Q .ret env st
def LQ (Y:Ctx)(id:Nat)(r:AC)(next:Φ->St->Prop)(Q:Ex->Φ->St->Prop):Ex->Φ->St->Prop:=λe env st=>match e with
 | .normal=>next env st
 | .exit j=>if j=id then dD Y r Q env st else Q (.exit j) env st
 | .ret=>Q .ret env st
def BQ.normal {id:Nat}(h:dD Y r Q env st):BQ Y id r Q .normal env st:=h
def BQ.out {id:Nat}(h:dD Y r Q env st):BQ Y id r Q (.exit id) env st:=by simp only[BQ,br];exact h
def BQ.other {id:Nat}(hj:(j==id)=false)(h:Q (.exit j) env st):BQ Y id r Q (.exit j) env st:=by simp only[BQ,ah nU];exact h
def BQ.ret {id:Nat}(h:Q .ret env st):BQ Y id r Q .ret env st:=h
def LQ.normal {id:Nat}(h:next env st):LQ Y id r next Q .normal env st:=h
def LQ.out {id:Nat}(h:dD Y r Q env st):LQ Y id r next Q (.exit id) env st:=by simp only[LQ,br];exact h
def LQ.other {id:Nat}(hj:(j==id)=false)(h:Q (.exit j) env st):LQ Y id r next Q (.exit j) env st:=by simp only[LQ,ah nU];exact h
def LQ.ret {id:Nat}(h:Q .ret env st):LQ Y id r next Q .ret env st:=h
def gu {a b c:AC}(h:dD Y (.seq a (.seq b c)) Q env st):dD Y (.seq (.seq a b) c) Q env st:=by
 obtain⟨e1,s1,g1,h1⟩:=h;refine⟨e1,s1,g1,e1,s1,.refl _ _, ?_⟩;have:∀(Q1 Q2:Ex->Φ->St->Prop),Q1=Q2->dD Y a Q1 e1 s1->dD Y a Q2 e1 s1:=λ_ _ e h=>e▸h
 refine this _ _ ?_ h1;funext e env st;cases e with
 |normal=>exact propext ⟨λ⟨e2,s2,g2,h2⟩=>iu g2 h2,λh=>⟨_,_,.refl _ _,h⟩⟩
 |exit id=>rfl
 |ret=>rfl
def gv {b:AC}(h:dD Y b Q env st):dD Y (.seq .skip b) Q env st:=.intro (.intro h)
def wp_skip (h:Q .normal env st):dD Y .skip Q env st:=.intro h
def Hq {b:AC}(h:Q .ret env st):dD Y (.seq .ret b) Q env st:=.intro (.intro h)
def wp_ret (h:Q .ret env st):dD Y .ret Q env st:=.intro h
def oV {id:Nat}{b:AC}(h:Q (.exit id) env st):dD Y (.seq (.exit id) b) Q env st:=.intro (.intro h)
def wp_exit {id:Nat}(h:Q (.exit id) env st):dD Y (.exit id) Q env st:=.intro h
def mP {id:Nat}{a:AC}(h:dD Y a (BQ Y id r Q) env st)(htr:Y.bU):dD Y (.seq (.block id a) r) Q env st:=by
 refine .intro (.intro (iv htr a _ _ _ _ (λe env st h=>?_) h));cases e with
 |normal=>exact h
 |exit j=>simp only[BQ]at h⊢;split<;>rename_i hj<;>simp only[hj,br,ba]at h<;>exact h
 |ret=>exact h
def wp_block {id:Nat}{a:AC}(h:dD Y a (BQ Y id .skip Q) env st)(htr:Y.bU)(hQ:∀e env env' st st',a8 Y.lo env st env' st'->Q e env' st'->Q e env st):dD Y (.block id a) Q env st:=by
 refine .intro (iv htr a _ _ _ _ (λe env st h=>?_) h);have hs:∀env st,dD Y .skip Q env st->Q .normal env st:=λenv st ⟨e2,s2,g2,h2⟩=>hQ _ _ _ _ _ g2 h2
 cases e with
 |normal=>exact hs _ _ h
 |exit j=>simp only[BQ]at h⊢;split<;>rename_i hj<;>simp only[hj,br,ba]at h<;>first|exact hs _ _ h|exact h
 |ret=>exact h
def CQ (next:Φ->St->Prop)(Q:Ex->Φ->St->Prop):Ex->Φ->St->Prop:=λe env st=>match e with
 | .normal=>next env st
 | .exit j=>Q (.exit j) env st
 | .ret=>Q .ret env st
def CQ.normal (h:next env st):CQ next Q .normal env st:=h
def CQ.other (h:Q (.exit j) env st):CQ next Q (.exit j) env st:=h
def CQ.ret (h:Q .ret env st):CQ next Q .ret env st:=h
def OU (id:Nat)(Q:Ex->Φ->St->Prop):Ex->Φ->St->Prop:=λe env st=>match e with
 | .normal=>Q .normal env st
 | .exit j=>if j=id then Q .normal env st else Q (.exit j) env st
 | .ret=>Q .ret env st
def OU.normal {id:Nat}(h:Q .normal env st):OU id Q .normal env st:=h
def OU.out {id:Nat}(h:Q .normal env st):OU id Q (.exit id) env st:=by simp only[OU,br];exact h
theorem OU.other {id:Nat}(hj:(j==id)=false)(h:Q (.exit j) env st):OU id Q (.exit j) env st:=by grind [OU]
def OU.ret {id:Nat}(h:Q .ret env st):OU id Q .ret env st:=h
def lY {id:Nat}{a:AC}(h:dD Y a (OU id Q) env st)(htr:Y.bU):dD Y (.block id a) Q env st:=by
 refine .intro (iv htr a _ _ _ _ (λe env st h=>?_) h);cases e with
 |normal=>exact h
 |exit j=>simp only[OU]at h⊢;split<;>rename_i hj<;>simp only[hj,br,ba]at h<;>exact h
 |ret=>exact h
def rE (htr:Y.bU){a b:AC}(F:ι->Φ)(G:ι->Γ)(c:Nat)(P:ι->Prop)(h1:dD Y a (CQ (λenv' st'=>∃j,P j/\a8 Y.lo env' st' (F j) ⟨c,G j⟩) Q) env st)(h2:∀i,P i->dD Y b Q (F i) ⟨c,G i⟩):dD Y (.seq a b) Q env st:=by
 refine .intro (iv htr a _ _ _ _ (λe env st h=>?_) h1);cases e with
 |normal=>obtain⟨j,hj,g⟩:=h;exact iu g (h2 j hj)
 |exit j=>exact h
 |ret=>exact h
def gE (htr:Y.bU){a:AC}{id:Nat}(F:ι->Φ)(G:ι->Γ)(c:Nat)(P:ι->Prop)(μ:ι->Nat)(i0:ι)(hP:P i0)(h0:a8 Y.lo env st (F i0) ⟨c,G i0⟩)(hr:∀i,P i->dD Y a (LQ Y id r (λenv' st'=>∃j,P j/\μ j<μ i/\a8 Y.lo env' st' (F j) ⟨c,G j⟩) Q) (F i) ⟨c,G i⟩):dD Y (.seq (.block id (.loop a)) r) Q env st:=by
 let W:Φ->St->Nat->Prop:=λenv st k=>∃i,env=F i/\st=⟨c,G i⟩/\P i/\μ i=k
 have least:∀env st,(∃k,W env st k)->∃k,W env st k/\∀k',W env st k'->k<=k':=by
  intro env st ⟨k,hk⟩;induction k using Nat.strongRecOn with
  |_ k ih=>
   by_cases h:∃k',k'<k/\W env st k'
   .obtain⟨k',h1,h2⟩:=h;exact ih k' h1 h2
   .exact⟨k,hk,λk' hk'=>by
     rcases dX k' k with h1|h1
     .exact absurd ⟨k',h1,hk'⟩ h
     .exact h1⟩
 open Classical in
 refine .intro (.intro ⟨_,_,h0,λenv st=>∃k,W env st k,λenv st=>if h:∃k,W env st k then Classical.choose (least env st h)else 0,⟨_,i0,rfl,rfl,hP,rfl⟩,λenv st hk=>?_⟩);obtain⟨⟨i,e1,e2,e3,e5⟩,hmin⟩:=Classical.choose_spec (least env st hk);have:=hr i e3;rw[<-e1,<-e2]at this;refine iv htr a _ _ env st ?_ this
 .intro e env' st' h;cases e with
  |normal=>
   obtain⟨j,b3,b5,g⟩:=h;have hW:W (F j) ⟨c,G j⟩ (μ j):=⟨j,rfl,rfl,b3,rfl⟩;refine⟨F j,⟨c,G j⟩,g,⟨_,hW⟩, ?_⟩;show(if h:∃k,W (F j) ⟨c,G j⟩ k then Classical.choose (least _ _ h)else 0)<(if h:∃k,W env st k then Classical.choose (least env st h)else 0);rw[dif_pos ⟨_,hW⟩,dif_pos hk,<-e5];exact Nat.lt_of_le_of_lt ((Classical.choose_spec (least _ _ ⟨_,hW⟩)).2 _ hW) b5
  |exit j=>simp only[LQ]at h⊢;split<;>rename_i hj<;>simp only[hj,br,ba]at h<;>exact h
  |ret=>exact h
def BZ (id:Nat)(next:Φ->St->Prop)(Q:Ex->Φ->St->Prop):Ex->Φ->St->Prop:=λe env st=>match e with
 | .normal=>next env st
 | .exit j=>if j=id then Q .normal env st else Q (.exit j) env st
 | .ret=>Q .ret env st
def BZ.normal {id:Nat}(h:next env st):BZ id next Q .normal env st:=h
def BZ.out {id:Nat}(h:Q .normal env st):BZ id next Q (.exit id) env st:=by simp only[BZ,br];exact h
theorem BZ.other {id:Nat}(hj:(j==id)=false)(h:Q (.exit j) env st):BZ id next Q (.exit j) env st:=by grind [BZ]
def BZ.ret {id:Nat}(h:Q .ret env st):BZ id next Q .ret env st:=h
def Ju (htr:Y.bU){a:AC}{id:Nat}(F:ι->Φ)(G:ι->Γ)(c:Nat)(P:ι->Prop)(μ:ι->Nat)(i0:ι)(hP:P i0)(h0:a8 Y.lo env st (F i0) ⟨c,G i0⟩)(hr:∀i,P i->dD Y a (BZ id (λenv' st'=>∃j,P j/\μ j<μ i/\a8 Y.lo env' st' (F j) ⟨c,G j⟩) Q) (F i) ⟨c,G i⟩):dD Y (.block id (.loop a)) Q env st:=by
 let W:Φ->St->Nat->Prop:=λenv st k=>∃i,env=F i/\st=⟨c,G i⟩/\P i/\μ i=k
 have least:∀env st,(∃k,W env st k)->∃k,W env st k/\∀k',W env st k'->k<=k':=by
  intro env st ⟨k,hk⟩;induction k using Nat.strongRecOn with
  |_ k ih=>
   by_cases h:∃k',k'<k/\W env st k'
   .obtain⟨k',h1,h2⟩:=h;exact ih k' h1 h2
   .exact⟨k,hk,λk' hk'=>by
     rcases dX k' k with h1|h1
     .exact absurd ⟨k',h1,hk'⟩ h
     .exact h1⟩
 open Classical in
 refine .intro ⟨_,_,h0,λenv st=>∃k,W env st k,λenv st=>if h:∃k,W env st k then Classical.choose (least env st h)else 0,⟨_,i0,rfl,rfl,hP,rfl⟩,λenv st hk=>?_⟩;obtain⟨⟨i,e1,e2,e3,e5⟩,hmin⟩:=Classical.choose_spec (least env st hk);have:=hr i e3;rw[<-e1,<-e2]at this;refine iv htr a _ _ env st ?_ this
 .intro e env' st' h;cases e with
  |normal=>
   obtain⟨j,b3,b5,g⟩:=h;have hW:W (F j) ⟨c,G j⟩ (μ j):=⟨j,rfl,rfl,b3,rfl⟩;refine⟨F j,⟨c,G j⟩,g,⟨_,hW⟩, ?_⟩;show(if h:∃k,W (F j) ⟨c,G j⟩ k then Classical.choose (least _ _ h)else 0)<(if h:∃k,W env st k then Classical.choose (least env st h)else 0);rw[dif_pos ⟨_,hW⟩,dif_pos hk,<-e5];exact Nat.lt_of_le_of_lt ((Classical.choose_spec (least _ _ ⟨_,hW⟩)).2 _ hW) b5
  |exit j=>simp only[BZ]at h⊢;split<;>rename_i hj<;>simp only[hj,br,ba]at h<;>exact h
  |ret=>exact h
def nth:Φ->Nat->a7
 |[],_=>.un
 |a::_,0=>a
 |_::r,n+1=>nth r n
def DM:∀(l:Φ) (n:Nat),l.getD n .un=nth l n
 |[],n=>by simp[nth]
 |a::_,0=>by simp[nth]
 |_::r,n+1=>by simpa[nth]using DM r n
def bV (env rs:Φ):Src->a7
 | .s n=>nth env n
 | .l p=>bif Nat.blt p rs.length then nth rs (rs.length-1-p)else .un
 | .c d=>⟨true,d⟩
theorem po (env rs:Φ):Src.ev env rs.reverse=bV env rs:=by
 funext s;cases s with
 |s n=>exact DM env n
 |l p=>
  simp only[Src.ev,bV];cases h:Nat.blt p rs.length with
  |true=>
   have:p<rs.length:=by simp[Nat.blt]at h;omega
   rw[cond_true,<-DM]
   grind
  |false=>
   have:¬p<rs.length:=by intro e;have:Nat.blt p rs.length=true:=by {simp[Nat.blt];omega};rw[this]at h;cases h
   grind
 |c d=>rfl
def aC (Y:Ctx)(draw:Bool)(l:Υ)(env rs:Φ)(nx:Nat)(m:Γ)(K:Φ->St->Prop):Prop:=fg Y draw l env rs.reverse ⟨nx,m⟩ K
def XH (env rs:Φ):Ξ->Φ
 |[]=>env
 |(s,p)::r=>XH (env.set s (bV [] rs (.l p))) rs r
theorem Pn (rs:Φ):∀(cm:Ξ) (env:Φ),iG env rs.reverse cm=XH env rs cm
 |[],env=>rfl
 |(s,p)::r,env=>by
  simp only[iG,XH];rw[Pn rs r,<-congrFun (po [] rs) (.l p)];rfl
def aS {b:AC}{m:Γ}(h:aC Y draw ins env [] nx m (λvs st'=>dD Y b Q (iG env vs cm) st')):dD Y (.seq (.reg draw ins cm) b) Q env ⟨nx,m⟩:=.intro (.intro h)
def pV {m:Γ}(h:aC Y draw ins env [] nx m (λvs st'=>Q .normal (iG env vs cm) st')):dD Y (.reg draw ins cm) Q env ⟨nx,m⟩:=.intro h
theorem bg {b:AC}{nx':Nat}{m:Γ}{rs fV:Φ}(h:dD Y b Q env' ⟨nx',m⟩)(he:XH env rs cm=env':=by exact rfl)(hn:nx+rs.length=nx':=by exact Ab):aC Y draw [] fV rs nx m (λvs st'=>dD Y b Q (iG env vs cm) st'):=by
 grind [aC,fg,Pn]
theorem nN {nx':Nat}{m:Γ}{rs fV:Φ}(h:Q .normal env' ⟨nx',m⟩)(he:XH env rs cm=env':=by exact rfl)(hn:nx+rs.length=nx':=by exact Ab):aC Y draw [] fV rs nx m (λvs st'=>Q .normal (iG env vs cm) st'):=by
 grind [aC,fg,Pn]
def aQ {c:Src}{a b:AC}(h1:t=true->dD Y (.seq a r) Q env st)(h2:t=false->dD Y (.seq b r) Q env st)(hc:bV env [] c=⟨true,.bool t⟩:=by exact rfl):dD Y (.seq (.cond c a b) r) Q env st:=by
 have hc':c.ev env []=⟨true,.bool t⟩:=by rw[<-hc,<-po];rfl
 refine .intro (.intro ?_);simp only[hc'];refine⟨trivial,λht=>?_,λht=>?_⟩
 .obtain⟨e,s,g,h⟩:=h1 ht;exact iu g h
 .obtain⟨e,s,g,h⟩:=h2 ht;exact iu g h
theorem wp_cond {c:Src}{a b:AC}(h1:t=true->dD Y a Q env st)(h2:t=false->dD Y b Q env st)(hc:bV env [] c=⟨true,.bool t⟩:=by exact rfl):dD Y (.cond c a b) Q env st:=by
 have hc':c.ev env []=⟨true,.bool t⟩:=by rw[<-hc,<-po];rfl
 refine .intro ?_
 grind
def a8.to {c nx':Nat}{m:Γ}(σ:Ξ)(hc:nx'=c)(h:gQ lo c σ=true)(he:fN lo σ env env')(hm:bB lo c σ m m'):a8 lo env ⟨nx,m⟩ env' ⟨nx',m'⟩:=by
 subst hc;exact .ren σ nx' env env' nx m m' h he hm
theorem bY {β:Type}(q:α->β)(xs:List α):(xs.map q).take xs.length=xs.map q:=gG aJ
def cg {α:Type}{q:α->D}(h:∀x,(q x).aV=true):∀xs:List α,aP (xs.map q)=true
 |[]=>rfl
 |a::r=>by simp only[List.map_cons,aP,h a,cg h r,gW]
def a8.fz {env2:Φ}{m:Γ}{es:Θ}{st2:St}(l:Nat)(hl:look m l=some (.buf k es))(hn:aP es=true)(he:yY l k es env=env')(hm:Bv l k es (de m l)=m')(h:a8 lo env' ⟨nx,m'⟩ env2 st2):a8 lo env ⟨nx,m⟩ env2 st2:=by
 have:=a8.Wv (lo:=lo) l env ⟨nx,m⟩;simp only[Abs.Wv,hl,hn,cond_true,he,hm]at this;exact .trans _ _ _ _ _ _ this h
def bG {a:AC}{m:Γ}{es:Θ}(l:Nat)(h:dD Y a Q env' ⟨nx,m'⟩)(hl:look m l=some (.buf k es):=by exact rfl)(hn:aP es=true:=by first|exact rfl|exact cg (λ_=>rfl) _)(he:yY l k es env=env':=by simp only[yY,jj,pf,Bv,FH,de,Nat.reduceEqDiff,br,ba,iY,eF,dP,iM,iN,cG,bj,aR,dN,bY,reduceCtorEq,bJ,cj,Nat.reduceAdd,Nat.reduceLeDiff];exact rfl)(hm:Bv l k es (de m l)=m':=by simp only[yY,jj,pf,Bv,FH,de,Nat.reduceEqDiff,br,ba,iY,eF,dP,iM,iN,cG,bj,aR,dN,bY,reduceCtorEq,bJ,cj,Nat.reduceAdd,Nat.reduceLeDiff];exact rfl):dD Y a Q env ⟨nx,m⟩:=
 iu (a8.fz l hl hn he hm (.refl _ _)) h
def WkE.rf:∀e:Φ,WkE e e
 |[]=>trivial
 |_::r=>⟨⟨rfl,.refl _⟩,WkE.rf r⟩
def RX.nil:RX [] []:=⟨rfl,λ_=>.refl _⟩
def RX.cons {x y:D}{a b:Θ}(h:Fz x y)(h2:RX a b):RX (x::a) (y::b):=⟨by simp[h2.1],λi=>by cases i with
 |zero=>exact h
 |succ i=>simpa using h2.2 i⟩
def RX.rf (a:Θ):RX a a:=⟨rfl,λ_=>.refl _⟩
def RX.map {α:Type}{q p:α->D}:∀{xs:List α},(∀x∈xs,Fz (q x) (p x))->RX (xs.map q) (xs.map p)
 |[],_=>.nil
 |x::r,h=>.cons (h x (.head _)) (RX.map λy hy=>h y (.tail _ hy))
def Fz.ag {a b:Θ}(h:RX a b):Fz (.agg a) (.agg b):=.agg _ _ h.1 h.2
def Fz.ss {a b:Θ}(h:RX a b):Fz (.sl k a) (.sl k b):=.sl _ _ _ h.1 h.2
def RY.nil {m:Γ}:RY m []:=trivial
def RY.id {m r:Γ}{b:bo}(h:look m l=some b)(h2:RY m r):RY m ((l,b)::r):=⟨⟨b,h,by cases b<;>first|exact⟨rfl,.rf _⟩|exact rfl⟩,h2⟩
def RY.bf {m r:Γ}{es es':Θ}(h:look m l=some (.buf k es))(hw:RX es es')(h2:RY m r):RY m ((l,.buf k es')::r):=⟨⟨_,h,rfl,hw⟩,h2⟩
def Bk {a:AC}{m:Γ}(m':Γ)(hm:RY m m')(h:dD Y a Q env ⟨nx,m'⟩):dD Y a Q env ⟨nx,m⟩:=iu (.nz _ _ _ _ _ (WkE.rf _) hm) h
def fN.nil:fN lo σ [] []:=trivial
def fN.un {a:a7}{r s:Φ}(h:fN lo σ r s):fN lo σ (a::r) (.un::s):=⟨.inr rfl,h⟩
def fN.eq {ok:Bool}{d d':D}{r s:Φ}(hd:tW lo σ d=some d')(h:fN lo σ r s):fN lo σ (⟨ok,d⟩::r) (⟨ok,d'⟩::s):=⟨.inl ⟨rfl,.inr (.inl hd)⟩,h⟩
theorem fN.nl {ok:Bool}{d d':D}{r s:Φ}(hd:d'=d)(hn:d.aV=true)(h:fN lo σ r s):fN lo σ (⟨ok,d⟩::r) (⟨ok,d'⟩::s):=⟨.inl ⟨rfl,.inl ⟨hd,hn⟩⟩,h⟩
def fN.ni {ok:Bool}{d d':D}{r s:Φ}(hd:wV d d')(h:fN lo σ r s):fN lo σ (⟨ok,d⟩::r) (⟨ok,d'⟩::s):=⟨.inl ⟨rfl,.inr (.inr hd)⟩,h⟩
section
variable {c:Nat}{m r:Γ}
def bB.nil:bB lo c σ m []:=trivial
theorem bB.nl {es es':Θ}(l:Nat)(hl:m8 lo σ l=some l')(hm:look m l=some (.buf k es))(he:es'=es)(hn:aP es=true)(h:bB lo c σ m r):bB lo c σ m ((l',.buf k es')::r):=
 ⟨.inl ⟨l,_,hl,hm,rfl,.inl ⟨he,hn⟩⟩,h⟩
def bB.eq {es es':Θ}(l:Nat)(hl:m8 lo σ l=some l')(hm:look m l=some (.buf k es))(he:ru lo σ es=some es')(h:bB lo c σ m r):bB lo c σ m ((l',.buf k es')::r):=
 ⟨.inl ⟨l,_,hl,hm,rfl,.inr (.inl he)⟩,h⟩
def bB.ni {es es':Θ}(l:Nat)(hl:m8 lo σ l=some l')(hm:look m l=some (.buf k es))(he:O6 es es')(h:bB lo c σ m r):bB lo c σ m ((l',.buf k es')::r):=
 ⟨.inl ⟨l,_,hl,hm,rfl,.inr (.inr he)⟩,h⟩
def bB.By {es':Θ}(hl:m8 lo σ l'=some l')(hm:look m l'=some (.buf k es'))(hn:aP es'=true)(h:bB lo c σ m r):bB lo c σ m ((l',.buf k es')::r):=.nl l' hl hm rfl hn h
def bB.OW {es' es:Θ}(hl:m8 lo σ l'=some l')(hm:look m l'=some (.buf k es))(he:ru lo σ es=some es')(h:bB lo c σ m r):bB lo c σ m ((l',.buf k es')::r):=.eq l' hl hm he h
def bB.mt {es':Θ}(h1:Nat.ble lo l'=true)(h2:Nat.blt l' c=true)(h3:σ.all (λp=>!Nat.beq p.2 l')=true)(he:es'=[])(h:bB lo c σ m r):bB lo c σ m ((l',.buf k es')::r):=
 ⟨.inr ⟨h1,h2,h3,k,by rw[he]⟩,h⟩
def bB.it {p p':Nat}{s s':Ω}(l:Nat)(hl:m8 lo σ l=some l')(hm:look m l=some (.iter s p))(hs:s'=s)(hp:p'=p)(h:bB lo c σ m r):bB lo c σ m ((l',.iter s' p')::r):=
 ⟨.inl ⟨l,_,hl,hm,hs,hp⟩,h⟩
def bB.OX {p p':Nat}{s s':Ω}(hl:m8 lo σ l'=some l')(hm:look m l'=some (.iter s p))(hs:s'=s)(hp:p'=p)(h:bB lo c σ m r):bB lo c σ m ((l',.iter s' p')::r):=.it l' hl hm hs hp h
def bB.rw {s s':Ω}(l:Nat)(hl:m8 lo σ l=some l')(hm:look m l=some (.row s))(hs:s'=s)(h:bB lo c σ m r):bB lo c σ m ((l',.row s')::r):=
 ⟨.inl ⟨l,_,hl,hm,hs⟩,h⟩
def bB.bl {l1 l2 n':Nat}{u u':Bool}(l:Nat)(hl:m8 lo σ l=some l')(hm:look m l=some (.bld (some l1) n u))(h1:m8 lo σ l1=some l2)(hn:n'=n)(hu:u'=u)(h:bB lo c σ m r):bB lo c σ m ((l',.bld (some l2) n' u')::r):=
 ⟨.inl ⟨l,_,hl,hm,⟨l2,h1,rfl⟩,hn,hu⟩,h⟩
def bB.b0 {n':Nat}{u u':Bool}(l:Nat)(hl:m8 lo σ l=some l')(hm:look m l=some (.bld none n u))(hn:n'=n)(hu:u'=u)(h:bB lo c σ m r):bB lo c σ m ((l',.bld none n' u')::r):=
 ⟨.inl ⟨l,_,hl,hm,rfl,hn,hu⟩,h⟩
end
mutual
def xC (m:Γ):Sh->D->D
 | .a,d=>match d with
  | .aO=>.sl 0 []
  |d=>d
 | .sl k cs,d=>match d with
  | .aO=>.sl k []
  | .own l k' i c=>.sl k' ((((aK m l).drop i).take c).map λe=>match e with
   | .agg ds=>.agg (xL m cs ds)
   |e=>xH m cs e)
  |d=>d
 | .pt cs,d=>match d with
  | .ptr l k i o=>.ref k ((aK m l).map λe=>match e with
   | .agg ds=>.agg (xL m cs ds)
   |e=>xH m cs e) i o
  |d=>d
 | .kp cs,d=>match d with
  | .own l k' i c=>.sl k' ((((aK m l).drop i).take c).map λe=>match e with
   | .agg ds=>.agg (xL m cs ds)
   |e=>xH m cs e)
  |d=>d
def xH (m:Γ):ζ->D->D
 |[],d=>d
 |s::_,d=>xC m s d
def xL (m:Γ):ζ->Θ->Θ
 |[],ds=>ds
 |s::r,ds=>match ds with
  |[]=>[]
  |d::ds=>xC m s d::xL m r ds
end
def xV (m:Γ)(cs:ζ):D->D
 | .agg ds=>.agg (xL m cs ds)
 |e=>xH m cs e
mutual
def WB (m:Γ):Sh->D->Prop
 | .a,d=>d.aV=true
 | .sl _ cs,d=>match d with
  | .own l k' i c=>ep m l k' (i+c)/\∀e∈((aK m l).drop i).take c,(match e with
   | .agg ds=>xLO m cs ds
   |e=>xHO m cs e)
  |d=>d.aV=true
 | .pt cs,d=>match d with
  | .ptr l k _ _=>ep m l k 0/\∀e∈aK m l,(match e with
   | .agg ds=>xLO m cs ds
   |e=>xHO m cs e)
  |d=>d.aV=true
 | .kp cs,d=>match d with
  | .own l k' i c=>ep m l k' (i+c)/\∀e∈((aK m l).drop i).take c,(match e with
   | .agg ds=>xLO m cs ds
   |e=>xHO m cs e)
  |d=>d.aV=true
def xHO (m:Γ):ζ->D->Prop
 |[],d=>d.aV=true
 |s::_,d=>WB m s d
def xLO (m:Γ):ζ->Θ->Prop
 |[],ds=>aP ds=true
 |s::r,ds=>match ds with
  |[]=>True
  |d::ds=>WB m s d/\xLO m r ds
end
def xVO (m:Γ)(cs:ζ):D->Prop
 | .agg ds=>xLO m cs ds
 |e=>xHO m cs e
mutual
theorem abO (m:Γ):∀(s:Sh) (d:D),k9 m s d=xC m s d/\(iD m s d↔WB m s d)
 | .a,d=>by cases d<;>simp only[k9,xC,iD,WB]<;>exact⟨trivial,trivial⟩
 | .sl k cs,d=>by
  cases d<;>simp only[k9,xC,iD,WB]<;>first
   |exact⟨trivial,trivial⟩
   |skip
  rename_i l k' i c;exact⟨ay (D.sl k') (List.map_congr_left λe _=>(E9 m cs e).1),and_congr_right λ_=>forall_congr' λe=>imp_congr_right λ_=>(E9 m cs e).2⟩
 | .pt cs,d=>by
  cases d<;>simp only[k9,xC,iD,WB]<;>first
   |exact⟨trivial,trivial⟩
   |skip
  rename_i l k' i c;exact⟨ay (λx=>D.ref k' x i c) (List.map_congr_left λe _=>(E9 m cs e).1),and_congr_right λ_=>forall_congr' λe=>imp_congr_right λ_=>(E9 m cs e).2⟩
 | .kp cs,d=>by
  cases d<;>simp only[k9,xC,iD,WB]<;>first
   |exact⟨trivial,trivial⟩
   |skip
  rename_i l k' i c;exact⟨ay (D.sl k') (List.map_congr_left λe _=>(E9 m cs e).1),and_congr_right λ_=>forall_congr' λe=>imp_congr_right λ_=>(E9 m cs e).2⟩
theorem E9 (m:List (Nat×bo)):∀(cs:List Sh) (d:D),jf m cs d=(match d with
   | .agg ds=>.agg (xL m cs ds)
   |e=>xH m cs e)/\(gL m cs d↔(match d with
   | .agg ds=>xLO m cs ds
   |e=>xHO m cs e))
 |[],d=>by cases d<;>simp only[jf,xH,xL,gL,xHO,xLO,D.aV]<;>first|exact⟨trivial,Iff.rfl⟩|exact⟨trivial,trivial⟩
 |s::r,d=>by
  cases d<;>simp only[jf,xH,gL,xHO]<;>first
   |exact abO m s _
   |skip
  rename_i ds;exact⟨ay D.agg (TY m (s::r) ds).1,(TY m (s::r) ds).2⟩
theorem TY (m:Γ):∀(cs:ζ) (ds:Θ),nL m cs ds=xL m cs ds/\(kH m cs ds↔xLO m cs ds)
 |[],ds=>by simp only[nL,xL,kH,xLO];exact⟨trivial,trivial⟩
 |s::r,[]=>by simp only[nL,xL,kH,xLO];exact⟨trivial,trivial⟩
 |s::r,d::ds=>by
  simp only[nL,xL,kH,xLO,(abO m s d).1,(TY m r ds).1];exact⟨trivial,and_congr (abO m s d).2 (TY m r ds).2⟩
end
theorem Hs (m:Γ)(cs:ζ)(d:D):jf m cs d=xV m cs d/\(gL m cs d↔xVO m cs d):=by
 have:=E9 m cs d;cases d<;>exact this
def jn (m:Γ):Ι->Θ->Θ
 |_,[]=>[]
 |[],d::r=>xV m [.a] d::jn m [] r
 |s::ss,d::r=>xV m s d::jn m ss r
def jb (m:Γ):Ι->Θ->Prop
 |_,[]=>True
 |[],d::r=>xVO m [.a] d/\jb m [] r
 |s::ss,d::r=>xVO m s d/\jb m ss r
theorem dH (m:Γ):∀(ss:Ι) (ds:Θ),iJ m ss ds=jn m ss ds/\(jm m ss ds↔jb m ss ds)
 |ss,[]=>by simp[iJ,jn,jm,jb]
 |[],d::r=>by
  simp only[iJ,jn,jm,jb,(Hs m [.a] d).1,(dH m [] r).1];exact⟨trivial,and_congr (Hs m _ d).2 (dH m [] r).2⟩
 |s::ss,d::r=>by
  simp only[iJ,jn,jm,jb,(Hs m s d).1,(dH m ss r).1];exact⟨trivial,and_congr (Hs m _ d).2 (dH m ss r).2⟩
def O7 (a:aj)(d:D):Ex->Φ->St->Prop:=λe env st=>e.home/\oO st.m env a.res/\N5 a env st/\aa7 a env st=d
def OS (a:aj)(env:Φ)(m:Γ):D:=match a.res with
 |[r]=>xV m (a.rsh.getD 0 []) (Jc m env r)
 |rs=>.tup (jn m a.rsh (rr m env rs))
def Bl (a:aj)(env:Φ)(m:Γ):Prop:=match a.res with
 |[r]=>xVO m (a.rsh.getD 0 []) (Jc m env r)
 |rs=>jb m a.rsh (rr m env rs)
theorem Q4 {a:aj}{d:D}{e:Ex}{m:Γ}(he:e.home)(h1:oO m env a.res)(h2:Bl a env m)(h3:OS a env m=d):O7 a d e env ⟨nx,m⟩:=by
 refine⟨he,h1, ?_, ?_⟩
 .unfold N5;unfold Bl at h2;split<;>rename_i hr
  .rw[hr]at h2;exact(Hs _ _ _).2.2 h2
  .split at h2
   .rename_i hr2;exact absurd hr2 (hr _)
   .exact(dH _ _ _).2.2 h2
 grind [aa7,OS,Hs,dH]
def HB (a:aj)(k:Nat)(vd sd:D):Ex->Φ->St->Prop:=λe env st=>e.home/\oO st.m env a.res/\(ku a env st).aV=true/\ku a env st=vd/\look st.m 0=some (.buf k [sd])/\sd.aV=true
def jc {a:aj}{vd sd:D}{e:Ex}{m:Γ}(he:e.home)(h1:oO m env a.res)(h2:ku a env ⟨nx,m⟩=vd)(h3:look m 0=some (.buf k [sd]))(hn:vd.aV=true)(hs:sd.aV=true):HB a k vd sd e env ⟨nx,m⟩:=⟨he,h1,by rw[h2];exact hn,h2,h3,hs⟩
end
section
variable {Y:Ctx}{r:Υ}{rs:Φ}{m:Γ}{K:Φ->St->Prop}{g:Ν}{f:Bool}
def at8 (s:Ω)(i:Nat):Int:=((s.getD i 0).toNat:Int)
def HE (s:Ω)(i:Nat):0<=at8 s i/\at8 s i<256:=by
 have:=(s.getD i 0).toNat_lt;unfold at8;omega
def D.aky:D->Bool
 | .str _=>true
 |_=>false
def wrap_i64 (h1:-9223372036854775808<=a)(h2:a<=9223372036854775807):IntKind.i64.wrap a=a:=IntWalk.i64_in _ ae
theorem R5 (a b:Ω):(a==b)=decide (a=b):=by
 grind
def getD_map [Inhabited α]{q:α->D}{xs:List α}{i:Nat}(h:i<xs.length):(xs.map q).getD i .any=q xs[i]! :=by
 simp[List.getD,h]
def amw (b:UInt8):(D.int .u8 b.toNat).u8=b:=by simp[D.u8]
def adi (s:Ω):D.str ((s.map λb=>D.int .u8 b.toNat).map D.u8)=.str s:=by
 congr 1;rw[List.map_map]
 conv=>rhs;rw[<-List.map_id s]
 apply List.map_congr_left;intro b _;exact amw b
def GF (rs:Φ):Ν->Bool->Prop
 |none,f=>f=true
 |some (j,w),f=>∃ok b,bV [] rs (.l j)=⟨ok,.bool b⟩/\(ok&&(b==w))=f
def GF.flag (h:GF rs g f):flag rs.reverse g=f/\zk rs.reverse g:=by
 cases g with
 |none=>exact⟨h.symm,trivial⟩
 |some jw=>
  obtain⟨j,w⟩:=jw;obtain⟨ok,b,h1,h2⟩:=h;have h3:rs.reverse.getD j .un=⟨ok,.bool b⟩:=by rw[<-h1,<-po];rfl
  simp only[Abs.flag,zk,h3,h2,D.isBool];exact⟨trivial,λ_=>trivial⟩
theorem aas {i:aA}(hM:i.cR=false)(hF:i.lH draw g=false)(hC:g.isSome=true->i.calm=true)(hg:GF rs g f)(d:D)(ho:f=true->i.eO Y (bV env rs) m)(hv:f=true->i.val Y (bV env rs) m (nx+rs.length)=d)(m':Γ)(hm:i.bS Y (bV env rs) m (nx+rs.length)=m')(h:(f=true->i.LC draw (bV env rs))->aC Y draw r env (⟨f,d⟩::rs) nx m' K):aC Y draw (⟨i,g⟩::r) env rs nx m K:=by
 obtain⟨hf,hb⟩:=hg.flag;unfold aC;rw[nZ hM hF,po,hf];refine⟨?_,ho,λha=>⟨d,by simpa using hv, ?_⟩⟩
 .cases g with
  |none=>trivial
  |some jw=>exact⟨hC rfl,hb⟩
 grind [aC]
def gB {i:aA}(hC:i.calm=true)(hg:GF rs g f)(d:D)(ho:f=true->i.eO Y (bV env rs) m)(hv:f=true->i.val Y (bV env rs) m (nx+rs.length)=d)(m':Γ)(hm:i.bS Y (bV env rs) m (nx+rs.length)=m')(h:(f=true->i.LC draw (bV env rs))->aC Y draw r env (⟨f,d⟩::rs) nx m' K):aC Y draw (⟨i,g⟩::r) env rs nx m K:=
 aas (by cases i<;>first|rfl|cases hC) (by simp[aA.lH,hC]) (λ_=>hC) hg d ho hv m' hm h
def bE {i:aA}(hC:i.pure=true)(hg:GF rs g f)(d:D)(ho:f=true->i.eO Y (bV env rs) m)(hv:f=true->i.val Y (bV env rs) m (nx+rs.length)=d)(h:(f=true->i.LC draw (bV env rs))->aC Y draw r env (⟨f,d⟩::rs) nx m K):aC Y draw (⟨i,g⟩::r) env rs nx m K:=
 gB (VH hC) hg d ho hv m (aak hC) h
def pQ {i:aA}(hM:i.cR=false)(d:D)(ho:i.eO Y (bV env rs) m)(hv:i.val Y (bV env rs) m (nx+rs.length)=d)(m':Γ)(hm:i.bS Y (bV env rs) m (nx+rs.length)=m')(h:i.LC draw (bV env rs)->aC Y draw r env (⟨true,d⟩::rs) nx m' K):aC Y draw (⟨i,none⟩::r) env rs nx m K:=
 aas hM (by simp[aA.lH]) (λh=>cb) rfl d (λ_=>ho) (λ_=>hv) m' hm (λha=>h (ha rfl))
theorem aav {i:aA}{w:Bool}(hM:i.cR=false)(hC:i.calm=false)(hg:GF rs (some (j,w)) f)(h1:f=true->∃d,i.eO Y (bV env rs) m/\i.val Y (bV env rs) m (nx+rs.length)=d/\∃m',i.bS Y (bV env rs) m (nx+rs.length)=m'/\aC Y false r env (⟨true,d⟩::rs) nx m' K)(h2:f=false->aC Y false r env (⟨false,.any⟩::rs) nx m K):aC Y false (⟨i,some (j,w)⟩::r) env rs nx m K:=by
 obtain⟨hf,hb⟩:=hg.flag
 grind [aC,zR,aA.lH,po]
def bL {d:D}(h:aC Y draw r env (⟨f,d⟩::rs) nx m K)(hg:GF rs g f:=by exact cH)(hx:bV env rs x=⟨fx,d⟩:=by exact rfl)(kx:f=true->fx=true:=by exact bD):aC Y draw (⟨.mv x,g⟩::r) env rs nx m K:=
 bE rfl hg _ (λhf=>oX) (λhf=>mj) (λha=>h)
def Tr {b:Bool}(h:aC Y draw r env (⟨f,.bool (!b)⟩::rs) nx m K)(hg:GF rs g f:=by exact cH)(hx:bV env rs x=⟨fx,.bool b⟩:=by exact rfl)(kx:f=true->fx=true:=by exact bD):aC Y draw (⟨.un .not x,g⟩::r) env rs nx m K:=
 bE rfl hg _ (λhf=>oX) (λhf=>mj) (λha=>h)
def Nq {c b:Src}{fc fb y:Bool}(h:aC Y draw r env (⟨f,.bool (t ||y)⟩::rs) nx m K)(hg:GF rs g f:=by exact cH)(hc:bV env rs c=⟨fc,.bool t⟩:=by exact rfl)(hb:bV env rs b=⟨fb,.bool y⟩:=by exact rfl)(kc:f=true->fc=true:=by exact bD)(kb:f=true->t=false->fb=true:=by intro h1 h2;first|(rw[h2];exact rfl)|(rw[h2,h1];rfl)|(rw[h1,h2];rfl)|simp_all):aC Y draw (⟨.pick c (.c (.bool true)) b,g⟩::r) env rs nx m K:=
 bE rfl hg _ (λhf=>by simp only[aA.eO,hc,hb];exact⟨kc hf,λ_=>rfl,λe=>kb hf e⟩) (λhf=>by simp only[aA.val,hc,hb];cases t<;>rfl) (λ_=>h)
def vz {c a:Src}{fc fa y:Bool}(h:aC Y draw r env (⟨f,.bool (t&&y)⟩::rs) nx m K)(hg:GF rs g f:=by exact cH)(hc:bV env rs c=⟨fc,.bool t⟩:=by exact rfl)(ha:bV env rs a=⟨fa,.bool y⟩:=by exact rfl)(kc:f=true->fc=true:=by exact bD)(ka:f=true->t=true->fa=true:=by intro h1 h2;first|(rw[h2];exact rfl)|(rw[h2,h1];rfl)|(rw[h1,h2];rfl)|simp_all):aC Y draw (⟨.pick c a (.c (.bool false)),g⟩::r) env rs nx m K:=
 bE rfl hg _ (λhf=>by simp only[aA.eO,hc,ha];exact⟨kc hf,λe=>ka hf e,λ_=>rfl⟩) (λhf=>by simp only[aA.val,hc,ha];cases t<;>rfl) (λ_=>h)
def mh (h:aC Y draw r env (⟨f,.int .i64 (a+b)⟩::rs) nx m K)(hg:GF rs g f:=by exact cH)(hx:bV env rs x=⟨fx,.int .i64 a⟩:=by exact rfl)(hy:bV env rs y=⟨fy,.int .i64 b⟩:=by exact rfl)(kx:f=true->fx=true:=by exact bD)(ky:f=true->fy=true:=by exact bD)(hb:f=true->-9223372036854775808<=a+b/\a+b<=9223372036854775807:=by exact Jv):aC Y draw (⟨.bin .add x y,g⟩::r) env rs nx m K:=
 bE rfl hg _ (λhf=>gX) (λhf=>RM) (λha=>h)
def aaq {k:IntKind}(v:Int)(h:aC Y draw r env (⟨f,.int k v⟩::rs) nx m K)(hg:GF rs g f:=by exact cH)(hx:bV env rs x=⟨fx,.int k a⟩:=by exact rfl)(hy:bV env rs y=⟨fy,.int k b⟩:=by exact rfl)(kx:f=true->fx=true:=by exact bD)(ky:f=true->fy=true:=by exact bD)(hb:f=true->k.wrap (a+b)=v):aC Y draw (⟨.bin .add x y,g⟩::r) env rs nx m K:=
 bE rfl hg _ (λhf=>gX) (λhf=>pY) (λha=>h)
def Cn (h:aC Y draw r env (⟨f,.int .i64 (a-b)⟩::rs) nx m K)(hg:GF rs g f:=by exact cH)(hx:bV env rs x=⟨fx,.int .i64 a⟩:=by exact rfl)(hy:bV env rs y=⟨fy,.int .i64 b⟩:=by exact rfl)(kx:f=true->fx=true:=by exact bD)(ky:f=true->fy=true:=by exact bD)(hb:f=true->-9223372036854775808<=a-b/\a-b<=9223372036854775807:=by exact Jv):aC Y draw (⟨.bin .sub x y,g⟩::r) env rs nx m K:=
 bE rfl hg _ (λhf=>gX) (λhf=>RM) (λha=>h)
def IN {k:IntKind}(v:Int)(h:aC Y draw r env (⟨f,.int k v⟩::rs) nx m K)(hg:GF rs g f:=by exact cH)(hx:bV env rs x=⟨fx,.int k a⟩:=by exact rfl)(hy:bV env rs y=⟨fy,.int k b⟩:=by exact rfl)(kx:f=true->fx=true:=by exact bD)(ky:f=true->fy=true:=by exact bD)(hb:f=true->k.wrap (a-b)=v):aC Y draw (⟨.bin .sub x y,g⟩::r) env rs nx m K:=
 bE rfl hg _ (λhf=>gX) (λhf=>pY) (λha=>h)
def yn (h:aC Y draw r env (⟨f,.int .i64 (a*b)⟩::rs) nx m K)(hg:GF rs g f:=by exact cH)(hx:bV env rs x=⟨fx,.int .i64 a⟩:=by exact rfl)(hy:bV env rs y=⟨fy,.int .i64 b⟩:=by exact rfl)(kx:f=true->fx=true:=by exact bD)(ky:f=true->fy=true:=by exact bD)(hb:f=true->-9223372036854775808<=a*b/\a*b<=9223372036854775807:=by exact Jv):aC Y draw (⟨.bin .mul x y,g⟩::r) env rs nx m K:=
 bE rfl hg _ (λhf=>gX) (λhf=>RM) (λha=>h)
def aaA {k:IntKind}(v:Int)(h:aC Y draw r env (⟨f,.int k v⟩::rs) nx m K)(hg:GF rs g f:=by exact cH)(hx:bV env rs x=⟨fx,.int k a⟩:=by exact rfl)(hy:bV env rs y=⟨fy,.int k b⟩:=by exact rfl)(kx:f=true->fx=true:=by exact bD)(ky:f=true->fy=true:=by exact bD)(hb:f=true->k.wrap (a*b)=v):aC Y draw (⟨.bin .mul x y,g⟩::r) env rs nx m K:=
 bE rfl hg _ (λhf=>gX) (λhf=>pY) (λha=>h)
def r_quo {k:IntKind}(v:Int)(h:aC Y draw r env (⟨f,.int k v⟩::rs) nx m K)(hg:GF rs g f:=by exact cH)(hx:bV env rs x=⟨fx,.int k a⟩:=by exact rfl)(hy:bV env rs y=⟨fy,.int k b⟩:=by exact rfl)(kx:f=true->fx=true:=by exact bD)(ky:f=true->fy=true:=by exact bD)(hn:f=true->b≠0)(hb:f=true->k.wrap (a.tdiv b)=v):aC Y draw (⟨.bin .quo x y,g⟩::r) env rs nx m K:=
 bE rfl hg _ (λhf=>LA) (λhf=>pY) (λha=>h)
def AU {k:IntKind}(v:Int)(h:aC Y draw r env (⟨f,.int k v⟩::rs) nx m K)(hg:GF rs g f:=by exact cH)(hx:bV env rs x=⟨fx,.int k a⟩:=by exact rfl)(hy:bV env rs y=⟨fy,.int k b⟩:=by exact rfl)(kx:f=true->fx=true:=by exact bD)(ky:f=true->fy=true:=by exact bD)(hn:f=true->b≠0)(hb:f=true->a.tmod b=v):aC Y draw (⟨.bin .rem x y,g⟩::r) env rs nx m K:=
 bE rfl hg _ (λhf=>LA) (λhf=>pY) (λha=>h)
def GR {k:IntKind}(v:Int)(h:aC Y draw r env (⟨f,.int k v⟩::rs) nx m K)(hg:GF rs g f:=by exact cH)(hx:bV env rs x=⟨fx,.int k a⟩:=by exact rfl)(hy:bV env rs y=⟨fy,.int k2 b⟩:=by exact rfl)(kx:f=true->fx=true:=by exact bD)(ky:f=true->fy=true:=by exact bD)(hn:f=true->0<=b:=by exact sc)(hb:f=true->k.wrap (a*2^(min b.toNat k.bits))=v):aC Y draw (⟨.bin .shl x y,g⟩::r) env rs nx m K:=
 bE rfl hg _ (λhf=>LA) (λhf=>pY) (λha=>h)
def Ts {k:IntKind}(v:Int)(h:aC Y draw r env (⟨f,.int k v⟩::rs) nx m K)(hg:GF rs g f:=by exact cH)(hx:bV env rs x=⟨fx,.int k a⟩:=by exact rfl)(hy:bV env rs y=⟨fy,.int k2 b⟩:=by exact rfl)(kx:f=true->fx=true:=by exact bD)(ky:f=true->fy=true:=by exact bD)(hn:f=true->0<=b:=by exact sc)(hb:f=true->a.fdiv (2^(min b.toNat k.bits))=v):aC Y draw (⟨.bin .shr x y,g⟩::r) env rs nx m K:=
 bE rfl hg _ (λhf=>LA) (λhf=>pY) (λha=>h)
def D0 {k:IntKind}(v:Int)(h:aC Y draw r env (⟨f,.int k v⟩::rs) nx m K)(hg:GF rs g f:=by exact cH)(hx:bV env rs x=⟨fx,.int k a⟩:=by exact rfl)(hy:bV env rs y=⟨fy,.int k b⟩:=by exact rfl)(kx:f=true->fx=true:=by exact bD)(ky:f=true->fy=true:=by exact bD)(hb:f=true->k.wrap (((BitVec.ofInt k.bits a)&&&(BitVec.ofInt k.bits b)).toNat)=v):aC Y draw (⟨.bin .and x y,g⟩::r) env rs nx m K:=
 bE rfl hg _ (λhf=>gX) (λhf=>pY) (λha=>h)
def ag3 {k:IntKind}(v:Int)(h:aC Y draw r env (⟨f,.int k v⟩::rs) nx m K)(hg:GF rs g f:=by exact cH)(hx:bV env rs x=⟨fx,.int k a⟩:=by exact rfl)(hy:bV env rs y=⟨fy,.int k b⟩:=by exact rfl)(kx:f=true->fx=true:=by exact bD)(ky:f=true->fy=true:=by exact bD)(hb:f=true->k.wrap (((BitVec.ofInt k.bits a) |||(BitVec.ofInt k.bits b)).toNat)=v):aC Y draw (⟨.bin .or x y,g⟩::r) env rs nx m K:=
 bE rfl hg _ (λhf=>gX) (λhf=>pY) (λha=>h)
def IH {k:IntKind}(v:Int)(h:aC Y draw r env (⟨f,.int k v⟩::rs) nx m K)(hg:GF rs g f:=by exact cH)(hx:bV env rs x=⟨fx,.int k a⟩:=by exact rfl)(hy:bV env rs y=⟨fy,.int k b⟩:=by exact rfl)(kx:f=true->fx=true:=by exact bD)(ky:f=true->fy=true:=by exact bD)(hb:f=true->k.wrap (((BitVec.ofInt k.bits a)^^^(BitVec.ofInt k.bits b)).toNat)=v):aC Y draw (⟨.bin .xor x y,g⟩::r) env rs nx m K:=
 bE rfl hg _ (λhf=>gX) (λhf=>pY) (λha=>h)
def zN {k:IntKind}(h:aC Y draw r env (⟨f,.bool (decide (a<b))⟩::rs) nx m K)(hg:GF rs g f:=by exact cH)(hx:bV env rs x=⟨fx,.int k a⟩:=by exact rfl)(hy:bV env rs y=⟨fy,.int k b⟩:=by exact rfl)(kx:f=true->fx=true:=by exact bD)(ky:f=true->fy=true:=by exact bD):aC Y draw (⟨.bin .lss x y,g⟩::r) env rs nx m K:=
 bE rfl hg _ (λhf=>gX) (λhf=>Aj) (λha=>h)
def IK {k:IntKind}(h:aC Y draw r env (⟨f,.bool (decide (a<=b))⟩::rs) nx m K)(hg:GF rs g f:=by exact cH)(hx:bV env rs x=⟨fx,.int k a⟩:=by exact rfl)(hy:bV env rs y=⟨fy,.int k b⟩:=by exact rfl)(kx:f=true->fx=true:=by exact bD)(ky:f=true->fy=true:=by exact bD):aC Y draw (⟨.bin .leq x y,g⟩::r) env rs nx m K:=
 bE rfl hg _ (λhf=>gX) (λhf=>Aj) (λha=>h)
def pP {k:IntKind}(h:aC Y draw r env (⟨f,.bool (decide (b<a))⟩::rs) nx m K)(hg:GF rs g f:=by exact cH)(hx:bV env rs x=⟨fx,.int k a⟩:=by exact rfl)(hy:bV env rs y=⟨fy,.int k b⟩:=by exact rfl)(kx:f=true->fx=true:=by exact bD)(ky:f=true->fy=true:=by exact bD):aC Y draw (⟨.bin .gtr x y,g⟩::r) env rs nx m K:=
 bE rfl hg _ (λhf=>gX) (λhf=>Aj) (λha=>h)
def II {k:IntKind}(h:aC Y draw r env (⟨f,.bool (decide (b<=a))⟩::rs) nx m K)(hg:GF rs g f:=by exact cH)(hx:bV env rs x=⟨fx,.int k a⟩:=by exact rfl)(hy:bV env rs y=⟨fy,.int k b⟩:=by exact rfl)(kx:f=true->fx=true:=by exact bD)(ky:f=true->fy=true:=by exact bD):aC Y draw (⟨.bin .geq x y,g⟩::r) env rs nx m K:=
 bE rfl hg _ (λhf=>gX) (λhf=>Aj) (λha=>h)
def Qk {k:IntKind}(h:aC Y draw r env (⟨f,.bool (decide (a=b))⟩::rs) nx m K)(hg:GF rs g f:=by exact cH)(hx:bV env rs x=⟨fx,.int k a⟩:=by exact rfl)(hy:bV env rs y=⟨fy,.int k b⟩:=by exact rfl)(kx:f=true->fx=true:=by exact bD)(ky:f=true->fy=true:=by exact bD):aC Y draw (⟨.bin .eql x y,g⟩::r) env rs nx m K:=
 bE rfl hg _ (λhf=>gX) (λhf=>Aj) (λha=>h)
def oK {k:IntKind}(h:aC Y draw r env (⟨f,.bool (!decide (a=b))⟩::rs) nx m K)(hg:GF rs g f:=by exact cH)(hx:bV env rs x=⟨fx,.int k a⟩:=by exact rfl)(hy:bV env rs y=⟨fy,.int k b⟩:=by exact rfl)(kx:f=true->fx=true:=by exact bD)(ky:f=true->fy=true:=by exact bD):aC Y draw (⟨.bin .neq x y,g⟩::r) env rs nx m K:=
 bE rfl hg _ (λhf=>gX) (λhf=>Aj) (λha=>h)
def al3 {a b:Ω}(h:aC Y draw r env (⟨f,.bool (Op.bytesLess a b)⟩::rs) nx m K)(hg:GF rs g f:=by exact cH)(hx:bV env rs x=⟨fx,.str a⟩:=by exact rfl)(hy:bV env rs y=⟨fy,.str b⟩:=by exact rfl)(kx:f=true->fx=true:=by exact bD)(ky:f=true->fy=true:=by exact bD):aC Y draw (⟨.bin .lss x y,g⟩::r) env rs nx m K:=
 bE rfl hg _ (λhf=>gX) (λhf=>Ai) (λha=>h)
def al1 {a b:Ω}(h:aC Y draw r env (⟨f,.bool (Op.bytesLess a b ||decide (a=b))⟩::rs) nx m K)(hg:GF rs g f:=by exact cH)(hx:bV env rs x=⟨fx,.str a⟩:=by exact rfl)(hy:bV env rs y=⟨fy,.str b⟩:=by exact rfl)(kx:f=true->fx=true:=by exact bD)(ky:f=true->fy=true:=by exact bD):aC Y draw (⟨.bin .leq x y,g⟩::r) env rs nx m K:=
 bE rfl hg _ (λhf=>gX) (λhf=>Ai) (λha=>h)
def alT {a b:Ω}(h:aC Y draw r env (⟨f,.bool (!(Op.bytesLess a b ||decide (a=b)))⟩::rs) nx m K)(hg:GF rs g f:=by exact cH)(hx:bV env rs x=⟨fx,.str a⟩:=by exact rfl)(hy:bV env rs y=⟨fy,.str b⟩:=by exact rfl)(kx:f=true->fx=true:=by exact bD)(ky:f=true->fy=true:=by exact bD):aC Y draw (⟨.bin .gtr x y,g⟩::r) env rs nx m K:=
 bE rfl hg _ (λhf=>gX) (λhf=>Ai) (λha=>h)
def alS {a b:Ω}(h:aC Y draw r env (⟨f,.bool (!Op.bytesLess a b)⟩::rs) nx m K)(hg:GF rs g f:=by exact cH)(hx:bV env rs x=⟨fx,.str a⟩:=by exact rfl)(hy:bV env rs y=⟨fy,.str b⟩:=by exact rfl)(kx:f=true->fx=true:=by exact bD)(ky:f=true->fy=true:=by exact bD):aC Y draw (⟨.bin .geq x y,g⟩::r) env rs nx m K:=
 bE rfl hg _ (λhf=>gX) (λhf=>Ai) (λha=>h)
def aau {a b:Ω}(h:aC Y draw r env (⟨f,.bool (decide (a=b))⟩::rs) nx m K)(hg:GF rs g f:=by exact cH)(hx:bV env rs x=⟨fx,.str a⟩:=by exact rfl)(hy:bV env rs y=⟨fy,.str b⟩:=by exact rfl)(kx:f=true->fx=true:=by exact bD)(ky:f=true->fy=true:=by exact bD):aC Y draw (⟨.bin .eql x y,g⟩::r) env rs nx m K:=
 bE rfl hg _ (λhf=>gX) (λhf=>Ai) (λha=>h)
def al4 {a b:Ω}(h:aC Y draw r env (⟨f,.bool (!decide (a=b))⟩::rs) nx m K)(hg:GF rs g f:=by exact cH)(hx:bV env rs x=⟨fx,.str a⟩:=by exact rfl)(hy:bV env rs y=⟨fy,.str b⟩:=by exact rfl)(kx:f=true->fx=true:=by exact bD)(ky:f=true->fy=true:=by exact bD):aC Y draw (⟨.bin .neq x y,g⟩::r) env rs nx m K:=
 bE rfl hg _ (λhf=>gX) (λhf=>Ai) (λha=>h)
def Qj {a b:Ω}(h:aC Y draw r env (⟨f,.str (a++b)⟩::rs) nx m K)(hg:GF rs g f:=by exact cH)(hx:bV env rs x=⟨fx,.str a⟩:=by exact rfl)(hy:bV env rs y=⟨fy,.str b⟩:=by exact rfl)(kx:f=true->fx=true:=by exact bD)(ky:f=true->fy=true:=by exact bD)(hb:f=true->a.length+b.length<=9223372036854775807):aC Y draw (⟨.bin .add x y,g⟩::r) env rs nx m K:=
 bE rfl hg _ (λhf=>by simp[aA.eO,hx,hy,kx hf,ky hf,Br,hb hf]) (λhf=>by simp only[aA.val,hx,hy,FB]) (λha=>h)
def r_eqP {ag:Bool}{ks:Lah}{a b:D}{v:Bool}(h:aC Y draw r env (⟨f,.bool (v)⟩::rs) nx m K)(hb:ig a.cells b.cells=v)(hg:GF rs g f:=by exact cH)(hx:bV env rs x=⟨fx,a⟩:=by exact rfl)(hy:bV env rs y=⟨fy,b⟩:=by exact rfl)(kx:f=true->fx=true:=by exact bD)(ky:f=true->fy=true:=by exact bD)(h1:f=true->a.isAgg=ag/\b.isAgg=ag/\fP ks a.cells/\fP ks b.cells:=by exact vg):aC Y draw (⟨.eqA false ag ks x y,g⟩::r) env rs nx m K:=
 bE rfl hg _ (λhf=>Uh) (λhf=>by simp only[aA.val,hx,hy];rw[hb];rfl) (λha=>h)
def r_eqN {ag:Bool}{ks:Lah}{a b:D}{v:Bool}(h:aC Y draw r env (⟨f,.bool (!v)⟩::rs) nx m K)(hb:ig a.cells b.cells=v)(hg:GF rs g f:=by exact cH)(hx:bV env rs x=⟨fx,a⟩:=by exact rfl)(hy:bV env rs y=⟨fy,b⟩:=by exact rfl)(kx:f=true->fx=true:=by exact bD)(ky:f=true->fy=true:=by exact bD)(h1:f=true->a.isAgg=ag/\b.isAgg=ag/\fP ks a.cells/\fP ks b.cells:=by exact vg):aC Y draw (⟨.eqA true ag ks x y,g⟩::r) env rs nx m K:=
 bE rfl hg _ (λhf=>Uh) (λhf=>by simp only[aA.val,hx,hy];rw[hb];rfl) (λha=>h)
def rU {k:IntKind}(v:Int)(h:aC Y draw r env (⟨f,.int k v⟩::rs) nx m K)(hg:GF rs g f:=by exact cH)(hx:bV env rs x=⟨fx,.int k2 a⟩:=by exact rfl)(kx:f=true->fx=true:=by exact bD)(hb:f=true->k.wrap a=v):aC Y draw (⟨.cvi k x,g⟩::r) env rs nx m K:=
 bE rfl hg _ (λhf=>oX) (λhf=>by simp only[aA.val,hx];rw[hb hf]) (λha=>h)
def D2 {s:Ω}(h:(f=true->draw=false->s.length<=9223372036854775807)->aC Y draw r env (⟨f,.int .i64 s.length⟩::rs) nx m K)(hg:GF rs g f:=by exact cH)(hx:bV env rs x=⟨fx,.str s⟩:=by exact rfl)(kx:f=true->fx=true:=by exact bD):aC Y draw (⟨.lenS x,g⟩::r) env rs nx m K:=
 bE rfl hg _ (λhf=>oX) (λhf=>mj) (λha=>h (λhf hd=>RQ))
def IJ {q:α->D}{xs:List α}(h:(f=true->draw=false->xs.length<=9223372036854775807)->aC Y draw r env (⟨f,.int .i64 xs.length⟩::rs) nx m K)(hg:GF rs g f:=by exact cH)(hx:bV env rs x=⟨fx,.sl k (xs.map q)⟩:=by exact rfl)(kx:f=true->fx=true:=by exact bD):aC Y draw (⟨.len x,g⟩::r) env rs nx m K:=
 bE rfl hg _ (λhf=>oX) (λhf=>mj) (λha=>h (λhf hd=>RQ))
def Qn {i:Nat}(h:(f=true->draw=false->n<=9223372036854775807)->aC Y draw r env (⟨f,.int .i64 n⟩::rs) nx m K)(hg:GF rs g f:=by exact cH)(hx:bV env rs x=⟨fx,.own l k i n⟩:=by exact rfl)(kx:f=true->fx=true:=by exact bD):aC Y draw (⟨.len x,g⟩::r) env rs nx m K:=
 bE rfl hg _ (λhf=>oX) (λhf=>mj) (λha=>h (λhf hd=>RQ))
def al0 (h:aC Y draw r env (⟨f,.int .i64 0⟩::rs) nx m K)(hg:GF rs g f:=by exact cH)(hx:bV env rs x=⟨fx,.aO⟩:=by exact rfl)(kx:f=true->fx=true:=by exact bD):aC Y draw (⟨.len x,g⟩::r) env rs nx m K:=
 bE rfl hg _ (λhf=>oX) (λhf=>mj) (λha=>h)
def al5 {i o:Nat}(h:aC Y draw r env (⟨f,.ptr l k i o⟩::rs) nx m K)(hg:GF rs g f:=by exact cH)(hx:bV env rs x=⟨fx,.ptr l k i o⟩:=by exact rfl)(kx:f=true->fx=true:=by exact bD):aC Y draw (⟨.nilck x,g⟩::r) env rs nx m K:=
 bE rfl hg _ (λhf=>oX) (λhf=>mj) (λha=>h)
def al6 {i o:Nat}{es:Θ}(h:aC Y draw r env (⟨f,.ref k es i o⟩::rs) nx m K)(hg:GF rs g f:=by exact cH)(hx:bV env rs x=⟨fx,.ref k es i o⟩:=by exact rfl)(kx:f=true->fx=true:=by exact bD):aC Y draw (⟨.nilck x,g⟩::r) env rs nx m K:=
 bE rfl hg _ (λhf=>oX) (λhf=>mj) (λha=>h)
def Tp {off i o:Nat}(h:aC Y draw r env (⟨f,.ptr l k i (o+off)⟩::rs) nx m K)(hg:GF rs g f:=by exact cH)(hx:bV env rs x=⟨fx,.ptr l k i o⟩:=by exact rfl)(kx:f=true->fx=true:=by exact bD):aC Y draw (⟨.fa off x,g⟩::r) env rs nx m K:=
 bE rfl hg _ (λhf=>oX) (λhf=>mj) (λha=>h)
def AR {off i o:Nat}{es:Θ}(h:aC Y draw r env (⟨f,.ref k es i (o+off)⟩::rs) nx m K)(hg:GF rs g f:=by exact cH)(hx:bV env rs x=⟨fx,.ref k es i o⟩:=by exact rfl)(kx:f=true->fx=true:=by exact bD):aC Y draw (⟨.fa off x,g⟩::r) env rs nx m K:=
 bE rfl hg _ (λhf=>oX) (λhf=>mj) (λha=>h)
def cD {q:α->D}{xs:List α}{i:Int}(j:Nat)(h:aC Y draw r env (⟨f,.ref k (xs.map q) j 0⟩::rs) nx m K)(hg:GF rs g f:=by exact cH)(hx:bV env rs x=⟨fx,.sl k (xs.map q)⟩:=by exact rfl)(hy:bV env rs y=⟨fy,.int kk i⟩:=by exact rfl)(kx:f=true->fx=true:=by exact bD)(ky:f=true->fy=true:=by exact bD)(hj:f=true->i=(j:Int):=by exact tt)(hb:f=true->j<xs.length:=by exact sc):aC Y draw (⟨.ia k x y,g⟩::r) env rs nx m K:=
 bE rfl hg _ (λhf=>by simp only[aA.eO,hx,hy,bj];exact⟨kx hf,ky hf,trivial,Ln,RL⟩) (λhf=>Ly) (λha=>h)
def GQ {i:Int}(j:Nat)(h:aC Y draw r env (⟨f,.ptr l k (i0+j) 0⟩::rs) nx m K)(hg:GF rs g f:=by exact cH)(hx:bV env rs x=⟨fx,.own l k i0 n⟩:=by exact rfl)(hy:bV env rs y=⟨fy,.int kk i⟩:=by exact rfl)(kx:f=true->fx=true:=by exact bD)(ky:f=true->fy=true:=by exact bD)(hj:f=true->i=(j:Int):=by exact tt)(hb:f=true->j<n:=by exact sc):aC Y draw (⟨.ia k x y,g⟩::r) env rs nx m K:=
 bE rfl hg _ (λhf=>by simp only[aA.eO,hx,hy];exact⟨kx hf,ky hf,trivial,Ln,RL⟩) (λhf=>Ly) (λha=>h)
def Ql {k2 o:Nat}{i:Int}(j:Nat)(h:aC Y draw r env (⟨f,.ptr l k2 i0 (o+j*k)⟩::rs) nx m K)(hg:GF rs g f:=by exact cH)(hx:bV env rs x=⟨fx,.ptr l k2 i0 o⟩:=by exact rfl)(hy:bV env rs y=⟨fy,.int kk i⟩:=by exact rfl)(kx:f=true->fx=true:=by exact bD)(ky:f=true->fy=true:=by exact bD)(hj:f=true->i=(j:Int):=by exact tt)(hb:f=true->j<n:=by exact sc):aC Y draw (⟨.iaP n k x y,g⟩::r) env rs nx m K:=
 bE rfl hg _ (λhf=>acg) (λhf=>Ly) (λha=>h)
def AS {s:Ω}{i:Int}(j:Nat)(h:aC Y draw r env (⟨f,.int .u8 (at8 s j)⟩::rs) nx m K)(hg:GF rs g f:=by exact cH)(hx:bV env rs x=⟨fx,.str s⟩:=by exact rfl)(hy:bV env rs y=⟨fy,.int kk i⟩:=by exact rfl)(kx:f=true->fx=true:=by exact bD)(ky:f=true->fy=true:=by exact bD)(hj:f=true->i=(j:Int):=by exact tt)(hb:f=true->j<s.length:=by exact sc):aC Y draw (⟨.ixS x y,g⟩::r) env rs nx m K:=
 bE rfl hg _ (λhf=>acg) (λhf=>Ly) (λha=>h)
def r_ixA {ag:Bool}{cs:Θ}{i:Int}(j:Nat)(v:D)(h:aC Y draw r env (⟨f,v⟩::rs) nx m K)(hg:GF rs g f:=by exact cH)(hx:bV env rs x=⟨fx,.agg cs⟩:=by exact rfl)(hy:bV env rs y=⟨fy,.int kk i⟩:=by exact rfl)(kx:f=true->fx=true:=by exact bD)(ky:f=true->fy=true:=by exact bD)(hj:f=true->i=(j:Int):=by exact tt)(hb:f=true->j<n:=by exact sc)(hl:cs.length=n*k:=by exact rfl)(h1:ag=false->k=1:=by intro h;first|exact rfl|cases h)(hv:f=true->cut cs (j*k) k ag=v):aC Y draw (⟨.ixA n k ag x y,g⟩::r) env rs nx m K:=
 bE rfl hg _ (λhf=>by simp only[aA.eO,hx,hy];exact⟨kx hf,ky hf,h1,Ln,RL,hl⟩) (λhf=>by simp only[aA.val,hx,hy];rw[<-hv hf,hj hf];rfl) (λha=>h)
def alU {q:α->D}{xs:List α}{i:Int}(h:aC Y draw r env (⟨f,.ref k (xs.map q) i.toNat 0⟩::rs) nx m K)(hg:GF rs g f:=by exact cH)(hx:bV env rs x=⟨fx,.sl k (xs.map q)⟩:=by exact rfl)(hy:bV env rs y=⟨fy,.int kk i⟩:=by exact rfl)(kx:f=true->fx=true:=by exact bD)(ky:f=true->fy=true:=by exact bD)(hb:f=true->0<=i/\i<(xs.length:Nat):=by exact Jv):aC Y draw (⟨.ia k x y,g⟩::r) env rs nx m K:=
 bE rfl hg _ (λhf=>by simp only[aA.eO,hx,hy,bj];exact⟨kx hf,ky hf,trivial,(hb hf).1,(hb hf).2⟩) (λhf=>by simp only[aA.val,hx,hy]<;>rfl) (λha=>h)
def alV {i:Int}(h:aC Y draw r env (⟨f,.ptr l k (i0+i.toNat) 0⟩::rs) nx m K)(hg:GF rs g f:=by exact cH)(hx:bV env rs x=⟨fx,.own l k i0 n⟩:=by exact rfl)(hy:bV env rs y=⟨fy,.int kk i⟩:=by exact rfl)(kx:f=true->fx=true:=by exact bD)(ky:f=true->fy=true:=by exact bD)(hb:f=true->0<=i/\i<(n:Nat):=by exact Jv):aC Y draw (⟨.ia k x y,g⟩::r) env rs nx m K:=
 bE rfl hg _ (λhf=>by simp only[aA.eO,hx,hy,bj];exact⟨kx hf,ky hf,trivial,(hb hf).1,(hb hf).2⟩) (λhf=>by simp only[aA.val,hx,hy]<;>rfl) (λha=>h)
def aax {s:Ω}{i:Int}(h:aC Y draw r env (⟨f,.int .u8 (at8 s i.toNat)⟩::rs) nx m K)(hg:GF rs g f:=by exact cH)(hx:bV env rs x=⟨fx,.str s⟩:=by exact rfl)(hy:bV env rs y=⟨fy,.int kk i⟩:=by exact rfl)(kx:f=true->fx=true:=by exact bD)(ky:f=true->fy=true:=by exact bD)(hb:f=true->0<=i/\i<(s.length:Nat):=by exact Jv):aC Y draw (⟨.ixS x y,g⟩::r) env rs nx m K:=
 bE rfl hg _ (λhf=>by simp only[aA.eO,hx,hy,bj];exact⟨kx hf,ky hf,(hb hf).1,(hb hf).2⟩) (λhf=>by simp only[aA.val,hx,hy]<;>rfl) (λha=>h)
def aaI {s:Ω}(i:Nat)(h:aC Y draw r env (⟨f,.str (s.drop i)⟩::rs) nx m K)(hg:GF rs g f:=by exact cH)(hx:bV env rs x=⟨fx,.str s⟩:=by exact rfl)(hy:bV env rs y=⟨fy,.int k2 a⟩:=by exact rfl)(kx:f=true->fx=true:=by exact bD)(ky:f=true->fy=true:=by exact bD)(hi:f=true->a=(i:Int):=by exact tt)(hb:f=true->i<=s.length:=by exact sc):aC Y draw (⟨.slS x (some y) none,g⟩::r) env rs nx m K:=
 bE rfl hg _ (λhf=>by simp only[aA.eO,M4,dO,hx,hy];have:=hb hf;have:=hi hf;refine⟨kx hf,ky hf,trivial, ?_⟩;simp only[nE,er,eF,dP,Int.ofNat_eq_natCast];omega) (λhf=>by simp only[aA.val,dO,er,hx,hy];rw[hi hf];simp) (λha=>h)
def aaD {q:α->D}{s:List α}(i:Nat)(h:aC Y draw r env (⟨f,.sl k ((s.drop i).map q)⟩::rs) nx m K)(hg:GF rs g f:=by exact cH)(hx:bV env rs x=⟨fx,.sl k (s.map q)⟩:=by exact rfl)(hy:bV env rs y=⟨fy,.int k2 a⟩:=by exact rfl)(kx:f=true->fx=true:=by exact bD)(ky:f=true->fy=true:=by exact bD)(hi:f=true->a=(i:Int):=by exact tt)(hb:f=true->i<=s.length:=by exact sc):aC Y draw (⟨.slA k x (some y) none,g⟩::r) env rs nx m K:=
 bE rfl hg _ (λhf=>by simp only[aA.eO,M4,dO,hx,hy,bj];have:=hb hf;have:=hi hf;refine⟨kx hf,ky hf,trivial,trivial, ?_⟩;simp only[nE,er,eF,dP,Int.ofNat_eq_natCast];omega) (λhf=>by simp only[aA.val,dO,er,hx,hy];rw[hi hf];first|(simp only[List.take_length,Int.toNat_natCast,List.map_drop];done)|simp[List.map_drop,List.map_take]) (λha=>h)
def Nr (i:Nat)(h:aC Y draw r env (⟨f,.own l k (i0+i) (n-i)⟩::rs) nx m K)(hg:GF rs g f:=by exact cH)(hx:bV env rs x=⟨fx,.own l k i0 n⟩:=by exact rfl)(hy:bV env rs y=⟨fy,.int k2 a⟩:=by exact rfl)(kx:f=true->fx=true:=by exact bD)(ky:f=true->fy=true:=by exact bD)(hi:f=true->a=(i:Int):=by exact tt)(hb:f=true->i<=n:=by exact sc):aC Y draw (⟨.slA k x (some y) none,g⟩::r) env rs nx m K:=
 bE rfl hg _ (λhf=>by simp only[aA.eO,M4,dO,hx,hy];have:=hb hf;have:=hi hf;refine⟨kx hf,ky hf,trivial,trivial, ?_⟩;simp only[nE,er,eF,dP,Int.ofNat_eq_natCast];omega) (λhf=>by simp only[aA.val,dO,er,hx,hy];rw[hi hf];simp) (λha=>h)
def aaG {fz:Bool}{s:Ω}(j:Nat)(h:aC Y draw r env (⟨f,.str (s.take j)⟩::rs) nx m K)(hg:GF rs g f:=by exact cH)(hx:bV env rs x=⟨fx,.str s⟩:=by exact rfl)(hz:bV env rs z=⟨fz,.int k3 c⟩:=by exact rfl)(kx:f=true->fx=true:=by exact bD)(kz:f=true->fz=true:=by exact bD)(hj:f=true->c=(j:Int):=by exact tt)(hb:f=true->j<=s.length:=by exact sc):aC Y draw (⟨.slS x none (some z),g⟩::r) env rs nx m K:=
 bE rfl hg _ (λhf=>by simp only[aA.eO,M4,dO,hx,hz];have:=hb hf;have:=hj hf;refine⟨kx hf,trivial,kz hf, ?_⟩;simp only[nE,er,eF,dP,Int.ofNat_eq_natCast];omega) (λhf=>by simp only[aA.val,dO,er,hx,hz];rw[hj hf];simp) (λha=>h)
def aaB {fz:Bool}{q:α->D}{s:List α}(j:Nat)(h:aC Y draw r env (⟨f,.sl k ((s.take j).map q)⟩::rs) nx m K)(hg:GF rs g f:=by exact cH)(hx:bV env rs x=⟨fx,.sl k (s.map q)⟩:=by exact rfl)(hz:bV env rs z=⟨fz,.int k3 c⟩:=by exact rfl)(kx:f=true->fx=true:=by exact bD)(kz:f=true->fz=true:=by exact bD)(hj:f=true->c=(j:Int):=by exact tt)(hb:f=true->j<=s.length:=by exact sc):aC Y draw (⟨.slA k x none (some z),g⟩::r) env rs nx m K:=
 bE rfl hg _ (λhf=>by simp only[aA.eO,M4,dO,hx,hz,bj];have:=hb hf;have:=hj hf;refine⟨kx hf,trivial,kz hf,trivial, ?_⟩;simp only[nE,er,eF,dP,Int.ofNat_eq_natCast];omega) (λhf=>by simp only[aA.val,dO,er,hx,hz];rw[hj hf];first|(simp only[List.take_length,Int.toNat_natCast,List.map_drop];done)|simp[List.map_drop,List.map_take]) (λha=>h)
def aaE {fz:Bool}(j:Nat)(h:aC Y draw r env (⟨f,.own l k i0 j⟩::rs) nx m K)(hg:GF rs g f:=by exact cH)(hx:bV env rs x=⟨fx,.own l k i0 n⟩:=by exact rfl)(hz:bV env rs z=⟨fz,.int k3 c⟩:=by exact rfl)(kx:f=true->fx=true:=by exact bD)(kz:f=true->fz=true:=by exact bD)(hj:f=true->c=(j:Int):=by exact tt)(hb:f=true->j<=n:=by exact sc):aC Y draw (⟨.slA k x none (some z),g⟩::r) env rs nx m K:=
 bE rfl hg _ (λhf=>by simp only[aA.eO,M4,dO,hx,hz];have:=hb hf;have:=hj hf;refine⟨kx hf,trivial,kz hf,trivial, ?_⟩;simp only[nE,er,eF,dP,Int.ofNat_eq_natCast];omega) (λhf=>by simp only[aA.val,dO,er,hx,hz];rw[hj hf];simp) (λha=>h)
def aaH {fz:Bool}{s:Ω}(i:Nat)(j:Nat)(h:aC Y draw r env (⟨f,.str ((s.take j).drop i)⟩::rs) nx m K)(hg:GF rs g f:=by exact cH)(hx:bV env rs x=⟨fx,.str s⟩:=by exact rfl)(hy:bV env rs y=⟨fy,.int k2 a⟩:=by exact rfl)(hz:bV env rs z=⟨fz,.int k3 c⟩:=by exact rfl)(kx:f=true->fx=true:=by exact bD)(ky:f=true->fy=true:=by exact bD)(kz:f=true->fz=true:=by exact bD)(hi:f=true->a=(i:Int):=by exact tt)(hj:f=true->c=(j:Int):=by exact tt)(hb:f=true->i<=j/\j<=s.length:=by exact Jv):aC Y draw (⟨.slS x (some y) (some z),g⟩::r) env rs nx m K:=
 bE rfl hg _ (λhf=>by simp only[aA.eO,M4,dO,hx,hy,hz];have:=hb hf;have:=hi hf;have:=hj hf;refine⟨kx hf,ky hf,kz hf, ?_⟩;simp only[nE,er,eF,dP,Int.ofNat_eq_natCast];omega) (λhf=>by simp only[aA.val,dO,er,hx,hy,hz];rw[hi hf,hj hf];simp) (λha=>h)
def aaC {fz:Bool}{q:α->D}{s:List α}(i:Nat)(j:Nat)(h:aC Y draw r env (⟨f,.sl k (((s.take j).drop i).map q)⟩::rs) nx m K)(hg:GF rs g f:=by exact cH)(hx:bV env rs x=⟨fx,.sl k (s.map q)⟩:=by exact rfl)(hy:bV env rs y=⟨fy,.int k2 a⟩:=by exact rfl)(hz:bV env rs z=⟨fz,.int k3 c⟩:=by exact rfl)(kx:f=true->fx=true:=by exact bD)(ky:f=true->fy=true:=by exact bD)(kz:f=true->fz=true:=by exact bD)(hi:f=true->a=(i:Int):=by exact tt)(hj:f=true->c=(j:Int):=by exact tt)(hb:f=true->i<=j/\j<=s.length:=by exact Jv):aC Y draw (⟨.slA k x (some y) (some z),g⟩::r) env rs nx m K:=
 bE rfl hg _ (λhf=>by simp only[aA.eO,M4,dO,hx,hy,hz,bj];have:=hb hf;have:=hi hf;have:=hj hf;refine⟨kx hf,ky hf,kz hf,trivial, ?_⟩;simp only[nE,er,eF,dP,Int.ofNat_eq_natCast];omega) (λhf=>by simp only[aA.val,dO,er,hx,hy,hz];rw[hi hf,hj hf];first|(simp only[List.take_length,Int.toNat_natCast,List.map_drop];done)|simp[List.map_drop,List.map_take]) (λha=>h)
def aaF {fz:Bool}(i:Nat)(j:Nat)(h:aC Y draw r env (⟨f,.own l k (i0+i) (j-i)⟩::rs) nx m K)(hg:GF rs g f:=by exact cH)(hx:bV env rs x=⟨fx,.own l k i0 n⟩:=by exact rfl)(hy:bV env rs y=⟨fy,.int k2 a⟩:=by exact rfl)(hz:bV env rs z=⟨fz,.int k3 c⟩:=by exact rfl)(kx:f=true->fx=true:=by exact bD)(ky:f=true->fy=true:=by exact bD)(kz:f=true->fz=true:=by exact bD)(hi:f=true->a=(i:Int):=by exact tt)(hj:f=true->c=(j:Int):=by exact tt)(hb:f=true->i<=j/\j<=n:=by exact Jv):aC Y draw (⟨.slA k x (some y) (some z),g⟩::r) env rs nx m K:=
 bE rfl hg _ (λhf=>by simp only[aA.eO,M4,dO,hx,hy,hz];have:=hb hf;have:=hi hf;have:=hj hf;refine⟨kx hf,ky hf,kz hf,trivial, ?_⟩;simp only[nE,er,eF,dP,Int.ofNat_eq_natCast];omega) (λhf=>by simp only[aA.val,dO,er,hx,hy,hz];rw[hi hf,hj hf];simp) (λha=>h)
def lh {i:Nat}{ds:Θ}(v:D)(h:aC Y draw r env (⟨f,v⟩::rs) nx m K)(hg:GF rs g f:=by exact cH)(hx:bV env rs x=⟨fx,.tup ds⟩:=by exact rfl)(kx:f=true->fx=true:=by exact bD)(hv:f=true->ds.getD i .any=v:=by exact λ_=>rfl)(hb:f=true->i<ds.length:=by intro _;simp only[bJ,cj];omega):aC Y draw (⟨.ext x i,g⟩::r) env rs nx m K:=
 bE rfl hg _ (λhf=>by simp only[aA.eO,hx];exact⟨kx hf,hb hf⟩) (λhf=>by simp only[aA.val,hx];exact hv hf) (λha=>h)
def bW {z:Θ}(v:Θ)(h:aC Y draw r env (⟨f,.agg v⟩::rs) nx m K)(hg:GF rs g f:=by exact cH)(hv:f=true->CY (bV env rs) z ps=v:=by exact λ_=>rfl)(ho:f=true->Aw (bV env rs) z.length ps:=by exact vg):aC Y draw (⟨.build z ps,g⟩::r) env rs nx m K:=
 bE rfl hg _ (λhf=>ho hf) (λhf=>by simp only[aA.val];rw[hv hf]) (λ_=>h)
def bc {z:Θ}(d:D)(h:aC Y draw r env (⟨f,d⟩::rs) nx m K)(hg:GF rs g f:=by exact cH)(hv:f=true->D.agg (CY (bV env rs) z ps)=d:=by exact λ_=>rfl)(ho:f=true->Aw (bV env rs) z.length ps:=by exact vg):aC Y draw (⟨.build z ps,g⟩::r) env rs nx m K:=
 bE rfl hg _ (λhf=>ho hf) (λhf=>by simp only[aA.val];exact hv hf) (λ_=>h)
def akJ {e:D}{o:Nat}{ag:Bool}(h:e.isAgg=ag):lC e n n o ag=e:=by simp[lC,h]
def mH {ag:Bool}{d:D}(h:aC Y draw r env (⟨f,d⟩::rs) nx m K)(hg:GF rs g f:=by exact cH)(hx:bV env rs x=⟨fx,.ptr l n 0 0⟩:=by exact rfl)(kx:f=true->fx=true:=by exact bD)(hl:f=true->look m l=some (.buf n [d]):=by exact λ_=>rfl)(ha:f=true->d.isAgg=ag:=by exact λ_=>rfl):aC Y draw (⟨.ld n ag x,g⟩::r) env rs nx m K:=
 gB rfl hg _ (λhf=>by simp only[aA.eO,hx,MA,ep,hl hf];exact⟨kx hf,⟨trivial,aJ⟩,ae⟩) (λhf=>by simp only[aA.val,hx,MB,aK,hl hf,iZ];exact akJ (ha hf)) m rfl (λha=>h)
def qv {o:Nat}{ag:Bool}{d:D}(v:D)(h:aC Y draw r env (⟨f,v⟩::rs) nx m K)(hg:GF rs g f:=by exact cH)(hx:bV env rs x=⟨fx,.ptr l k 0 o⟩:=by exact rfl)(kx:f=true->fx=true:=by exact bD)(hl:f=true->look m l=some (.buf k [d]):=by exact λ_=>rfl)(hv:f=true->lC d k n o ag=v:=by exact λ_=>rfl)(ho:o+n<=k:=by omega):aC Y draw (⟨.ld n ag x,g⟩::r) env rs nx m K:=
 gB rfl hg _ (λhf=>by simp only[aA.eO,hx,MA,ep,hl hf];exact⟨kx hf,⟨trivial,aJ⟩,ho⟩) (λhf=>RO) m rfl (λha=>h)
def ym [Inhabited α]{i o:Nat}{ag:Bool}{q:α->D}{xs:List α}(v:D)(h:aC Y draw r env (⟨f,v⟩::rs) nx m K)(hg:GF rs g f:=by exact cH)(hx:bV env rs x=⟨fx,.ptr l k i o⟩:=by exact rfl)(kx:f=true->fx=true:=by exact bD)(hl:f=true->look m l=some (.buf k (xs.map q)):=by exact λ_=>rfl)(hi:f=true->i<xs.length:=by exact sc)(hv:f=true->lC (q xs[i]!) k n o ag=v:=by exact λ_=>rfl)(ho:o+n<=k:=by omega):aC Y draw (⟨.ld n ag x,g⟩::r) env rs nx m K:=
 gB rfl hg _ (λhf=>by simp only[aA.eO,hx,MA,ep,hl hf,bj];exact⟨kx hf,⟨trivial,by have:=hi hf;omega⟩,ho⟩) (λhf=>by simp only[aA.val,hx,MB,aK,hl hf];rw[getD_map (hi hf)];exact hv hf) m rfl (λha=>h)
def dj [Inhabited α]{i o:Nat}{ag:Bool}{q:α->D}{xs:List α}(v:D)(h:aC Y draw r env (⟨f,v⟩::rs) nx m K)(hg:GF rs g f:=by exact cH)(hx:bV env rs x=⟨fx,.ref k (xs.map q) i o⟩:=by exact rfl)(kx:f=true->fx=true:=by exact bD)(hi:f=true->i<xs.length:=by exact sc)(hv:f=true->lC (q xs[i]!) k n o ag=v:=by exact λ_=>rfl)(ho:o+n<=k:=by omega):aC Y draw (⟨.ld n ag x,g⟩::r) env rs nx m K:=
 gB rfl hg _ (λhf=>acu) (λhf=>acp) m rfl (λha=>h)
def r_ldQ {i o:Nat}{ag:Bool}{es:Θ}(v:D)(h:aC Y draw r env (⟨f,v⟩::rs) nx m K)(hg:GF rs g f:=by exact cH)(hx:bV env rs x=⟨fx,.ref k es i o⟩:=by exact rfl)(kx:f=true->fx=true:=by exact bD)(hi:f=true->i<es.length:=by intro _;simp only[bJ,cj];omega)(hv:f=true->lC (es.getD i .any) k n o ag=v:=by exact λ_=>rfl)(ho:o+n<=k:=by omega):aC Y draw (⟨.ld n ag x,g⟩::r) env rs nx m K:=
 gB rfl hg _ (λhf=>RI) (λhf=>Lj) m rfl (λha=>h)
def aay {i o:Nat}{ag:Bool}{es:Θ}(v:D)(h:aC Y draw r env (⟨f,v⟩::rs) nx m K)(hg:GF rs g f:=by exact cH)(hx:bV env rs x=⟨fx,.ref k es i o⟩:=by exact rfl)(kx:f=true->fx=true:=by exact bD)(hi:f=true->i<es.length:=by intro _;simp only[bJ,cj];omega)(hv:f=true->lC (es.getD i .any) k n o ag=v:=by exact λ_=>rfl)(ho:o+n<=k:=by omega):aC Y draw (⟨.ldI n ag x,g⟩::r) env rs nx m K:=
 bE rfl hg _ (λhf=>RI) (λhf=>Lj) (λha=>h)
def yl {d:D}(h:aC Y draw r env (⟨f,.ptr L k 0 0⟩::rs) nx m2 K)(hg:GF rs g f:=by exact cH)(hx:bV env rs x=⟨fx,d⟩:=by exact rfl)(kx:f=true->fx=true:=by exact bD)(hc:d.cells.length=k:=by exact rfl)(hL:nx+rs.length=L:=by exact Ab)(hm:cW m L (.buf k [d])=m2:=by simp only[cW,de,Nat.reduceEqDiff,br,ba,Nat.reduceAdd,reduceCtorEq];exact rfl):aC Y draw (⟨.box k x,g⟩::r) env rs nx m K:=
 gB rfl hg _ (λhf=>by simp only[aA.eO,hx];exact⟨kx hf,hc⟩) (λhf=>by simp only[aA.val,hx,hL]) _ (by simp only[aA.bS,hx,hL];exact hm) (λ_=>h)
def r_mkB (h:aC Y draw r env (⟨f,.ptr L 2 0 0⟩::rs) nx m2 K)(hg:GF rs g f:=by exact cH)(hL:nx+rs.length=L:=by exact Ab)(hm:cW m L (.bld none 0 false)=m2:=by simp only[cW,de,Nat.reduceEqDiff,br,ba,Nat.reduceAdd,reduceCtorEq];exact rfl):aC Y draw (⟨.mkB,g⟩::r) env rs nx m K:=
 gB rfl hg _ (λ_=>trivial) (λhf=>by simp only[aA.val,hL]) _ (by simp only[aA.bS,hL];exact hm) (λ_=>h)
def r_s2b {s:Ω}(h:aC Y draw r env (⟨f,.own L 1 0 s.length⟩::rs) nx m2 K)(hg:GF rs g f:=by exact cH)(hx:bV env rs x=⟨fx,.str s⟩:=by exact rfl)(kx:f=true->fx=true:=by exact bD)(hL:nx+rs.length=L:=by exact Ab)(hm:cW m L (.buf 1 (s.map λb=>.int .u8 b.toNat))=m2:=by simp only[cW,de,Nat.reduceEqDiff,br,ba,Nat.reduceAdd,reduceCtorEq];exact rfl):aC Y draw (⟨.s2b x,g⟩::r) env rs nx m K:=
 gB rfl hg _ (λhf=>by simp only[aA.eO,hx];exact⟨kx hf,trivial⟩) (λhf=>by simp only[aA.val,hx,hL]) _ (by simp only[aA.bS,hx,hL];exact hm) (λ_=>h)
def r_rng {s:Ω}(h:aC Y draw r env (⟨f,.it L⟩::rs) nx m2 K)(hg:GF rs g f:=by exact cH)(hx:bV env rs x=⟨fx,.str s⟩:=by exact rfl)(kx:f=true->fx=true:=by exact bD)(hL:nx+rs.length=L:=by exact Ab)(hm:cW m L (.iter s 0)=m2:=by simp only[cW,de,Nat.reduceEqDiff,br,ba,Nat.reduceAdd,reduceCtorEq];exact rfl):aC Y draw (⟨.rng x,g⟩::r) env rs nx m K:=
 gB rfl hg _ (λhf=>by simp only[aA.eO,hx];exact⟨kx hf,trivial⟩) (λhf=>by simp only[aA.val,hx,hL]) _ (by simp only[aA.bS,hx,hL];exact hm) (λ_=>h)
def bm {z:D}{ps:Lac}(es:Θ)(h:aC Y draw r env (⟨f,.own L k 0 n⟩::rs) nx m2 K)(hg:GF rs g f:=by exact cH)(he:my (bV env rs) (List.replicate n z) ps=es:=by exact rfl)(ho:f=true->qW (bV env rs) k n ps:=by exact vg)(hz:z.cells.length=k:=by exact rfl)(hL:nx+rs.length=L:=by exact Ab)(hm:cW m L (.buf k es)=m2:=by simp only[cW,de,Nat.reduceEqDiff,br,ba,Nat.reduceAdd,reduceCtorEq];exact rfl):aC Y draw (⟨.bsl k z n ps,g⟩::r) env rs nx m K:=
 gB rfl hg _ (λhf=>⟨hz,ho hf⟩) (λhf=>by simp only[aA.val,hL]) _ (by simp only[aA.bS,he,hL];exact hm) (λ_=>h)
def ag5 {z:D}{k1:IntKind}(n:Nat)(h:aC Y draw r env (⟨true,.own L k 0 n⟩::rs) nx m2 K)(hx:bV env rs x=⟨true,.int k1 a⟩:=by exact rfl)(hy:bV env rs y=⟨true,.int k2 c⟩:=by exact rfl)(hn:a=(n:Int):=by first|exact rfl|omega)(hc:a<=c/\c<=1073741824:=by constructor<;>omega)(hz:z.cells.length=k:=by exact rfl)(hL:nx+rs.length=L:=by exact Ab)(hm:cW m L (.buf k (List.replicate n z))=m2:=by simp only[cW,de,Nat.reduceEqDiff,br,ba,Nat.reduceAdd,reduceCtorEq];exact rfl):aC Y draw (⟨.mks k z x y,none⟩::r) env rs nx m K:=
 pQ rfl _ (by simp only[aA.eO,hx,hy];exact⟨trivial,trivial,hz,ae,hc.1,hc.2⟩) (by simp only[aA.val,hx,hL,D.nat,hn];rfl) _ (by simp only[aA.bS,hx,hL,D.nat,hn];exact hm) (λ_=>h)
def cE {o:Nat}{d v:D}(e:D)(h:aC Y draw r env (⟨true,.any⟩::rs) nx m2 K)(hx:bV env rs x=⟨true,.ptr l k 0 o⟩:=by exact rfl)(hy:bV env rs y=⟨true,v⟩:=by exact rfl)(hl:look m l=some (.buf k [d]):=by exact rfl)(hc:v.cells.length=n:=by exact rfl)(he:tj d k n o v=e:=by exact rfl)(ho:o+n<=k:=by omega)(hm:cW m l (.buf k [e])=m2:=by simp only[cW,de,Nat.reduceEqDiff,br,ba,Nat.reduceAdd,reduceCtorEq];exact rfl):aC Y draw (⟨.st n x y,none⟩::r) env rs nx m K:=
 pQ rfl _ (by simp only[aA.eO,hx,hy,ep,hl];exact⟨trivial,trivial,hc,⟨trivial,aJ⟩,ho⟩) rfl _ (by simp only[aA.bS,hx,hy,aK,hl,iZ,List.set_cons_zero,he];exact hm) (λ_=>h)
def ag6 {o:Nat}{qs:ς}{d v:D}(e:D)(h:aC Y draw r env (⟨true,.any⟩::rs) nx m2 K)(hx:bV env rs x=⟨true,.ptr l k 0 o⟩:=by exact rfl)(hy:bV env rs y=⟨true,v⟩:=by exact rfl)(hl:look m l=some (.buf k [d]):=by exact rfl)(hc:v.cells.length=n:=by exact rfl)(he:tj d k n o v=e:=by exact rfl)(ho:o+n<=k:=by omega)(hw:k<=4:=by omega)(hm:cW m l (.buf k [e])=m2:=by simp only[cW,de,Nat.reduceEqDiff,br,ba,Nat.reduceAdd,reduceCtorEq];exact rfl):aC Y draw (⟨.stU n x y qs,none⟩::r) env rs nx m K:=
 pQ rfl _ (by simp only[aA.eO,hx,hy,ep,hl];exact⟨trivial,trivial,hc,⟨trivial,aJ⟩,ho,.inl hw⟩) rfl _ (by simp only[aA.bS,hx,hy,aK,hl,iZ,List.set_cons_zero,he];exact hm) (λ_=>h)
def sU {i o:Nat}{v:D}{es:Θ}(es2:Θ)(h:aC Y draw r env (⟨true,.any⟩::rs) nx m2 K)(hx:bV env rs x=⟨true,.ptr l k i o⟩:=by exact rfl)(hy:bV env rs y=⟨true,v⟩:=by exact rfl)(hl:look m l=some (.buf k es):=by exact rfl)(hi:i<es.length)(hc:v.cells.length=n:=by exact rfl)(he:es.set i (tj (es.getD i .any) k n o v)=es2)(ho:o+n<=k:=by omega)(hm:cW m l (.buf k es2)=m2:=by simp only[cW,de,Nat.reduceEqDiff,br,ba,Nat.reduceAdd,reduceCtorEq];exact rfl):aC Y draw (⟨.st n x y,none⟩::r) env rs nx m K:=
 pQ rfl _ (by simp only[aA.eO,hx,hy,ep,hl];exact⟨trivial,trivial,hc,⟨trivial,ae⟩,ho⟩) rfl _ (by simp only[aA.bS,hx,hy,aK,hl,he];exact hm) (λ_=>h)
def n9 (m:Γ)(k:Nat)(d:D)(ys:Θ):Prop:=CS m k d/\qO m d=ys
def n9.sl {es:Θ}:n9 m k (.sl k es) es:=⟨rfl,rfl⟩
def n9.aO:n9 m k .aO []:=⟨trivial,rfl⟩
def n9.own {i:Nat}{es:Θ}(hl:look m l=some (.buf k es))(hb:i+n<=es.length):n9 m k (.own l k i n) ((es.drop i).take n):=⟨⟨rfl,by simp only[ep,hl];exact⟨trivial,hb⟩⟩,by simp only[qO,aK,hl]⟩
def n9.all {es:Θ}(hl:look m l=some (.buf k es))(hb:n=es.length):n9 m k (.own l k 0 n) es:=by
 have:=n9.own (i:=0) (n:=n) hl ae;simpa[hb]using this
def n9.str {s:Ω}:n9 m 1 (.str s) (s.map λb=>.int .u8 b.toNat):=⟨rfl,rfl⟩
def zL {d:D}{ys:Θ}(h:aC Y draw r env (⟨true,.own L k 0 n⟩::rs) nx m2 K)(hx:bV env rs x=⟨true,.aO⟩:=by exact rfl)(hy:bV env rs y=⟨true,d⟩:=by exact rfl)(he:n9 m k d ys)(hn:ys.length=n)(hb:n<=1073741824:=by omega)(hL:nx+rs.length=L:=by exact Ab)(hm:cW m L (.buf k ys)=m2:=by simp only[cW,de,Nat.reduceEqDiff,br,ba,Nat.reduceAdd,reduceCtorEq];exact rfl):aC Y draw (⟨.app k x y,none⟩::r) env rs nx m K:=
 pQ rfl _ (by simp only[aA.eO,hx,hy,he.2,hn];exact⟨trivial,trivial,he.1,hb⟩) (by simp only[aA.val,hx,hy,he.2,hn,hL]) _ (by simp only[aA.bS,hx,hy,he.2,hL];exact hm) (λ_=>h)
def Cl {d:D}{ys:Θ}(h:aC Y draw r env (⟨f,.own L k 0 n⟩::rs) nx m2 K)(hg:GF rs g f:=by exact cH)(hy:bV env rs y=⟨fy,d⟩:=by exact rfl)(ky:f=true->fy=true:=by exact bD)(he:n9 m k d ys)(hn:ys.length=n)(hb:n<=1073741824:=by omega)(hL:nx+rs.length=L:=by exact Ab)(hm:cW m L (.buf k ys)=m2:=by simp only[cW,de,Nat.reduceEqDiff,br,ba,Nat.reduceAdd,reduceCtorEq];exact rfl):aC Y draw (⟨.appN k y,g⟩::r) env rs nx m K:=
 gB rfl hg _ (λhf=>by simp only[aA.eO,hy,he.2,hn];exact⟨ky hf,he.1,hb⟩) (λhf=>by simp only[aA.val,hy,he.2,hn,hL]) _ (by simp only[aA.bS,hy,he.2,hL];exact hm) (λ_=>h)
def yk {i a:Nat}{d:D}{xs ys:Θ}(zs:Θ)(h:aC Y draw r env (⟨true,.own L k 0 n⟩::rs) nx m2 K)(hx:bV env rs x=⟨true,.own l k i a⟩:=by exact rfl)(hy:bV env rs y=⟨true,d⟩:=by exact rfl)(hl:look m l=some (.buf k xs):=by exact rfl)(ha:i+a<=xs.length)(he:n9 m k d ys)(hz:(xs.drop i).take a++ys=zs)(hn:a+ys.length=n)(hb:n<=1073741824:=by omega)(hL:nx+rs.length=L:=by exact Ab)(hm:cW (de m l) L (.buf k zs)=m2:=by simp only[cW,de,Nat.reduceEqDiff,br,ba,Nat.reduceAdd,reduceCtorEq];exact rfl):aC Y draw (⟨.app k x y,none⟩::r) env rs nx m K:=
 pQ rfl _ (by simp only[aA.eO,hx,hy,he.2,ep,hl,hn];exact⟨trivial,trivial,he.1,trivial,⟨trivial,ha⟩,hb⟩) (by simp only[aA.val,hx,hy,he.2,hn,hL]) _ (by simp only[aA.bS,hx,hy,he.2,aK,hl,hz,hL];exact hm) (λ_=>h)
def cQ {q:α->D}{xs:List α}{e:α}{ly:Nat}(h:aC Y draw r env (⟨true,.own L k 0 (xs++[e]).length⟩::rs) nx m2 K)(hx:bV env rs x=⟨true,.own l k 0 xs.length⟩:=by exact rfl)(hy:bV env rs y=⟨true,.own ly k 0 1⟩:=by exact rfl)(hl:look m l=some (.buf k (xs.map q)):=by exact rfl)(he:look m ly=some (.buf k [q e]):=by exact rfl)(hb:xs.length+1<=1073741824:=by omega)(hL:nx+rs.length=L:=by exact Ab)(hm:cW (de m l) L (.buf k ((xs++[e]).map q))=m2:=by simp only[cW,de,Nat.reduceEqDiff,br,ba,Nat.reduceAdd,reduceCtorEq];exact rfl):aC Y draw (⟨.app k x y,none⟩::r) env rs nx m K:=
 yk (zs:=(xs++[e]).map q) (hx:=hx) (hy:=hy) (hl:=hl) (ha:=aJ) (he:=n9.all (es:=[q e]) he rfl) (hz:=by rw[dN,gG aJ];simp) (hn:=aJ) (hb:=fM) (hL:=hL) (hm:=hm) (h:=h)
def pO {q:α->D}{xs ys:List α}{d:D}(h:aC Y draw r env (⟨true,.own L k 0 (xs++ys).length⟩::rs) nx m2 K)(hx:bV env rs x=⟨true,.own l k 0 xs.length⟩:=by exact rfl)(hy:bV env rs y=⟨true,d⟩:=by exact rfl)(hl:look m l=some (.buf k (xs.map q)):=by exact rfl)(he:n9 m k d (ys.map q))(hb:xs.length+ys.length<=1073741824:=by omega)(hL:nx+rs.length=L:=by exact Ab)(hm:cW (de m l) L (.buf k ((xs++ys).map q))=m2:=by simp only[cW,de,Nat.reduceEqDiff,br,ba,Nat.reduceAdd,reduceCtorEq];exact rfl):aC Y draw (⟨.app k x y,none⟩::r) env rs nx m K:=
 yk (zs:=(xs++ys).map q) (hx:=hx) (hy:=hy) (hl:=hl) (ha:=aJ) (he:=he) (hz:=by rw[dN,gG aJ];simp) (hn:=aJ) (hb:=fM) (hL:=hL) (hm:=hm) (h:=h)
def aar {d:D}{ys:Θ}(s:Ω)(h:aC Y draw r env (⟨f,.str s⟩::rs) nx m K)(hg:GF rs g f:=by exact cH)(hx:bV env rs x=⟨fx,d⟩:=by exact rfl)(kx:f=true->fx=true:=by exact bD)(he:f=true->n9 m 1 d ys)(hs:f=true->ys=s.map λb=>.int .u8 b.toNat)(hd:d.aky=false:=by exact rfl):aC Y draw (⟨.b2s x,g⟩::r) env rs nx m K:=
 gB rfl hg _ (λhf=>by
  simp only[aA.eO,hx,(he hf).2,hs hf];refine⟨kx hf,(by cases d<;>first|trivial|(cases hd)),(he hf).1,λe hm=>?_⟩;obtain⟨b,_,rfl⟩:=bI.1 hm;have:=b.toNat_lt;exact⟨rfl,ae,ae⟩) (λhf=>by simp only[aA.val,hx,(he hf).2,hs hf];rw[adi]) m rfl (λ_=>h)
def IM {pos:Nat}{s:Ω}(c w:Nat)(h:aC Y draw r env (⟨true,.tup [.bool true,.int .i64 pos,.int .i32 c]⟩::rs) nx m2 K)(hx:bV env rs x=⟨true,.it l⟩:=by exact rfl)(hl:look m l=some (.iter s pos):=by exact rfl)(hp:pos<s.length)(hc:y9 s pos=(c,w))(hm:cW m l (.iter s (pos+w))=m2:=by simp only[cW,de,Nat.reduceEqDiff,br,ba,Nat.reduceAdd,reduceCtorEq];exact rfl):aC Y draw (⟨.aU x,none⟩::r) env rs nx m K:=
 pQ rfl _ (by simp only[aA.eO,hx,hl];exact⟨trivial,trivial⟩) (by simp only[aA.val,hx,hl,hc,hp,decide_true,cond_true]) _ (by simp only[aA.bS,hx,hl,hc,hp,decide_true,cond_true];exact hm) (λ_=>h)
def IL {pos:Nat}{s:Ω}(h:aC Y draw r env (⟨true,.tup [.bool false]⟩::rs) nx m K)(hx:bV env rs x=⟨true,.it l⟩:=by exact rfl)(hl:look m l=some (.iter s pos):=by exact rfl)(hp:¬pos<s.length):aC Y draw (⟨.aU x,none⟩::r) env rs nx m K:=
 pQ rfl _ (by simp only[aA.eO,hx,hl];exact⟨trivial,trivial⟩) (by simp only[aA.val,hx,hl,hp,decide_false,cond_false]) _ (by simp only[aA.bS,hx,hl,hp,decide_false,cond_false]) (λ_=>h)
def aE {aHa:Θ}{v:D}(h:aC Y draw r env (⟨f,v⟩::rs) nx m K)(hg:GF rs g f:=by exact cH)(hc:Y.pre n aHa/\Y.val n aHa=v)(ha:f=true->jn m sh (iU (bV env rs) args)=aHa:=by exact λ_=>rfl)(ho:f=true->Ci (bV env rs) args:=by exact vg)(hp:f=true->jb m sh (iU (bV env rs) args):=by exact vg)(hk:f=true->qR (iU (bV env rs) args) v=true:=by exact λ_=>rfl):aC Y draw (⟨.call n args sh,g⟩::r) env rs nx m K:=
 gB rfl hg _ (λhf=>by simp only[aA.eO,(dH _ _ _).1,ha hf,hc.2];exact⟨ho hf,(dH _ _ _).2.2 (hp hf),hc.1,hk hf⟩) (λhf=>by simp only[aA.val,(dH _ _ _).1,ha hf,hc.2]) m rfl (λ_=>h)
def ca {aHa:Θ}{v:D}(h:aC Y draw r env (⟨f,v⟩::rs) nx m K)(hg:GF rs g f:=by exact cH)(hc:f=true->Y.pre n aHa/\Y.val n aHa=v)(ha:f=true->jn m sh (iU (bV env rs) args)=aHa:=by exact λ_=>rfl)(ho:f=true->Ci (bV env rs) args:=by exact vg)(hp:f=true->jb m sh (iU (bV env rs) args):=by exact vg)(hk:f=true->qR (iU (bV env rs) args) v=true:=by exact λ_=>rfl):aC Y draw (⟨.call n args sh,g⟩::r) env rs nx m K:=
 gB rfl hg _ (λhf=>by simp only[aA.eO,(dH _ _ _).1,ha hf,(hc hf).2];exact⟨ho hf,(dH _ _ _).2.2 (hp hf),(hc hf).1,hk hf⟩) (λhf=>by simp only[aA.val,(dH _ _ _).1,ha hf,(hc hf).2]) m rfl (λ_=>h)
def Cm {caps:Θ}{aHa:Θ}{v:D}(h:aC Y draw r env (⟨f,v⟩::rs) nx m K)(hg:GF rs g f:=by exact cH)(hx:bV env rs x=⟨fx,.fn n caps⟩:=by exact rfl)(kx:f=true->fx=true:=by exact bD)(hb:n<1000000:=by decide)(hc:f=true->Y.pre n aHa/\Y.val n aHa=v)(ha:f=true->jn m sh (iU (bV env rs) args++caps)=aHa:=by exact λ_=>rfl)(ho:f=true->Ci (bV env rs) args:=by exact vg)(hp:f=true->jb m sh (iU (bV env rs) args++caps):=by exact vg)(hk:f=true->qR (iU (bV env rs) args++caps) v=true:=by exact λ_=>rfl):aC Y draw (⟨.callv x args sh,g⟩::r) env rs nx m K:=
 gB rfl hg _ (λhf=>by simp only[aA.eO,hx,(dH _ _ _).1,ha hf,(hc hf).2];exact⟨kx hf,ho hf,hb,(dH _ _ _).2.2 (hp hf),(hc hf).1,hk hf⟩) (λhf=>by simp only[aA.val,hx,(dH _ _ _).1,ha hf,(hc hf).2]) m rfl (λ_=>h)
def Tq {caps:ς}(cs:Θ)(h:aC Y draw r env (⟨f,.fn n cs⟩::rs) nx m K)(hg:GF rs g f:=by exact cH)(hc:f=true->iU (bV env rs) caps=cs:=by exact λ_=>rfl)(ho:f=true->Ci (bV env rs) caps:=by exact vg):aC Y draw (⟨.mkf n caps,g⟩::r) env rs nx m K:=
 bE rfl hg _ (λhf=>ho hf) (λhf=>by simp only[aA.val,hc hf]) (λ_=>h)
def dd {d v e:D}{aHa:Θ}(h:aC Y draw r env (⟨true,v⟩::rs) nx m2 K)(hx:bV env rs x=⟨true,.ptr l k 0 0⟩:=by exact rfl)(hl:look m l=some (.buf k [d]):=by exact rfl)(hd:d.aV=true:=by exact rfl)(hc:Y.fp n d aHa/\Y.fv n d aHa=v/\Y.fs n d aHa=e)(ha:jn [] sh (iU (bV env rs) args)=aHa:=by exact rfl)(ho:Ci (bV env rs) args:=by repeat' first|exact trivial|exact rfl|refine And.intro ?_ ?_|decide)(hn:aP (iU (bV env rs) args)=true:=by exact rfl)(hm:cW m l (.buf k [e])=m2:=by simp only[cW,de,Nat.reduceEqDiff,br,ba,Nat.reduceAdd,reduceCtorEq];exact rfl):aC Y draw (⟨.callF n x args sh,none⟩::r) env rs nx m K:=
 pQ rfl _ ack (by simp only[aA.val,hx,aK,hl,iZ,(dH _ _ _).1,ha,hc.2.1]) _ (by simp only[aA.bS,hx,aK,hl,iZ,(dH _ _ _).1,ha,hc.2.2];exact hm) (λ_=>h)
end
abbrev aw:=Ω
abbrev Ψ:=List aw
structure b6 where
 major:Int
 minor:Int
 patch:Int
 pre:aw
 build:aw
 deriving Inhabited,DecidableEq
def b6.D (v:b6):D:=.agg [.int .i64 v.major,.int .i64 v.minor,.int .i64 v.patch,.str v.pre,.str v.build]
structure dI where
 name:aw
 v:b6
 shelf:aw
 sum:Int
 feats:Ψ
 deriving Inhabited,DecidableEq
abbrev Laa:=List dI
def dI.D (x:dI):D:=.agg [.str x.name,.int .i64 x.v.major,.int .i64 x.v.minor,.int .i64 x.v.patch,.str x.v.pre,.str x.v.build,.str x.shelf,.int .u64 x.sum,.sl 1 (x.feats.map D.str)]
structure Env where
 e0:aw
 e1:aw
 e2:aw
 deriving Inhabited,DecidableEq
def Env.D (e:Env):D:=.agg [.str e.e0,.str e.e1,.str e.e2]
structure j8 where
 env:Env
 lines:Laa
 deriving Inhabited,DecidableEq
def j8.D (l:j8):D:=.agg [.str l.env.e0,.str l.env.e1,.str l.env.e2,.sl 9 (l.lines.map dI.D)]
theorem tG (a b:Ω):eqD (.str a) (.str b)=decide (a=b):=R5 a b
theorem B9 (k k2:IntKind)(a b:Int):eqD (.int k a) (.int k2 b)=decide (a=b):=rfl
theorem b6.eq (a b:b6):ig (b6.D a).cells (b6.D b).cells=decide (a=b):=by
 obtain⟨a1,a2,a3,a4,a5⟩:=a;obtain⟨b1,b2,b3,b4,b5⟩:=b
 grind [b6.D,D.cells,ig,tG,B9]
theorem Env.eq (a b:Env):ig (Env.D a).cells (Env.D b).cells=decide (a=b):=by
 obtain⟨a1,a2,a3⟩:=a;obtain⟨b1,b2,b3⟩:=b
 grind [Env.D,D.cells,ig,tG,B9]
theorem b6.inj {a b:b6}(h:b6.D a=b6.D b):a=b:=by
 obtain⟨a1,a2,a3,a4,a5⟩:=a;obtain⟨b1,b2,b3,b4,b5⟩:=b
 grind [b6.D]
theorem Env.inj {a b:Env}(h:Env.D a=Env.D b):a=b:=by
 obtain⟨a1,a2,a3⟩:=a;obtain⟨b1,b2,b3⟩:=b
 grind [Env.D]
theorem map_inj {α:Type}{q:α->D}(hq:∀a b,q a=q b->a=b):∀{xs ys:List α},xs.map q=ys.map q->xs=ys
 |[],[],_=>rfl
 |[],_::_,h=>by simp at h
 |_::_,[],h=>by simp at h
 |a::r,b::s,h=>by
  simp only[List.map_cons,tw]at h;rw[hq a b h.1,map_inj hq h.2]
theorem str_inj (a b:Ω)(h:D.str a=D.str b):a=b:=by simpa using h
theorem dI.inj {a b:dI}(h:dI.D a=dI.D b):a=b:=by
 obtain⟨a1,⟨v1,v2,v3,v4,v5⟩,a2,a3,a4⟩:=a;obtain⟨b1,⟨w1,w2,w3,w4,w5⟩,b2,b3,b4⟩:=b
 grind [dI.D,map_inj,str_inj]
theorem j8.inj {a b:j8}(h:j8.D a=j8.D b):a=b:=by
 obtain⟨⟨a1,a2,a3⟩,a4⟩:=a;obtain⟨⟨b1,b2,b3⟩,b4⟩:=b
 grind [j8.D,map_inj,dI.inj]
def allI (p:Nat->Bool):Nat->Nat->Bool
 |_,0=>true
 |i,k+1=>p i&&allI p (i+1) k
def bK (p:Nat->Bool)(i n:Nat):Bool:=allI p i (n-i)
def ax {p:Nat->Bool}{i:Nat}(h:i<n):bK p i n=(p i&&bK p (i+1) n):=by
 unfold bK;rw[show n-i=(n-(i+1))+1 by omega];rfl
def bp {p:Nat->Bool}{i:Nat}(h:n<=i):bK p i n=true:=by
 unfold bK;rw[show n-i=0 by omega];rfl
theorem LV {p:Nat->Bool}:∀{k i:Nat},allI p i k=true↔∀j,i<=j->j<i+k->p j=true
 |0,i=>by simp[allI];intro j h1 h2;omega
 |k+1,i=>by
  simp only[allI,aD,LV (k:=k)]
  grind
theorem bw {p:Nat->Bool}{i:Nat}:bK p i n=true↔∀j,i<=j->j<n->p j=true:=by
 grind [bK,LV]
def bZ {a a' b b':D}(h1:a=a')(h2:b=b'):D.tup [a,b]=D.tup [a',b']:=by rw[h1,h2]
def ld8 (s:aw)(i:Nat):lC (D.int .u8 (s[i]!).toNat) 1 1 0 false=.int .u8 (at8 s i):=by
 simp only[lC,D.isAgg,at8];simp;rfl
theorem xz (s:aw)(pos:Nat)(h:pos<s.length):∃c w,y9 s pos=(c,w)/\1<=w/\((w=1/\(c:Int)=at8 s pos/\c<128)\/(128<=c/\128<=at8 s pos)):=by
 refine⟨(y9 s pos).1,(y9 s pos).2,rfl, ?_⟩;have e:y9 s pos=Lib.decodeN (s.length-pos) (s.getD pos 0).toNat (s.getD (pos+1) 0).toNat (s.getD (pos+2) 0).toNat (s.getD (pos+3) 0).toNat:=Lib.decode_N ⟨⟨s⟩⟩ pos;rw[e];unfold at8;generalize (s.getD pos 0).toNat=b0;generalize (s.getD (pos+1) 0).toNat=b1;generalize (s.getD (pos+2) 0).toNat=b2;generalize (s.getD (pos+3) 0).toNat=b3;generalize s.length-pos=n;by_cases hb:b0<128
 .unfold Lib.decodeN;rw[ak hb];exact⟨aR _,.inl ⟨rfl,rfl,hb⟩⟩
 .unfold Lib.decodeN
  grind
def ud {q:α->D}{xs:List α}{m:Γ}(hq:∀x,xV m [.a] (q x)=q x)(hl:look m l=some (.buf 1 (xs.map q))):xV m [.sl 1 [.a]] (.own l 1 0 xs.length)=.sl 1 (xs.map q):=by
 show D.sl 1 _=_;simp only[aK,hl,dN,bY,List.map_map];congr 1;apply List.map_congr_left;intro x _;have:=hq x;simp only[Function.comp];generalize q x=d at this;cases d<;>exact this
theorem qD {q:α->D}{xs:List α}{m:Γ}(hq:∀x,xVO m [.a] (q x))(hl:look m l=some (.buf 1 (xs.map q))):xVO m [.sl 1 [.a]] (.own l 1 0 xs.length):=by
 grind [xVO,xHO,WB,ep,aK,bY]
def jZ (c:Int):Bool:=decide (97<=c)&&decide (c<=122)
def bM (c:Int):Bool:=decide (48<=c)&&decide (c<=57)
def Hm (c:Int):Bool:=jZ c ||bM c ||decide (c=95)
def gP (s:aw):Bool:=decide (1<=s.length)&&decide (s.length<=12)&&bK (λi=>Hm (at8 s i)) 0 s.length
def nch (s:aw)(i:Nat):Bool:=(jZ (at8 s i) ||bM (at8 s i) ||decide (at8 s i=45))&& !(decide (at8 s i=45)&&decide (at8 s (i-1)=45))
def di (s:aw):Bool:=decide (1<=s.length)&&decide (s.length<=16)&&jZ (at8 s 0)&& !decide (at8 s (s.length-1)=45)&&bK (nch s) 1 s.length
def pN (s:aw)(i:Nat):Bool:=jZ (at8 s i) ||(bM (at8 s i)&& !decide (i=0)) ||(decide (at8 s i=45)&& !decide (i=0)&& !decide (i=s.length-1)&& !decide (at8 s (i-1)=45))
def aeU (s:aw)(h1:1<=s.length)(h2:s.length<=16):di s=bK (pN s) 0 s.length:=by
 rw[Bool.eq_iff_iff];simp only[di,aY h1,aY h2,eh,aD,b8,bR,bw];constructor
 .rintro⟨⟨h3,h4⟩,h5⟩ j _ hj;rcases Nat.eq_zero_or_pos j with rfl|hp
  .simp[pN,h3]
  .have:=h5 j hp hj;simp only[nch,aD,dk,b8,eJ,aT,bR]at this;simp only[pN,aD,dk,b8,aT,bR];rcases this with⟨(h6|h6)|h6,h7⟩
   .exact Or.inl (Or.inl h6)
   .exact Or.inl (Or.inr ⟨h6,ae⟩)
   .refine Or.inr ⟨⟨⟨h6,ae⟩, ?_⟩, ?_⟩
    .rintro rfl;exact h4 h6
    .rcases h7 with h7|h7
     .exact absurd h6 h7
     .exact h7
 .intro h;have h0:=h 0 ae ae;have hlow:jZ (at8 s 0)=true:=by simpa[pN]using h0
  refine⟨⟨hlow, ?_⟩,λj hj1 hj2=>?_⟩
  .intro he;have hl:=h (s.length-1) ae ae;rcases Nat.eq_or_lt_of_le h1 with e|e
   .rw[<-e]at he;simp only[Nat.sub_self]at he;simp only[jZ,aD,aT]at hlow;omega
   .simp only[pN,he,jZ,bM]at hl;simp at hl
  .have:=h j ae hj2;simp only[pN,aD,dk,b8,aT,bR]at this;simp only[nch,aD,dk,b8,eJ,aT,bR];rcases this with(h6|h6)|h6
   .refine⟨Or.inl (Or.inl h6),Or.inl ?_⟩;simp only[jZ,aD,aT]at h6;omega
   .refine⟨Or.inl (Or.inr h6.1),Or.inl ?_⟩;have:=h6.1;simp only[bM,aD,aT]at this;omega
   .exact⟨Or.inr h6.1.1.1,Or.inr h6.2⟩
def fk (s:aw):Nat:=s.foldl (λn b=>n*10+(b.toNat-48)) 0
def oI (s:aw):Bool:=decide (1<=s.length)&&decide (s.length<=9)&& !(decide (1<s.length)&&decide (at8 s 0=48))&&bK (λi=>bM (at8 s i)) 0 s.length&&decide (fk s<=9999)
def DN (s:aw):Int:=if oI s=true then(fk s:Int)else 0
theorem rD (s:aw)(i:Nat)(h:i<s.length):s.take (i+1)=s.take i++[s.getD i 0]:=by
 rw[List.take_succ];simp[h]
def AN (s:aw)(i:Nat)(h:i<s.length):fk (s.take (i+1))=fk (s.take i)*10+((at8 s i).toNat-48):=by
 rw[rD s i h];simp[fk,List.foldl_append,at8]
def Vv (s:aw):fk s+23<=23*10^s.length:=by
 have:∀(s:aw) (n k:Nat),n+23<=23*10^k->s.foldl (λn b=>n*10+(b.toNat-48)) n+23<=23*10^(k+s.length):=by
  intro s;induction s with
  |nil=>intro n k h;simpa using h
  |cons b r ih=>
   intro n k h;have hb:=b.toNat_lt;have:=ih (n*10+(b.toNat-48)) (k+1) (by rw[Nat.pow_succ];omega);simp only[List.foldl_cons,bJ];rw[show k+(r.length+1)=k+1+r.length by omega];exact this
 have:=this s 0 0 aJ;simpa[fk]using this
def x7 (s:aw)(i:Nat)(h:i<=9):fk (s.take i)<=23000000000:=by
 have h1:=Vv (s.take i);have h2:(s.take i).length<=9:=fM;have h3:10^(s.take i).length<=10^9:=Nat.pow_le_pow_right ae h2;omega
def M0 (s:aw):∀n:Nat,s.foldl (λn b=>n*10+(b.toNat-48)) n=n*10^s.length+fk s:=by
 unfold fk;induction s with
 |nil=>intro n;simp
 |cons b r ih=>
  intro n;simp only[List.foldl_cons,bJ];rw[ih,ih (0*10+(b.toNat-48)),Nat.pow_succ];simp only[Nat.zero_mul,cG,Nat.add_mul];rw[Nat.mul_assoc n 10,Nat.mul_comm 10];omega
def AM (b:UInt8)(r:aw):fk (b::r)=(b.toNat-48)*10^r.length+fk r:=by
 have:=M0 r (0*10+(b.toNat-48));simp only[fk,List.foldl_cons]at this⊢;rw[this];simp
def As {b:UInt8}{r:aw}(h:bK (λi=>bM (at8 (b::r) i)) 0 (b::r).length=true):bM b.toNat=true/\bK (λi=>bM (at8 r i)) 0 r.length=true:=by
 rw[bw]at h;refine⟨by simpa[at8]using h 0 ae aJ, ?_⟩;rw[bw];intro j _ hj;simpa[at8]using h (j+1) ae fM
def GG:∀(s:aw),bK (λi=>bM (at8 s i)) 0 s.length=true->fk s<10^s.length
 |[],_=>by simp[fk]
 |b::r,h=>by
  obtain⟨h1,h2⟩:=As h;have:=GG r h2;rw[AM,bJ,Nat.pow_succ];simp only[bM,aD,aT]at h1;have h3:b.toNat-48<=9:=ae;have:=fU (10^r.length) h3;omega
def Vu {b:UInt8}{r:aw}(h:49<=b.toNat):10^r.length<=fk (b::r):=by
 rw[AM];have:=fU (10^r.length) (show 1<=b.toNat-48 by omega);omega
def ZC (s:aw):oI s=(decide (1<=s.length)&&decide (s.length<=4)&& !(decide (1<s.length)&&decide (at8 s 0=48))&&bK (λi=>bM (at8 s i)) 0 s.length):=by
 unfold oI;cases hd:bK (λi=>bM (at8 s i)) 0 s.length with
 |false=>simp
 |true=>
  have hlt:=GG s hd;by_cases h4:s.length<=4
  .have:10^s.length<=10^4:=Nat.pow_le_pow_right ae h4;rw[aY h4,aY (by omega:s.length<=9),aY (by omega:fk s<=9999)];simp
  .rw[bA h4]
   match s,hd,h4 with
   |b::r,hd,h4=>
    by_cases h0:at8 (b::r) 0=48
    .rw[aY h0,aY (by omega:1<(b::r).length)];simp
    .have h1:=(As hd).1;simp only[bM,aD,aT]at h1;have h2:49<=b.toNat:=by
      simp[at8]at h0;omega
     have h3:=Vu (r:=r) h2;have:10^4<=10^r.length:=Nat.pow_le_pow_right ae (by simp at h4;omega);rw[bA (by omega:¬fk (b::r)<=9999)];simp
def dg (n:Nat):UInt8:=UInt8.ofNat (48+n)
def HR:Nat->Nat->aw
 |0,n=>[dg n]
 |f+1,n=>if n<10 then [dg n]else HR f (n/10)++[dg (n%10)]
def og (n:Nat):aw:=HR n n
def Sl:∀(f g n:Nat),n<=f->n<=g->HR f n=HR g n
 |0,0,n,_,_=>rfl
 |0,g+1,n,h,_=>by
  obtain rfl:n=0:=ae;simp[HR]
 |f+1,0,n,_,h=>by
  obtain rfl:n=0:=ae;simp[HR]
 |f+1,g+1,n,h1,h2=>by
  simp only[HR];split
  .rfl
  .rw[Sl f g (n/10) ae ae]
def B7 (h:n<10):og n=[dg n]:=by
 unfold og;cases n<;>simp[HR,h]
def B6 (h:9<n):og n=og (n/10)++[dg (n%10)]:=by
 unfold og;obtain⟨k,rfl⟩:∃k,n=k+1:=⟨n-1,ae⟩
 simp only[HR];rw[ah ae,Sl k ((k+1) /10) _ ae ae]
def ie:∀(k n:Nat),n<10^k->0<k->(og n).length<=k:=by
 intro k;induction k with
 |zero=>intro n _ h;omega
 |succ k ih=>
  intro n h _;by_cases h10:n<10
  .rw[B7 h10];simp
  .rw[B6 ae];have hk:0<k:=by
    rcases Nat.eq_zero_or_pos k with rfl|h0
    .simp at h;omega
    .exact h0
   have:=ih (n/10) (by rw[Nat.pow_succ]at h;omega) hk;simp;omega
def agD (h:n<10):((dg n).toNat:Int)=48+n:=by
 have:(48+n)%256=48+n:=Nat.mod_eq_of_lt ae;simp[dg,this]
def fK (b:Int):aw->aw->Ψ
 |[],cur=>[cur]
 |c::r,cur=>if(c.toNat:Int)=b then cur::fK b r []else fK b r (cur++[c])
def bh (s:aw)(b:Int):Ψ:=fK b s []
def Sn (s:aw)(i:Nat)(h:i<s.length):s.drop i=s.getD i 0::s.drop (i+1):=by
 rw[fD h];simp[h]
def G9 {s:aw}{i fr:Nat}(h:i<s.length)(he:at8 s i=b):fK b (s.drop i) ((s.take i).drop fr)=((s.take i).drop fr)::fK b (s.drop (i+1)) ((s.take (i+1)).drop (i+1)):=by
 rw[Sn s i h];have h2:(s.take (i+1)).drop (i+1)=[]:=aJ;rw[h2];simp only[fK];rw[ak (by simpa[at8]using he)]
def Ha {s:aw}{i fr:Nat}(h:i<s.length)(hf:fr<=i)(he:¬at8 s i=b):fK b (s.drop i) ((s.take i).drop fr)=fK b (s.drop (i+1)) ((s.take (i+1)).drop fr):=by
 rw[Sn s i h,rD s i h,List.drop_append_of_le_length fM];simp only[fK];rw[ah (by simpa[at8]using he)]
def EG {s:aw}{i fr:Nat}(h:s.length<=i):fK b (s.drop i) ((s.take i).drop fr)=[s.drop fr]:=by
 rw[kA h,gG h];rfl
def wN (b:Int):∀(s cur:aw),(fK b s cur).length<=s.length+1
 |[],cur=>by simp[fK]
 |c::r,cur=>by
  simp only[fK];split
  .have:=wN b r [];simp;omega
  .have:=wN b r (cur++[c]);simp;omega
def Rb (s:aw)(b:Int):(bh s b).length<=s.length+1:=wN b s []
def nB (c:Int):Bool:=jZ c ||bM c ||decide (c=45)
def wR (t:aw):Bool:=decide (1<=t.length)&&decide (t.length<=8)&&bK (λi=>nB (at8 t i)) 0 t.length
def cT (t:aw):Bool:=bK (λi=>bM (at8 t i)) 0 t.length&&decide (0<t.length)
def jr (p:Bool)(t:aw):Bool:=wR t&& !(p&&cT t&& !oI t)
def tk (s:aw)(p:Bool):Bool:=decide ((bh s 46).length<=4)&&bK (λi=>jr p (bh s 46)[i]!) 0 (bh s 46).length
def EN (s:aw)(p:Bool):Bool:=decide (s=[]) ||tk s p
def C6 (n:Int):Bool:=decide (0<=n)&&decide (n<=9999)
def gN (v:b6):Bool:=C6 v.major&&C6 v.minor&&C6 v.patch&&EN v.pre true&&EN v.build false
def FZ (v:b6):aw:=og v.major.toNat++[46]++og v.minor.toNat++[46]++og v.patch.toNat++(if v.pre=[]then []else 45::v.pre)++(if v.build=[]then []else 43::v.build)
def vc (v:b6):aw:=if gN v=true then FZ v else []
def b6.sm (v:b6):Prop:=v.pre.length<=1048576/\v.build.length<=1048576
def or64 (a b:Int):Int:=IntKind.u64.wrap ((BitVec.ofInt 64 a |||BitVec.ofInt 64 b).toNat)
def T0 (a b:Int):Int:=IntKind.u64.wrap ((BitVec.ofInt 64 a^^^BitVec.ofInt 64 b).toNat)
def abi (a:Int)(k:Nat):Int:=IntKind.u64.wrap (a*2^k)
def G4 (a:Int)(k:Nat):Int:=a.fdiv (2^k)
def rot (h:Int)(k:Nat):Int:=or64 (abi h k) (G4 h (64-k))
def TL (h:Int)(c:Int):Int:=IntKind.u64.wrap (rot (T0 h c) 13*18397679294719823053)
def zZ (s:aw):Int:=s.foldl (λh c=>TL h c.toNat) 11400714819323198485
def sumL (s:aw):Int:=T0 (zZ s) (G4 (zZ s) 29)
theorem Hd (s:aw)(i:Nat)(h:i<s.length):zZ (s.take (i+1))=TL (zZ (s.take i)) (at8 s i):=by
 grind [rD,zZ,at8]
def Env.at (e:Env):Nat->aw
 |0=>e.e0
 |1=>e.e1
 |_=>e.e2
def Env.ld (e:Env){i:Nat}(h:i<3):lC (Env.D e) 3 1 (0+i*1) false=.str (e.at i):=by
 match i,h with
 |0,_=>rfl
 |1,_=>rfl
 |2,_=>rfl
def j8.ld (l:j8){i:Nat}(h:i<3):lC (j8.D l) 4 1 (0+i*1) false=.str (l.env.at i):=by
 match i,h with
 |0,_=>rfl
 |1,_=>rfl
 |2,_=>rfl
def Env.cut (e:Env){i:Nat}(h:i<3):Abs.cut [.str e.e0,.str e.e1,.str e.e2] (i*1) 1 false=.str (e.at i):=by
 match i,h with
 |0,_=>rfl
 |1,_=>rfl
 |2,_=>rfl
def mw (e:Env):Bool:=bK (λi=>decide (e.at i=[]) ||gP (e.at i)) 0 3
def Au (l:Ψ)(i:Nat):Bool:=gP l[i]! && !(decide (0<i)&& !Op.bytesLess l[i-1]! l[i]!)
def Ih (x:dI):Bool:=di x.name&&gN x.v&& !(decide (x.shelf≠[])&& !di x.shelf)&& !(decide (x.shelf=[])&&decide (x.sum≠0))&&decide (x.feats.length<=9)&&bK (Au x.feats) 0 x.feats.length
def xQ (l:Laa)(i:Nat):Bool:=Ih l[i]! && !(decide (0<i)&& !Op.bytesLess l[i-1]!.name l[i]!.name)
def Mz (l:j8):Bool:=mw l.env&&decide (l.lines.length<=48)&&bK (xQ l.lines) 0 l.lines.length
def dI.sm (x:dI):Prop:=x.v.sm/\x.name.length<=1048576/\x.shelf.length<=1048576/\x.feats.length<=1048576/\∀t∈x.feats,t.length<=1048576
def j8.sm (l:j8):Prop:=l.lines.length<=1048576/\(∀x∈l.lines,x.sm)/\∀i,(l.env.at i).length<=1048576
theorem aq [Inhabited α]{l:List α}{i:Nat}(h:i<l.length):l[i]! ∈l:=by
 simp[h]
structure Kp where
 name:aw
 v:b6
 deriving Inhabited,DecidableEq
def Kp.D (x:Kp):D:=.agg [.str x.name,.int .i64 x.v.major,.int .i64 x.v.minor,.int .i64 x.v.patch,.str x.v.pre,.str x.v.build]
def eU (l:Laa):List Kp:=(l.filter λx=>decide (x.shelf≠[])).map λx=>⟨x.name,x.v⟩
theorem oP [Inhabited α][DecidableEq α]{a b:List α}(h:a.length=b.length):decide (a=b)=bK (λi=>decide (a[i]! =b[i]!)) 0 a.length:=by
 rw[Bool.eq_iff_iff,aT,bw];constructor
 .rintro rfl j _ _;simp
 .intro hj;apply List.ext_getElem h
  grind
theorem dI.same {a b:dI}(e1:a.name=b.name)(e2:a.v=b.v)(e3:a.shelf=b.shelf)(e4:a.sum=b.sum)(e5:a.feats.length=b.feats.length):decide (a=b)=bK (λi=>decide (a.feats[i]! =b.feats[i]!)) 0 a.feats.length:=by
 rw[<-oP e5];obtain⟨a1,a2,a3,a4,a5⟩:=a;obtain⟨b1,b2,b3,b4,b5⟩:=b
 grind
def cv (b:aw):Ψ->aw
 |[]=>[]
 |[t]=>t
 |t::u::r=>t++b++cv b (u::r)
def wm (b t:aw)(r:Ψ)(h:r≠[]):cv b (t::r)=t++b++cv b r:=by
 cases r with
 |nil=>exact absurd rfl h
 |cons u r=>rfl
def sH {α:Type}(q:α->aw)(B:Nat):∀l:List α,(∀x∈l,(q x).length<=B)->((l.map q).flatten).length<=l.length*B
 |[],_=>aJ
 |a::r,h=>by
  have h1:=h a (.head _);have h2:=sH q B r λx hx=>h x (.tail _ hx)
  simp only[List.map_cons,List.flatten_cons,cx,bJ,Nat.succ_mul];omega
theorem E1 (v:b6)(h:v.sm):(vc v).length<=2097200:=by
 unfold vc;split
 .rename_i hv;simp only[gN,aD]at hv;obtain⟨⟨⟨⟨hv1,hv2⟩,hv3⟩,_⟩,_⟩:=hv;simp only[C6,aD,aT]at hv1 hv2 hv3;have hl1:=ie 4 v.major.toNat ae ae;have hl2:=ie 4 v.minor.toNat ae ae;have hl3:=ie 4 v.patch.toNat ae ae;obtain⟨h1,h2⟩:=h
  grind [FZ]
 .simp
def Env.sm (e:Env):=∀i,(e.at i).length<=1048576
theorem Ax (l:Laa)(i:Nat)(h:i<l.length):eU (l.take (i+1))=eU (l.take i)++(if l[i]!.shelf=[]then []else [⟨l[i]!.name,l[i]!.v⟩]):=by
 rw[List.take_add_one]
 grind [eU]
theorem Vg (l:Laa):(eU l).length<=l.length:=by
 grind [eU]
def jl (v n:Int):Int:=if n<1 then 0 else if v.tmod n<0 then v.tmod n+n else v.tmod n
def EU (v n:Int)(h:1<=n):-n<v.tmod n/\v.tmod n<n:=⟨Int.lt_tmod_of_pos v ae,Int.tmod_lt_of_pos v ae⟩
theorem jG (v n:Int)(h:1<=n):0<=jl v n/\jl v n<n:=by
 have:=EU v n h
 grind [jl]
def atI (l:Δ)(i:Int):Int:=if i<0\/(l.length:Int)<=i then i.tmod 3 else l[i.toNat]!
structure Gs where
 l:Δ
 i:Int
 deriving Inhabited
def Gs.D (g:Gs):D:=.agg [.sl 1 (g.l.map (D.int .i64)),.int .i64 g.i]
def Gs.val (g:Gs)(n:Int):Int:=jl (atI g.l g.i) n
def Gs.aU (g:Gs):Gs:=⟨g.l,g.i+1⟩
def uX (s:aw)(b:UInt8):aw×aw×Bool:=match s.findIdx? (λc=>c==b)with
 |some k=>(s.take k,s.drop (k+1),true)
 |none=>(s,[],false)
def qU (s p:aw):aw×Bool:=if p.isPrefixOf s=true then(s.drop p.length,true)else(s,false)
def XJ (s:aw)(b:UInt8):(uX s b).1.length<=s.length/\((uX s b).2.2=true->(uX s b).1.length+1<=s.length):=by
 unfold uX;split
 .rename_i k h;have:=List.findIdx?_eq_some_iff_findIdx_eq.1 h;simp only[eE];omega
 .simp
structure Rdr where
 s:aw
 at':Nat
 n:Nat
def Rdr.D (r:Rdr):D:=.agg [.str r.s,.int .i64 (r.at':Nat),.int .i64 (r.n:Nat)]
def Rdr.ln (r:Rdr):aw×aw×Bool:=uX (r.s.drop r.at') 10
def Rdr.aU (r:Rdr):Rdr:=⟨r.s,if r.ln.2.2=true then r.at'+(r.ln.1.length+1)else r.at',r.n+1⟩
def wO (b:Int):∀(s cur:aw),∀t∈fK b s cur,t.length<=cur.length+s.length
 |[],cur,t,h=>by simp only[fK,aF]at h;subst h;simp
 |c::r,cur,t,h=>by
  simp only[fK]at h;split at h
  .rcases bH.1 h with rfl|h
   .simp
   .have:=wO b r [] t h;simp at this⊢;omega
  .have:=wO b r (cur++[c]) t h;simp at this⊢;omega
def Rc (s:aw)(b:Int){t:aw}(h:t∈bh s b):t.length<=s.length:=by
 have:=wO b s [] t h;simpa using this
def Pq (s p:aw):(qU s p).1.length<=s.length:=by
 unfold qU;split<;>simp
end Go.Abs
namespace Go.Abs
variable {e:Env} {f:Nat} {r:Rdr} {ls:Laa}
end Go.Abs
namespace Go.Abs
variable(P:Program){Q:Abs.D->Γ->Prop}{af:aj}{σi σ:Ξ}{fx w:Bool}{ds:Θ}{x:Src}{m0:Γ}{n k:Nat}{args:ς}{K:Abs.D->St->Prop}{d:Abs.D}(C:Ctx->Prop){st:St}
section
variable {Y:Ctx}{draw:Bool}{r:Υ}{env rs:Φ}{nx:Nat}{m:Γ}{K:Φ->St->Prop}{g:Ν}{f:Bool}
def aat {l j:Nat}{sh:Ι}{v e:D}{aHa:Θ}{m2:Γ}(h:aC Y false r env (⟨true,v⟩::rs) nx m2 K)(hg:GF rs (some (j,w)) true:=by exact⟨_,_,rfl,rfl⟩)(hx:bV env rs x=⟨true,.ptr l k 0 0⟩:=by exact rfl)(hl:look m l=some (.buf k [d]):=by exact rfl)(hd:d.aV=true:=by exact rfl)(hc:Y.fp n d aHa/\Y.fv n d aHa=v/\Y.fs n d aHa=e)(ha:jn [] sh (iU (bV env rs) args)=aHa:=by exact rfl)(ho:Ci (bV env rs) args:=by repeat' first|exact trivial|exact rfl|refine And.intro ?_ ?_|decide)(hn:aP (iU (bV env rs) args)=true:=by exact rfl)(hm:cW m l (.buf k [e])=m2:=by simp only[cW,de,Nat.reduceEqDiff,br,ba,Nat.reduceAdd,reduceCtorEq];exact rfl):aC Y false (⟨.callF n x args sh,some (j,w)⟩::r) env rs nx m K:=
 aav rfl rfl hg (λ_=>⟨v,ack,by simp only[aA.val,hx,aK,hl,iZ,(dH _ _ _).1,ha,hc.2.1],m2,by simp only[aA.bS,hx,aK,hl,iZ,(dH _ _ _).1,ha,hc.2.2];exact hm,h⟩) (λh=>cb)
def alO {i:aA}{j:Nat}(h:aC Y false r env (⟨false,.any⟩::rs) nx m K)(hM:i.cR=false:=by exact rfl)(hC:i.calm=false:=by exact rfl)(hg:GF rs (some (j,w)) false:=by exact⟨_,_,rfl,rfl⟩):aC Y false (⟨i,some (j,w)⟩::r) env rs nx m K:=
 aav hM hC hg (λh=>cb) (λ_=>h)
def r_off {i:aA}{j:Nat}(d:D)(h:aC Y draw r env (⟨false,d⟩::rs) nx m K)(hC:i.pure=true:=by exact rfl)(hg:GF rs (some (j,w)) false:=by exact⟨_,_,rfl,rfl⟩):aC Y draw (⟨i,some (j,w)⟩::r) env rs nx m K:=
 bE hC hg d (λh=>cb) (λh=>cb) (λ_=>h)
theorem dT {aHa:Θ}{v:D}{nx':Nat}{m':Γ}(h:aC Y draw r env (⟨true,v⟩::rs) nx' m' K)(hc:∀K':Τ,K' v ⟨nx'+rs.length,m'⟩->Y.tr n aHa ⟨nx+rs.length,m⟩ K')(hn:nx<=nx')(ha:iU (bV env rs) args=aHa:=by exact rfl)(ho:Ci (bV env rs) args:=by repeat' first|exact trivial|exact rfl|refine And.intro ?_ ?_):aC Y draw (⟨.callM n args,none⟩::r) env rs nx m K:=by
 unfold aC;show True/\(true=true->Ci (Src.ev env rs.reverse) args/\Y.tr n (iU (Src.ev env rs.reverse) args) {nx:=nx+rs.reverse.length,m:=m} _)/\(true=false->_)
 grind [po,aC]
def al7 {α:Type}{q:α->D}{s:List α}{y z:Src}{fy fz:Bool}{kh km:IntKind}{h' m':Int}(j:Nat)(h:aC Y draw r env (⟨f,.sl k ((s.take j).map q)⟩::rs) nx m K)(hg:GF rs g f:=by exact cH)(hx:bV env rs x=⟨fx,.sl k (s.map q)⟩:=by exact rfl)(hy:bV env rs y=⟨fy,.int kh h'⟩:=by exact rfl)(hz:bV env rs z=⟨fz,.int km m'⟩:=by exact rfl)(kx:f=true->fx=true:=by exact bD)(ky:f=true->fy=true:=by exact bD)(kz:f=true->fz=true:=by exact bD)(hj:f=true->h'=(j:Int))(hb:f=true->(j:Int)<=m'/\m'<=(s.length:Int)):aC Y draw (⟨.slX k x y z,g⟩::r) env rs nx m K:=
 bE rfl hg _ (λhf=>by have h1:=hj hf;have h2:=hb hf;simp only[aA.eO,hx,hy,hz,bj];exact⟨kx hf,ky hf,kz hf,ae,ae,trivial,h2.2⟩) (λhf=>by simp only[aA.val,hx,hy];rw[hj hf,Int.toNat_natCast,List.map_take]) (λ_=>h)
def D1 {α:Type}[Inhabited α]{i o:Nat}{ag:Bool}{q:α->D}{xs:List α}(v:D)(h:aC Y draw r env (⟨f,v⟩::rs) nx m K)(hg:GF rs g f:=by exact cH)(hx:bV env rs x=⟨fx,.ref k (xs.map q) i o⟩:=by exact rfl)(kx:f=true->fx=true:=by exact bD)(hi:f=true->i<xs.length:=by exact sc)(hv:f=true->lC (q xs[i]!) k n o ag=v:=by exact λ_=>rfl)(ho:o+n<=k:=by omega):aC Y draw (⟨.ldU n ag x,g⟩::r) env rs nx m K:=
 gB rfl hg _ (λhf=>acu) (λhf=>acp) m rfl (λha=>h)
def Qm {i o:Nat}{ag:Bool}{es:Θ}(v:D)(h:aC Y draw r env (⟨f,v⟩::rs) nx m K)(hg:GF rs g f:=by exact cH)(hx:bV env rs x=⟨fx,.ref k es i o⟩:=by exact rfl)(kx:f=true->fx=true:=by exact bD)(hi:f=true->i<es.length:=by intro _;simp only[bJ,cj];omega)(hv:f=true->lC (es.getD i .any) k n o ag=v:=by exact λ_=>rfl)(ho:o+n<=k:=by omega):aC Y draw (⟨.ldU n ag x,g⟩::r) env rs nx m K:=
 gB rfl hg _ (λhf=>RI) (λhf=>Lj) m rfl (λha=>h)
def zM {l o:Nat}{ag:Bool}(v:D)(h:aC Y draw r env (⟨f,v⟩::rs) nx m K)(hg:GF rs g f:=by exact cH)(hx:bV env rs x=⟨fx,.ptr l k 0 o⟩:=by exact rfl)(kx:f=true->fx=true:=by exact bD)(hl:f=true->look m l=some (.buf k [d]):=by exact λ_=>rfl)(hv:f=true->lC d k n o ag=v:=by exact λ_=>rfl)(ho:o+n<=k:=by omega)(hd:f=true->d.aV=false:=by exact λ_=>rfl):aC Y draw (⟨.ldU n ag x,g⟩::r) env rs nx m K:=
 gB rfl hg _ (λhf=>by simp only[aA.eO,hx,MA,ep,hl hf];exact⟨kx hf,⟨⟨trivial,aJ⟩,ho⟩,by simp only[aK,hl hf,aP,hd hf];rfl⟩) (λhf=>RO) m rfl (λha=>h)
def aaz {l o:Nat}{ag:Bool}(v:D)(h:aC Y draw r env (⟨f,v⟩::rs) nx m K)(hg:GF rs g f:=by exact cH)(hx:bV env rs x=⟨fx,.ptr l k 0 o⟩:=by exact rfl)(kx:f=true->fx=true:=by exact bD)(hl:f=true->look m l=some (.buf k [d]):=by exact λ_=>rfl)(hv:f=true->lC d k n o ag=v:=by exact λ_=>rfl)(ho:o+n<=k:=by omega)(hd:4<k:=by omega):aC Y draw (⟨.ldW n ag x,g⟩::r) env rs nx m K:=
 gB rfl hg _ (λhf=>by simp only[aA.eO,hx,MA,ep,hl hf];exact⟨kx hf,⟨⟨trivial,aJ⟩,ho⟩,hd⟩) (λhf=>RO) m rfl (λha=>h)
end
def Gs.ZD (g:Gs):g.aU.i=g.i+1:=rfl
def Gs.e7 (g:Gs)(n:Int)(h:1<=n):0<=g.val n/\g.val n<n:=jG _ _ h
def fW:aw:=[102]
def Zj:aw:=[109,97,105,110]
def EF:aw:=[115,105,100,101]
def cI:Ψ:=[[97,110,116],[98,101,101],[99,111,119],[100,111,103]]
def bQ:List b6:=[⟨1,0,0,[],[]⟩,⟨1,2,0,[],[]⟩,⟨2,0,0,[97,46,49],[]⟩,⟨2,0,0,[],[]⟩]
def Gj:Ψ:=[[],[108,105,110,117,120],[112,108,97,110,57]]
def zh (n:Int):Env:=⟨Gj[(jl n 3).toNat]!,[],[]⟩
def nlS:Ψ->D
 |[]=>.aO
 |a::r=>.sl 1 ((a::r).map D.str)
def dI.N (x:dI):Go.Abs.D:=.agg [.str x.name,.int .i64 x.v.major,.int .i64 x.v.minor,.int .i64 x.v.patch,.str x.v.pre,.str x.v.build,.str x.shelf,.int .u64 x.sum,nlS x.feats]
def dI.F (name:aw)(v:b6)(shelf:aw)(sum:Int)(fs:Go.Abs.D):Go.Abs.D:=.agg [.str name,.int .i64 v.major,.int .i64 v.minor,.int .i64 v.patch,.str v.pre,.str v.build,.str shelf,.int .u64 sum,fs]
def Yn (l k:Nat)(es:List Go.Abs.D)(g:Gs):jj l k es (Gs.D g)=Gs.D g:=rfl
mutual
theorem ij (l k:Nat)(es:Θ):∀d:D,d.aV=true->jj l k es d=d
 | .agg a,h=>by simp only[jj,ki l k es a (by simpa[D.aV]using h)]
 | .tup a,h=>by simp only[jj,ki l k es a (by simpa[D.aV]using h)]
 | .fn n a,h=>by simp only[jj,ki l k es a (by simpa[D.aV]using h)]
 | .own ..,h=>by simp[D.aV]at h
 | .ptr ..,h=>by simp[D.aV]at h
 | .it ..,h=>by simp[D.aV]at h
 | .any,_| .bool _,_| .int ..,_| .str _,_| .aO,_| .sl ..,_| .ref ..,_| .nilp,_| .nilf,_=>rfl
theorem ki (l k:Nat)(es:Θ):∀ds:Θ,aP ds=true->pf l k es ds=ds
 |[],_=>rfl
 |d::r,h=>by
  simp only[aP,aD]at h;simp only[pf,ij l k es d h.1,ki l k es r h.2]
end
def bq (L c:Nat)(ls:Laa)(k j:Nat):D:=if j=k then dI.F ls[j]!.name ls[j]!.v ls[j]!.shelf ls[j]!.sum (.own L 1 0 c)else dI.D ls[j]!
theorem Kp.eq (a b:Kp):ig (Kp.D a).cells (Kp.D b).cells=decide (a=b):=by
 obtain⟨n1,⟨a1,a2,a3,a4,a5⟩⟩:=a;obtain⟨n2,⟨b1,b2,b3,b4,b5⟩⟩:=b
 grind [Kp.D,D.cells,ig,tG,B9]
theorem akh {l:Ψ}{B:Nat}(h:∀t∈l,t.length<=B)(i:Nat):(l[i]!).length<=B:=by
 by_cases hi:i<l.length
 .grind
 .simp only[List.getElem!_eq_getElem?_getD,List.getElem?_eq_none (Nat.le_of_not_lt hi),Option.getD_none];exact Nat.zero_le _
structure dI.ok (n:Nat)(x:dI):Prop where
 pre:x.v.pre.length<=3
 build:x.v.build.length<=2
 name:x.name.length<=16
 shelf:x.shelf.length<=16
 nf:x.feats.length<=n
 ft:∀t∈x.feats,t.length<=16
 sum:0<=x.sum/\x.sum<18446744073709551616
structure j8.ok (n:Nat)(l:j8):Prop where
 len:l.lines.length<=4
 lines:∀x∈l.lines,x.ok n
 env:∀i,(l.env.at i).length<=16
theorem j8.ok.sm {l:j8}(h:l.ok n)(hn:n<=1000):l.sm:=by
 refine⟨by have:=h.len;omega,λx hx=>?_,λi=>by have:=h.env i;omega⟩;have k:=h.lines x hx;have k1:=k.pre;have k2:=k.build;have k3:=k.name;have k4:=k.shelf;have k5:=k.nf;exact⟨⟨ae,ae⟩,ae,ae,ae,λt ht=>by have:=k.ft t ht;omega⟩
def ad7 (n:Int)(i:Nat):((zh n).at i).length<=16:=by
 have h:∀t∈Gj,t.length<=16:=aX
 match i with
 |0=>exact akh h _
 |1=>show([]:aw).length<=_;decide
 |_+2=>show([]:aw).length<=_;decide
def dI.ok.mono {m:Nat}{x:dI}(h:x.ok n)(hm:n<=m):x.ok m:=⟨h.pre,h.build,h.name,h.shelf,fC h.nf hm,h.ft,h.sum⟩
def lk {α:Type}:List (Nat×α)->Nat->α->α
 |[],_,d=>d
 |(a,b)::r,n,d=>bif Nat.beq a n then b else lk r n d
structure Row where
 key:Nat
 pre:Θ->Prop
 val:Θ->D
structure RowF where
 pre:D->Θ->Prop
 val:D->Θ->D
 new:D->Θ->D
def Row.no:Row:=⟨0,λ_=>False,λ_=>.any⟩
def RowF.no:RowF:=⟨λ_ _=>False,λ_ _=>.any,λ_ _=>.any⟩
section
variable [cO]
section
variable {P:Program}{ν:Ξ}{bS:Ε}{Y:Ctx}
theorem RD.re {x x':X}(hw:x'.w=x.w)(hI:x'.I=x.I)(hβ:∀l l',m8 0 σ l=some l'->x'.β l'=x.β l){v:Value}{d':D}(hv:RD ν x v d)(hd:RnD 0 σ d d'):RD ν x' v d':=by
 rcases hd with⟨rfl,hn⟩|hd|hd
 .exact hv.aV hn (λ_ h=>by rw[hI];exact h) (λ_ _=>by rw[hw])
 .grind [RD.rn]
 grind [RD.nl]
def pH.re {x x':X}{σ:Ξ}(hw:x'.w=x.w)(hI:x'.I=x.I)(hβ:∀l l',m8 0 σ l=some l'->x'.β l'=x.β l){b base tot:Nat}{b0 blk:bo}(o2:pH ν x b base tot b0)(q3:qN 0 σ b0 blk):pH ν x' b base tot blk:=by
 cases b0 with
 |iter s p=>
  cases blk with
  |iter s' p'=>simp only[qN]at q3;obtain⟨rfl,rfl⟩:=q3;simp only[pH,hw]at o2⊢;exact o2
  |_=>simp[qN]at q3
 |row s=>
  cases blk with
  |row s'=>simp only[qN]at q3;subst q3;simp only[pH,hw]at o2⊢;exact o2
  |_=>simp[qN]at q3
 |bld o n u=>
  cases blk with
  |bld o' n' u'=>
   simp only[qN]at q3;obtain⟨q3,rfl,rfl⟩:=q3;obtain⟨p1,v,p2,p3⟩:=o2;refine⟨p1,v,by rw[hw];exact p2, ?_⟩;cases o with
   |none=>simp only at q3;subst q3;exact p3
   |some l0=>
    obtain⟨l1,q4,rfl⟩:=q3;obtain⟨g,t,p4,p5,p6⟩:=p3;exact⟨g,t,p4,p5,by rw[hβ l0 l1 q4];exact p6⟩
  |_=>simp[qN]at q3
 |mpb s=>
  cases blk with
  |mpb s'=>
   simp only[qN]at q3;subst q3;obtain⟨p1,es2,cl,p2,p3,p4,p5⟩:=o2;exact⟨p1,es2,cl,by rw[hw];exact p2,p3,p4,λi hi=>(p5 i hi).aV (cZ p1 i) (λ_ h=>by rw[hI];exact h) (λ_ _=>by rw[hw])⟩
  |_=>simp[qN]at q3
 |buf k es=>
  cases blk with
  |iter s' p'=>simp[qN]at q3
  |row s'=>simp[qN]at q3
  |bld o' n' u'=>simp[qN]at q3
  |mpb s'=>simp[qN]at q3
  |buf k' es'=>
   simp only[qN]at q3;obtain⟨rfl,q3⟩:=q3;obtain⟨p1,p2,cc,T,fr,p3,p4,p5,p6⟩:=o2;rw[<-hw]at p3;rcases q3 with⟨rfl,hn⟩|q3|q3
   .exact⟨p1,p2,cc,T,fr,p3,p4,p5,λi hi=>⟨(p6 i hi).1,λj hj=>⟨((p6 i hi).2 j hj).1,RD.re hw hI hβ ((p6 i hi).2 j hj).2 (.inl ⟨rfl,lV (cZ hn i) j⟩)⟩⟩⟩
   .obtain⟨r1,r2⟩:=j4 q3;refine⟨p1,ae,cc,T,fr,p3,p4,p5,λi hi=>?_⟩;have hi':i<es.length:=ae;obtain⟨s1,s2⟩:=GZ (r2 i hi');exact⟨s1.trans (p6 i hi').1,λj hj=>⟨((p6 i hi').2 j hj).1,RD.re hw hI hβ ((p6 i hi').2 j hj).2 (.inr (.inl (s2 j (by rw[(p6 i hi').1];exact hj))))⟩⟩
   .obtain⟨r1,r2⟩:=sf q3;refine⟨p1,ae,cc,T,fr,p3,p4,p5,λi hi=>?_⟩;have hi':i<es.length:=ae;obtain⟨s1,s2⟩:=F5 (r2 i hi');exact⟨s1.trans (p6 i hi').1,λj hj=>⟨((p6 i hi').2 j hj).1,RD.re hw hI hβ ((p6 i hi').2 j hj).2 (.inr (.inr (s2 j (by rw[(p6 i hi').1];exact hj))))⟩⟩
theorem TA {lo c:Nat}{l l':Nat}(h0:gQ 0 c σ=true)(h:m8 0 σ l=some l'):l'<c/\(l,l')∈σ:=by
 obtain⟨h1,h2⟩:=yJ h0 h
 grind
def xX {c:Nat}:∀{σ:Ξ}{a b:Nat},gQ 0 c σ=true->(a,b)∈σ->m8 0 σ a=some b
 |[],a,b,_,h=>by cases h
 |(a0,b0)::r,a,b,h0,h=>by
  unfold m8;simp only[gQ,aD,List.all_eq_true,b8]at h0;obtain⟨_,_,p4,p5⟩:=h0;rcases bH.1 h with h|h
  .simp only[dm]at h;obtain⟨rfl,rfl⟩:=h;simp
  .have:=(p4 _ h).1;simp only at this;have hne:Nat.beq a0 a=false:=by
    cases hb:Nat.beq a0 a with
    |false=>rfl
    |true=>obtain rfl:=Nat.eq_of_beq_eq_true hb;simp at this
   rw[hne];exact xX p5 h
structure Fr (σi σo:Ξ)(q q1:Nat)(m0 m1:Γ)(st st':St):Prop where
 oki:gQ 0 q σi=true
 oko:gQ 0 st'.nx σo=true
 nx:st.nx<=st'.nx
 lt:∀l i,(l,i)∈σi->look st.m l≠none
 io:∀i l,(i,l)∈σo->(l,i)∈σi\/st.nx<=l
 m0:∀i b,look m0 i=some b->∃l b',(l,i)∈σi/\look st.m l=some b'/\qN 0 σi b' b
 m1:∀l b,look st'.m l=some b->(∃i b1,(i,l)∈σo/\look m1 i=some b1/\qN 0 σo b1 b)\/(ow σo l=none/\(∀i,(l,i)∉σi)/\look st.m l=some b)
def aeb {fid:Nat}{fn:Func}(hΓ:Ok P ν bS Y)(hmix:P.follows .mixedOrders=true)(hf:P.funcs[fid]? =some fn)(hc:compile P ν bS fn=some af){x:X}{args:Κ}{cs:Θ}{q:Nat}(hl:args.size=ds.length)(hargs:∀i,i<ds.length->RD ν x (args.getD i undef) (ds.getD i .any))(hs:fO ν x (look st.m))(hfr:fE st x)(hlen:cs.length=ds.length)(hds:∀i,i<ds.length->RnD 0 σi (ds.getD i .any) (cs.getD i .any))(hnp:cs.length=af.np)(oki:gQ 0 q σi=true)(hlt:∀l i,(l,i)∈σi->look st.m l≠none)(hm0:∀i b,look m0 i=some b->∃l b',(l,i)∈σi/\look st.m l=some b'/\qN 0 σi b' b)(hw:dD (Y.at q) af.body (λe env st1=>e.home/\oO st1.m env af.res/\∃(σo:Ξ) (q1:Nat) (m1:Γ) (st':St) (vd':D),Fr σi σo q q1 m0 m1 st st'/\RnD 0 σo (ku af env st1) vd'/\K vd' st'/\∀i,look st1.m i=look m1 i) (fV af cs) ⟨q,m0⟩):
  Calls P fid args x.w fun
   | .returned v,w'=>∃x' d st',K d st'/\x'.w=w'/\Step x x'/\RD ν x' v d/\fO ν x' (look st'.m)/\fE st' x'
   |_,_=>False:=by
 obtain⟨body,c1,c2,c3,c4,c5,c6⟩:=gJ hc
 let x0:X:=⟨x.w,x.I,λi=>(ow σi i).bind x.β⟩
 have hx0:∀l i,(l,i)∈σi->x0.β i=x.β l:=λl i h=>by simp only[x0,Cc oki h,Option.bind_some]
 have hβ0:∀l i,m8 0 σi l=some i->x0.β i=x.β l:=λl i h=>hx0 l i (TA (lo:=0) oki h).2
 have hx0':∀i p,x0.β i=some p->∃l,(l,i)∈σi/\x.β l=some p/\i<q:=by
  intro i p h;obtain⟨l,h1,h2⟩:=Option.bind_eq_some_iff.1 (show(ow σi i).bind x.β=some p from h);exact⟨l,mC h1,h2,tA oki (mC h1)⟩
 have hs0:fO ν x0 (look m0):=by
  refine⟨λi blk b base tot e1 e2=>?_,λi j b base tot base' tot' e1 e2 e3 e4=>?_,hs.imm,λi b base tot e=>?_,cO.le x _ (λ_ h=>h) (λ_ _=>rfl) hs.gd⟩
  .obtain⟨l,b',h1,h2,h3⟩:=hm0 i blk e1;rw[hx0 l i h1]at e2;obtain⟨o1,o2⟩:=hs.own l b' b base tot h2 e2;exact⟨o1,pH.re (x:=x) (x':=x0) rfl rfl hβ0 o2 h3⟩
  .obtain⟨l,h1,h2,_⟩:=hx0' i _ e3;obtain⟨l',h1',h2',_⟩:=hx0' j _ e4;have:=hs.inj l l' b base tot base' tot' (hlt _ _ h1) (hlt _ _ h1') h2 h2';subst this;have:=xX oki h1;rw[xX oki h1']at this;exact(aZ this).symm
  .obtain⟨l,_,h2,_⟩:=hx0' i _ e;exact hs.er l b base tot h2
 have hf0:fE ⟨q,m0⟩ x0:=by
  refine⟨λi hi=>?_,λi hi=>?_⟩
  .cases h:x0.β i with
   |none=>rfl
   |some p=>obtain⟨_,_,_,h4⟩:=hx0' i p h;simp only at hi;omega
  .cases h:look m0 i with
   |none=>exact absurd h hi
   |some b=>obtain⟨l,b',h1,_⟩:=hm0 i b h;exact tA oki h1
 have hi:=ua (P:=P) (ν:=ν) (bS:=bS) (x:=x0) (ds:=cs) (st:=⟨q,m0⟩) c4 c5 c6 (args:=args) ae hnp (λi hi=>RD.re (x:=x) (x':=x0) rfl rfl hβ0 (hargs i ae) (hds i ae)) hs0 hf0;have hcs:=qT (C:={P,ν,bS,slots:=slotsOf fn,ntmps:=fn.ntmps,vm:=Rm P fn}) (hΓ.at q) (mL fn).1 hmix x0 (λl h=>hf0.β l h) body af.body c2 _ _ _ _ x0 hw hi (.refl _);refine calls_of_wp hf c1 (wp_mono hcs λe a w' hp=>?_);obtain⟨e',x',env',st1,he,hxw,hst,hi',hh,hro,σo,q1,m1,st',vd',hfm,hvd,hK,hlk⟩:=hp;subst hxw;obtain⟨v,r1,r2,r3⟩:=pE hΓ.small hi' c3 hro
 let x2:X:=⟨x'.w,x'.I,λl=>match ow σo l with|some i=>x'.β i|none=>x.β l⟩
 have hx2:∀i l,(i,l)∈σo->x2.β l=x'.β i:=λi l h=>by simp only[x2,Cc hfm.oko h]
 have hx2n:∀l,ow σo l=none->x2.β l=x.β l:=λl h=>by simp only[x2,h]
 have hβ2:∀i l,m8 0 σo i=some l->x2.β l=x'.β i:=λi l h=>hx2 i l (TA (lo:=0) hfm.oko h).2
 have hx0s:∀l i p,(l,i)∈σi->x.β l=some p->x'.β i=some p:=λl i p h e=>hst.β _ _ (by rw[hx0 l i h];exact e)

 have hnew:∀i p,x'.β i=some p->(∃l,(l,i)∈σi/\x.β l=some p)\/x.w.heap.size<=p.1\/∃l p',(∃j,(l,j)∈σi)/\x.β l=some p'/\p'.1=p.1:=by
  intro i p e;rcases hst.newβ i p e with h|h|⟨j,p',h1,h2⟩
  .obtain⟨l,h3,h4,_⟩:=hx0' i p h;exact .inl ⟨l,h3,h4⟩
  .exact .inr (.inl h)
  .obtain⟨l,h3,h4,_⟩:=hx0' j p' h1;exact .inr (.inr ⟨l,p',⟨j,h3⟩,h4,h2⟩)
 have hstep:Step x x2:=by
  refine⟨hst.os,hst.tape,hst.output,hst.size,hst.I,hst.pM,λl p hp=>?_,λb hb hn=>hst.old b hb λi p h e=>?_,λb h=>?_,λl p h=>?_⟩
  .cases h:ow σo l with
   |none=>rw[hx2n l h];exact hp
   |some i=>
    have hm:=mC h;rw[hx2 i l hm];rcases hfm.io i l hm with h2|h2
    .exact hx0s l i p h2 hp
    .rw[hfr.β l h2]at hp;cases hp
  .obtain⟨l,_,h2,_⟩:=hx0' i p h;exact hn l p h2 e
  .rcases hst.newI b h with h|h|⟨i,p,h1,h2⟩
   .exact .inl h
   .exact .inr (.inl h)
   .obtain⟨l,_,h3,_⟩:=hx0' i p h1;exact .inr (.inr ⟨l,p,h3,h2⟩)
  .cases h1:ow σo l with
   |none=>rw[hx2n l h1]at h;exact .inl h
   |some i=>
    have hm:=mC h1;rw[hx2 i l hm]at h;rcases hnew i p h with⟨l',h2,h3⟩|h2|⟨l',p',_,h3,h4⟩
    .exact .inr (.inr ⟨l',p,h3,rfl⟩)
    .exact .inr (.inl h2)
    .exact .inr (.inr ⟨l',p',h3,h4⟩)
 have hsim:fO ν x2 (look st'.m):=by
  refine⟨λl blk b base tot e1 e2=>?_,λl1 l2 b base tot base' tot' e1 e2 e3 e4=>?_,hi'.o9.imm,λl b base tot e=>?_,cO.le x' _ (λ_ h=>h) (λ_ _=>rfl) hi'.o9.gd⟩
  .rcases hfm.m1 l blk e1 with⟨i,b1,h1,h2,h3⟩|⟨h1,h2,h3⟩
   .rw[hx2 i l h1]at e2;obtain⟨o1,o2⟩:=hi'.o9.own i b1 b base tot (by rw[hlk];exact h2) e2;exact⟨o1,pH.re (x:=x') (x':=x2) rfl rfl hβ2 o2 h3⟩
   .rw[hx2n l h1]at e2;obtain⟨o1,o2⟩:=hs.own l blk b base tot h3 e2;have hlt:=hs.er l b base tot e2;have hno:∀i p,x0.β i=some p->p.1≠b:=by
     rintro i ⟨b',base',tot'⟩ h e;simp only at e;subst e;obtain⟨l',h4,h5,_⟩:=hx0' i _ h;have:=hs.inj l' l b' base' tot' base tot (hfm.lt _ _ h4) (by rw[h3];simp) h5 e2;subst this;exact h2 _ h4
    refine⟨λh=>?_,o2.mono hstep.le (hst.old b hlt hno)⟩;rcases hst.newI b h with h|h|⟨i,p,h4,h5⟩
    .exact o1 h
    .exact absurd hlt (Nat.not_lt.2 h)
    .exact hno i p h4 h5
  .have mix:∀l1 l2 base tot base' tot',(∃i b1,(i,l1)∈σo/\look m1 i=some b1)->ow σo l2=none->(∀i,(l2,i)∉σi)->look st.m l2≠none->x2.β l1=some (b,base,tot)->x2.β l2=some (b,base',tot')->False:=by
    rintro l1 l2 base tot base' tot' ⟨i,b1,h1,h2⟩ h3 h4 h5 e3 e4;rw[hx2 i l1 h1]at e3;rw[hx2n l2 h3]at e4;rcases hnew i _ e3 with⟨l',h6,h7⟩|h6|⟨l',⟨pb,pt,pq⟩,⟨j,h6⟩,h7,h8⟩
    .have:=hs.inj l' l2 b base tot base' tot' (hfm.lt _ _ h6) h5 h7 e4;subst this;exact h4 _ h6
    .have:=hs.er l2 b base' tot' e4;simp only at h6;omega
    .simp only at h8;subst h8;have:=hs.inj l' l2 pb pt pq base' tot' (hfm.lt _ _ h6) h5 h7 e4;subst this;exact h4 _ h6
   cases f1:look st'.m l1 with
   |none=>exact absurd f1 e1
   |some b1=>
    cases f2:look st'.m l2 with
    |none=>exact absurd f2 e2
    |some b2=>
     rcases hfm.m1 l1 b1 f1 with⟨i,c1,h1,h2,_⟩|⟨h1,h2,h3⟩<;>rcases hfm.m1 l2 b2 f2 with⟨j,c2,k1,k2,_⟩|⟨k1,k2,k3⟩
     .rw[hx2 i l1 h1]at e3;rw[hx2 j l2 k1]at e4;have:=hi'.o9.inj i j b base tot base' tot' (by rw[hlk,h2];simp) (by rw[hlk,k2];simp) e3 e4;subst this;have:=xX hfm.oko h1;rw[xX hfm.oko k1]at this;exact(aZ this).symm
     .exact(mix l1 l2 base tot base' tot' ⟨i,c1,h1,h2⟩ k1 k2 (by rw[k3];simp) e3 e4).elim
     .exact(mix l2 l1 base' tot' base tot ⟨j,c2,k1,k2⟩ h1 h2 (by rw[h3];simp) e4 e3).elim
     .rw[hx2n l1 h1]at e3;rw[hx2n l2 k1]at e4;exact hs.inj l1 l2 b base tot base' tot' (by rw[h3];simp) (by rw[k3];simp) e3 e4
  .cases h1:ow σo l with
   |none=>rw[hx2n l h1]at e;exact js (hs.er l b base tot e) hst.size
   |some i=>
    rw[hx2 i l (mC h1)]at e;exact hi'.o9.er i b base tot e
 have hfr2:fE st' x2:=by
  refine⟨λl hl=>?_,λl hl=>?_⟩
  .cases h1:ow σo l with
   |none=>rw[hx2n l h1];exact hfr.β l (by have:=hfm.nx;omega)
   |some i=>have:=tA hfm.oko (mC h1);omega
  .cases f1:look st'.m l with
   |none=>exact absurd f1 hl
   |some b1=>
    rcases hfm.m1 l b1 f1 with⟨i,c1,h1,_⟩|⟨_,_,h3⟩
    .exact tA hfm.oko h1
    .have:=hfr.m l (by rw[h3];simp);have:=hfm.nx;omega
 have hrd:=RD.re (ν:=ν) (x:=x') (x':=x2) rfl rfl hβ2 r2 hvd;rcases Ex.Ch hh with h|h<;>rw[h]at he<;>subst he<;>exact⟨hi'.defers,v,r1,x2,vd',st',hK,rfl,hstep,hrd,hsim,hfr2⟩
end
end
structure RowT where
 tr:Θ->St->(Τ)->Prop
 mu:Θ->St->Nat
 mono:∀(ds:Θ) (st:St) (K K':Τ),(∀d st',K d st'->K' d st')->tr ds st K->tr ds st K'
def RowT.no:RowT:=⟨λ_ _ _=>False,λ_ _=>0,λ_ _ _ _ _ h=>h⟩
def uV (af:aj)(Q:D->Γ->Prop):Ex->Φ->St->Prop:=λe env st=>e.home/\oO st.m env af.res/\∃m1,(∀i,look st.m i=look m1 i)/\Q (ku af env st) m1
def eB {vd:D}{m1:Γ}{e:Ex}{env:Φ}(h1:e.home)(h2:oO st.m env af.res)(h3:ku af env st=vd)(h4:st.m=m1)(h5:Q vd m1):uV af Q e env st:=⟨h1,h2,m1,λi=>by rw[h4],by rw[h3];exact h5⟩
section
variable [cO]{P:Program}{ν:Ξ}{bS:Ε}{Y:Ctx}
def W1 (P:Program)(ν:Ξ)(Γ':Ctx)(bS:Ε)(tr:Θ->St->(Τ)->Prop)(fid:Nat):Prop:=
 ∀(ds:Θ) (st:St) (K:Τ),tr ds st K->Ok P ν bS Γ'->∀(x:X) (args:Κ),args.size=ds.length->(∀i,i<ds.length->RD ν x (args.getD i undef) (ds.getD i .any))->fO ν x (look st.m)->fE st x->
  jU P x (λv x'=>∃d st',K d st'/\Step x x'/\RD ν x' v d/\fO ν x' (look st'.m)/\fE st' x') ((callFunc fid args).run P x.w)
end
abbrev RT:=Θ->D->Prop
abbrev FT:=D->Θ->D->D->Prop
abbrev TT:=Θ->St->(Τ)->Prop
def LM (T:TT):=∀ds st K K',(∀d st',K d st'->K' d st')->T ds st K->T ds st K'
def Ie (A:RT->Prop):RT:=λds d=>∀T,A T->T ds d
def oz (A:FT->Prop):FT:=λd ds v s=>∀T,A T->T d ds v s
def ahd (T:TT):Ctx:=⟨λ_ _=>False,λ_ _=>.any,λ_=>T,λ_ _ _=>False,λ_ _ _=>.any,λ_ _ _=>.any,0⟩
def Y2:TT:=λds st K=>∀T,LM T->C (ahd T)->T ds st K
def MC:LM (Y2 C):=λ_ _ _ _ h h1 T hT hC=>hT _ _ _ _ h (h1 T hT hC)
def noR:RT:=λ_ _=>False
def noF:FT:=λ_ _ _ _=>False
def noT:TT:=λ_ _ _=>False
def DL:LM noT:=λ_ _ _ _ _ h=>h.elim
structure mS where
 key:Nat
 rel:RT
 mu:Θ->Nat
 relF:FT
 tr:TT
 muE:Θ->St->Nat
 mono:LM tr
abbrev τ:=List (Nat×mS)
variable(t:τ)
def mu0:Θ->Nat:=λ_=>0
def muE0:Θ->St->Nat:=λ_ _=>0
def nu:mS:=⟨0,noR,mu0,noF,noT,muE0,DL⟩
def rP (k:Nat)(A:RT->Prop)(mu:Θ->Nat:=mu0):mS:=⟨k,Ie A,mu,noF,noT,muE0,DL⟩
def rF (k:Nat)(A:FT->Prop):mS:=⟨k,noR,mu0,oz A,noT,muE0,DL⟩
def rG (k:Nat)(C:Ctx->Prop)(mu:Θ->St->Nat:=muE0):mS:=⟨k,noR,mu0,noF,Y2 C,mu,MC C⟩
noncomputable def pick (r:D->Prop):D:=Classical.epsilon r
def lW {r:D->Prop}(h:∃d,r d):r (pick r):=Classical.epsilon_spec h
def Det (R:RT):=∀ds d d',R ds d->R ds d'->d=d'
def y1 (R:FT):=∀d ds v s v' s',R d ds v s->R d ds v' s'->v=v'/\s=s'
def aiW {A:RT->Prop}(h:A λds d=>A λds' d'=>ds'=ds->d=d'):Det (Ie A):=λds d d' h1 h2=>h2 _ (h1 _ h) rfl
def adK {A:FT->Prop}(h:A λd ds v s=>A λd' ds' v' s'=>d'=d->ds'=ds->v=v'/\s=s'):y1 (oz A):=λd ds v s v' s' h1 h2=>h2 _ (h1 _ h) rfl rfl
noncomputable def FF:Ctx where
 pre n ds:=∃d,(lk t n nu).rel ds d
 val n ds:=pick ((lk t n nu).rel ds)
 tr n:=(lk t n nu).tr
 fp n d ds:=∃v s,(lk t n nu).relF d ds v s
 fv n d ds:=pick λv=>∃s,(lk t n nu).relF d ds v s
 fs n d ds:=pick λs=>∃v,(lk t n nu).relF d ds v s
 lo:=0
def aaJ:Rank:=⟨λn=>(lk t n nu).key,λn=>(lk t n nu).mu,λn=>(lk t n nu).muE⟩
noncomputable abbrev under (t:τ)(k u:Nat):Ctx:=(FF t).under (aaJ t) k u
def Hj (k u n:Nat):(((FF t).under (aaJ t) k u).at n).bU:=
 λf ds st K K' h hh=>⟨hh.1,(lk t f nu).mono ds st K K' h hh.2⟩
section
variable {t:τ}{u:Nat}{v s:D}
def okp (hD:Det (lk t n nu).rel)(hk:(lk t n nu).key<k\/(lk t n nu).key=k/\(lk t n nu).mu ds<u)(h:(lk t n nu).rel ds d):(under t k u).pre n ds/\(under t k u).val n ds=d:=
 ⟨⟨hk,d,h⟩,hD _ _ _ (lW ⟨d,h⟩) h⟩
def okf (hD:y1 (lk t n nu).relF)(hk:(lk t n nu).key<k)(h:(lk t n nu).relF d ds v s):(under t k u).fp n d ds/\(under t k u).fv n d ds=v/\(under t k u).fs n d ds=s:=by
 refine⟨⟨.inl hk,v,s,h⟩, ?_, ?_⟩
 .obtain⟨s',h'⟩:=lW (r:=λv=>∃s,(lk t n nu).relF d ds v s) ⟨v,s,h⟩;exact(hD _ _ _ _ _ _ h' h).1
 .obtain⟨v',h'⟩:=lW (r:=λs=>∃v,(lk t n nu).relF d ds v s) ⟨s,v,h⟩;exact(hD _ _ _ _ _ _ h' h).2
def Te (hk:(lk t n nu).key<k\/(lk t n nu).key=k/\(lk t n nu).muE ds st<u)(h:(lk t n nu).tr ds st K):(under t k u).tr n ds st K:=⟨hk,h⟩
end
section
variable [cO]{P:Program}{ν:Ξ}{bS:Ε}{Y:Ctx}{t:τ}{fid key:Nat}
def LK (P:Program)(ν:Ξ)(bS:Ε)(Y:Ctx)(fid:Nat)(ds:Θ)(d:D):Prop:=Ok P ν bS Y->∀(x:X) (args:Κ),args.size=ds.length->(∀i,i<ds.length->RD ν x (args.getD i undef) (ds.getD i .any))->aP ds=true->
  (∀b,x.I b->b<x.w.heap.size)->cO.gd x->jU P x (λv x'=>oa x x'/\RD ν x' v d) ((callFunc fid args).run P x.w)
def RW (P:Program)(ν:List (Nat×Nat))(bS:List Nat)(Y:Ctx)(fid:Nat)(d:D)(ds:List D)(vd new:D):Prop:=Ok P ν bS Y->∀(x:X) (f:Nat->Option bo) (args:Array Value) (l k:Nat),args.size=ds.length+1->
   RD ν x (args.getD 0 undef) (.ptr l k 0 0)->(∀i,i<ds.length->RD ν x (args.getD (i+1) undef) (ds.getD i .any))->fO ν x f->f l=some (.buf k [d])->d.aV=true->aP ds=true->
   jU P x (λv x'=>Step x x'/\RD ν x' v vd/\fO ν x' (λl'=>if l'=l then some (.buf k [new])else f l')/\x'.β=x.β) ((callFunc fid args).run P x.w)
def vj (P:Program)(ν:Ξ)(bS:Ε)(Y:Ctx)(fid:Nat)(ds:Θ)(st:St)(K:Τ):Prop:=Ok P ν bS Y->∀(x:X) (args:Κ),args.size=ds.length->(∀i,i<ds.length->RD ν x (args.getD i undef) (ds.getD i .any))->fO ν x (look st.m)->fE st x->
  jU P x (λv x'=>∃d st',K d st'/\Step x x'/\RD ν x' v d/\fO ν x' (look st'.m)/\fE st' x') ((callFunc fid args).run P x.w)
structure Owe (P:Program)(ν:Ξ)(bS:Ε)(t:τ)(fid n:Nat):Prop where
 p:∀ds d,(lk t n nu).rel ds d->LK P ν bS (under t (lk t n nu).key ((lk t n nu).mu ds)) fid ds d
 f:y1 (lk t n nu).relF/\∀d ds v s,(lk t n nu).relF d ds v s->RW P ν bS (under t (lk t n nu).key ((lk t n nu).mu (d::ds))) fid d ds v s
 g:∀ds st K,(lk t n nu).tr ds st K->vj P ν bS (under t (lk t n nu).key ((lk t n nu).muE ds st)) fid ds st K
def okA (hsm:∀fid n,dV ν fid=some n->n<1000000)(hB:∀t,bS.contains (1000000000+t)=true->t=cO.tB)(hG:∀g,bS.contains (500000000+g)=true/\g<400000000->cO.gz g)(h:∀fid n,dV ν fid=some n->Owe P ν bS t fid n):Ok P ν bS (FF t):=by
 refine ok_of (aaJ t) hsm hB hG (λfid n hn ds hp hok=>(h fid n hn).p ds _ (lW hp) hok) (λfid n hn _ d ds hp hok=>?_) (λfid n hn ds st K htr hok=>(h fid n hn).g ds st K htr hok);obtain⟨v,s,hr⟩:=hp;obtain⟨hD,hf⟩:=(h fid n hn).f;have h2:(FF t).fv n d ds=v/\(FF t).fs n d ds=s:=by
  constructor
  .obtain⟨s',h'⟩:=lW (r:=λv=>∃s,(lk t n nu).relF d ds v s) ⟨v,s,hr⟩;exact(hD _ _ _ _ _ _ h' hr).1
  .obtain⟨v',h'⟩:=lW (r:=λs=>∃v,(lk t n nu).relF d ds v s) ⟨s,v,hr⟩;exact(hD _ _ _ _ _ _ h' hr).2
 rw[h2.1,h2.2];exact hf d ds v s hr hok
def Iu {Y:D->Θ->Ctx}:y1 noF/\∀d ds v s,noF d ds v s->RW P ν bS (Y d ds) fid d ds v s:=⟨λ_ _ _ _ _ _ h=>h.elim,λ_ _ _ _ h=>h.elim⟩
def aL {A:RT->Prop}{mu:Θ->Nat}(hr:lk t n nu=rP key A mu)(h:A λds d=>LK P ν bS (under t key (mu ds)) fid ds d):Owe P ν bS t fid n:=by
 refine⟨?_, ?_, ?_⟩<;>rw[hr]
 .exact λds d hd=>hd (λds d=>LK P ν bS (under t key (mu ds)) fid ds d) h
 .exact Iu
 .exact λ_ _ _ h=>h.elim
def Qf {A:FT->Prop}(hr:lk t n nu=rF key A)(hD:y1 (oz A))(h:A λd ds v s=>RW P ν bS (under t key 0) fid d ds v s):Owe P ν bS t fid n:=by
 refine⟨?_, ?_, ?_⟩<;>rw[hr]
 .exact λ_ _ h=>h.elim
 .exact⟨hD,λd ds v s hd=>hd _ h⟩
 .exact λ_ _ _ h=>h.elim
def UX {Y:Θ->St->Ctx}:LM λds st K=>vj P ν bS (Y ds st) fid ds st K:=λds st K K' h hg hok x args hl ha hs hf=>(hg hok x args hl ha hs hf).mono λv x' ⟨d,st',h1,h2⟩=>⟨d,st',h _ _ h1,h2⟩
def zH {C:Ctx->Prop}{mu:Θ->St->Nat}(hr:lk t n nu=rG key C mu)(h:C (ahd λds st K=>vj P ν bS (under t key (mu ds st)) fid ds st K)):Owe P ν bS t fid n:=by
 refine⟨?_, ?_, ?_⟩<;>rw[hr]
 .exact λ_ _ h=>h.elim
 .exact Iu
 .exact λds st K hd=>hd (λds st K=>vj P ν bS (under t key (mu ds st)) fid ds st K) UX h
def Wu (P:Program)(ν:Ξ)(bS:Ε)(fid:Nat)(af:aj):Prop:=(P.funcs[fid]?).map (λf=>(compile P ν bS f,f.name== "runtime.NumGoroutine"))=some (some af,false)
theorem Wu.split (h:Wu P ν bS fid af):∃fn,P.funcs[fid]? =some fn/\compile P ν bS fn=some af/\(fn.name== "runtime.NumGoroutine")=false:=by
 grind [Wu]
def av (hmix:P.follows .mixedOrders=true)(hC:Wu P ν bS fid af)(h1:ds.length=af.np)(h2:dD (Y.at 0) af.body (O7 af d) (fV af ds) ⟨0,[]⟩):LK P ν bS Y fid ds d:=by
 intro hok x args hl hargs hnl himm hgd;obtain⟨fn,hf,hc,hn⟩:=hC.split;obtain⟨body,c1,_⟩:=gJ hc;exact .inr ⟨fid,args,ic hf hn (by rw[c1];rfl) args x.w,aec hok hmix hf hc hl hargs hnl himm hgd h1 h2⟩
theorem Da {vd new:D}(k0:Nat)(hmix:P.follows .mixedOrders=true)(hC:Wu P ν bS fid af)(h1:ds.length+1=af.np)(hk:d.cells.length=k0)(h2:dD (Y.at 1) af.body (HB af k0 vd new) (fV af (.ptr 0 k0 0 0::ds)) ⟨1,[(0,.buf k0 [d])]⟩):RW P ν bS Y fid d ds vd new:=by
 intro hok x f args l k hl h0 hargs hs hfl hd hnl;obtain⟨fn,hf,hc,hn⟩:=hC.split;obtain⟨body,c1,_⟩:=gJ hc;have hkk:k=k0:=by
  generalize args.getD 0 undef=v0 at h0;cases h0 with
  |ptr _ _ _ _ b base tot at_ hβ hat=>
   obtain⟨p1,p2,c,T,fr,p3,p4,p5,p6⟩:=(hs.own l _ b base tot hfl hβ).2;have:=(p6 0 aJ).1
   grind
 subst hkk;exact .inr ⟨fid,args,ic hf hn (by rw[c1];rfl) args x.w,aea hok hmix hf hc hl h0 hargs hs hfl hd hnl h1 h2⟩
theorem Ml {q:Nat}{cs:Θ}(hmono:∀q,(Y.at q).bU)(hmix:P.follows .mixedOrders=true)(hC:Wu P ν bS fid af)(h1:cs.length=ds.length)(h2:∀i,i<ds.length->RnD 0 σi (ds.getD i .any) (cs.getD i .any))(h3:cs.length=af.np)(h4:gQ 0 q σi=true)(h5:∀l i,(l,i)∈σi->look st.m l≠none)(h6:∀i b,look m0 i=some b->∃l b',(l,i)∈σi/\look st.m l=some b'/\qN 0 σi b' b)(h7:dD (Y.at q) af.body (uV af Q) (fV af cs) ⟨q,m0⟩)(h8:∀d m1,Q d m1->∃(σo:Ξ) (q1:Nat) (st':St) (vd':D),Fr σi σo q q1 m0 m1 st st'/\RnD 0 σo d vd'/\K vd' st'):vj P ν bS Y fid ds st K:=by
 intro hok x args hl hargs hs hfr;obtain⟨fn,hf,hc,hn⟩:=hC.split;obtain⟨body,c1,_⟩:=gJ hc;refine .inr ⟨fid,args,ic hf hn (by rw[c1];rfl) args x.w, ?_⟩;refine Calls.mono (aeb (K:=K) hok hmix hf hc hl hargs hs hfr h1 h2 h3 h4 h5 h6 (iv (hmono q) _ _ _ _ _ (λe env st1 h=>?_) h7)) λe w' he=>?_
 .obtain⟨g1,g2,m1,g3,g4⟩:=h
  grind
 grind
end
theorem kZ {α:Type}{f:α->D}(hf:∀x y,f x=f y↔x=y):∀a b:List α,a.map f=b.map f↔a=b
 |[],[]=>aJ
 |[],_::_=>aJ
 |_::_,[]=>aJ
 |x::a,y::b=>by simp only[List.map_cons,tw,hf,kZ hf a b]
def iNat (a b:Nat):((a:Nat):Int)=(b:Nat)↔a=b:=ae
theorem iU8 (x y:UInt8):((x.toNat:Nat):Int)=(y.toNat:Nat)↔x=y:=(iNat _ _).trans pX
def YL (a b:Ψ):a.map D.str=b.map D.str↔a=b:=kZ (λ_ _=>aJ) a b
def U8 (a b:Δ):a.map (D.int .i64)=b.map (D.int .i64)↔a=b:=kZ (λ_ _=>aJ) a b
theorem iByt (a b:aw):(a.map λc=>D.int .u8 c.toNat)=(b.map λc=>D.int .u8 c.toNat)↔a=b:=by grind [kZ,iU8]
def iVer (a b:b6):b6.D a=b6.D b↔a=b:=by cases a;cases b;simp[b6.D]
end Go.Abs
