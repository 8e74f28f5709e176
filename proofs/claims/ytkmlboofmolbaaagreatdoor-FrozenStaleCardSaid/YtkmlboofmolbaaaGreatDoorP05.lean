/- A part of the proofs. -/
import Derived.IntWalk
import Derived.KernelRfl
import Derived.Lib.TrimUEq
import Derived.Test.YtkmlboofmolbaaaGreatDoorP04
set_option linter.all false
set_option maxRecDepth 60000
set_option maxHeartbeats 2000000
namespace Go.Abs
variable{fx fy draw t:Bool}{x y z:Src}{m2 m':List (Nat×bn)}{next:List ba->St->Prop}{k n l L lo nx l' j i0:Nat}{a b c:Int}{α ι:Type}{k2 kk k3:IntKind}{σ cm:List (Nat×Nat)}{sh:List (List Sh)}{args:List Src}{r:AC}{env' env:List ba}{ps:List (Nat×Nat×Src)}{ins:List GI}
section
variable {Y:Ctx}{Q Q':Ex->List ba->St->Prop}{st:St}
def Ctx.cb (Z:Ctx):=∀f ds st (K K':D->St->Prop),(∀d st,K d st->K' d st)->Z.tr f ds st K->Z.tr f ds st K'
def iP {draw:Bool}{K K':List ba->St->Prop}(h:∀vs st,K vs st->K' vs st)(htr:Y.cb):∀(l:List GI) (env vs:List ba) (st:St),eW Y draw l env vs st K->eW Y draw l env vs st K'
 |[],env,vs,st,hh=>h _ _ hh
 |⟨i,g⟩::r,env,vs,st,hh=>by
  cases hcm:i.cS with
  |true=>
   cases i<;>simp only[ax.cS]at hcm<;>try(cases hcm;done)
   .exact⟨hh.1,λhf=>⟨(hh.2.1 hf).1,htr _ _ _ _ _ (λd st' ⟨h1,h2⟩=>⟨h1,iP h htr r _ _ _ h2⟩) (hh.2.1 hf).2⟩,λhf=>iP h htr r _ _ _ (hh.2.2 hf)⟩
   .rename_i fv args;simp only[eW]at hh⊢;refine⟨hh.1,λhf=>⟨(hh.2.1 hf).1,(hh.2.1 hf).2.1, ?_⟩,λhf=>iP h htr r _ _ _ (hh.2.2 hf)⟩;have h3:=(hh.2.1 hf).2.2;cases hd:(Src.ev env vs fv).d<;>simp only[hd]at h3⊢;exact⟨h3.1,htr _ _ _ _ _ (λd st' ⟨h1,h2⟩=>⟨h1,iP h htr r _ _ _ h2⟩) h3.2⟩
   .exact⟨hh.1,λhf=>⟨(hh.2.1 hf).1,(hh.2.1 hf).2.1,λb hb=>iP h htr r _ _ _ ((hh.2.1 hf).2.2 b hb)⟩,λhf=>iP h htr r _ _ _ (hh.2.2 hf)⟩
  |false=>
   cases hf:i.lC draw g with
   |true=>
    rw[zp hcm hf]at hh⊢;exact⟨hh.1,λe=>⟨(hh.2.1 e).1,iP h htr r _ _ _ (hh.2.1 e).2⟩,λe=>iP h htr r _ _ _ (hh.2.2 e)⟩
   |false=>
    rw[nT hcm hf]at hh⊢;exact⟨hh.1,hh.2.1,λha=>(hh.2.2 ha).imp λ_ h2=>⟨h2.1,iP h htr r _ _ _ h2.2⟩⟩
def Gh.mono {p q:List ba->St->Prop}(h:∀env st,p env st->q env st):Gh lo p env st->Gh lo q env st
 |⟨e,s,h1,h2⟩=>⟨e,s,h1,h _ _ h2⟩
def Gh.intro {p:List ba->St->Prop}(h:p env st):Gh lo p env st:=⟨env,st,.refl _ _,h⟩
def iv (htr:Y.cb):∀(a:AC) (Q Q':Ex->List ba->St->Prop) (env:List ba) (st:St),(∀e env st,Q e env st->Q' e env st)->dx Y a Q env st->dx Y a Q' env st
 | .reg draw ins cm,Q,Q',env,st,h,hh=>Gh.mono (λenv st h2=>iP (λvs st=>h _ _ _) htr _ _ _ _ h2) hh
 | .seq a b,Q,Q',env,st,h,hh=>Gh.mono (λenv st h2=>iv htr a _ _ env st (λe env st h2=>by
   cases e with
   |normal=>exact iv htr b Q Q' env st h h2
   |exit id=>exact h _ _ _ h2
   |ret=>exact h _ _ _ h2) h2) hh
 | .cond c a b,Q,Q',env,st,h,hh=>Gh.mono (λenv st h2=>by
  refine⟨h2.1, ?_⟩;have:=h2.2;cases hd:(c.ev env []).d<;>simp only[hd]at this⊢;exact⟨λht=>iv htr a Q Q' env st h (this.1 ht),λht=>iv htr b Q Q' env st h (this.2 ht)⟩) hh
 | .block id a,Q,Q',env,st,h,hh=>Gh.mono (λenv st h2=>iv htr a _ _ env st (λe env st h2=>by
   cases e with
   |normal=>exact h _ _ _ h2
   |exit j=>simp only at h2⊢;split<;>rename_i hj<;>simp only[hj,a8,aW]at h2<;>exact h _ _ _ h2
   |ret=>exact h _ _ _ h2) h2) hh
 | .loop a,Q,Q',env,st,h,hh=>Gh.mono (λenv st h2=>by
  obtain⟨I,μ,h1,h2⟩:=h2;refine⟨I,μ,h1,λenv st hi=>iv htr a _ _ env st (λe env' st' h3=>?_) (h2 env st hi)⟩;cases e with
  |normal=>exact h3
  |exit id=>exact h _ _ _ h3
  |ret=>exact h _ _ _ h3) hh
 | .exit id,Q,Q',env,st,h,hh=>Gh.mono (λ_ _=>h _ _ _) hh
 | .ret,Q,Q',env,st,h,hh=>Gh.mono (λ_ _=>h _ _ _) hh
 | .skip,Q,Q',env,st,h,hh=>Gh.mono (λ_ _=>h _ _ _) hh
def iu {a:AC}{st':St}(g:aY Y.lo env st env' st')(h:dx Y a Q env' st'):dx Y a Q env st:=by
 cases a<;>(obtain⟨e2,s2,g2,h2⟩:=h;exact⟨e2,s2,.trans _ _ _ _ _ _ g g2,h2⟩)
def BQ (Y:Ctx)(id:Nat)(r:AC)(Q:Ex->List ba->St->Prop):Ex->List ba->St->Prop:=λe env st=>match e with
 | .normal=>dx Y r Q env st
 | .exit j=>if j=id then dx Y r Q env st else Q (.exit j) env st
 | .ret=>Q .ret env st
def LQ (Y:Ctx)(id:Nat)(r:AC)(next:List ba->St->Prop)(Q:Ex->List ba->St->Prop):Ex->List ba->St->Prop:=λe env st=>match e with
 | .normal=>next env st
 | .exit j=>if j=id then dx Y r Q env st else Q (.exit j) env st
 | .ret=>Q .ret env st
def BQ.normal {id:Nat}(h:dx Y r Q env st):BQ Y id r Q .normal env st:=h
def BQ.out {id:Nat}(h:dx Y r Q env st):BQ Y id r Q (.exit id) env st:=by simp only[BQ,a8];exact h
def BQ.other {id:Nat}(hj:(j==id)=false)(h:Q (.exit j) env st):BQ Y id r Q (.exit j) env st:=by simp only[BQ,ai nN];exact h
def BQ.ret {id:Nat}(h:Q .ret env st):BQ Y id r Q .ret env st:=h
def LQ.normal {id:Nat}(h:next env st):LQ Y id r next Q .normal env st:=h
def LQ.out {id:Nat}(h:dx Y r Q env st):LQ Y id r next Q (.exit id) env st:=by simp only[LQ,a8];exact h
def LQ.other {id:Nat}(hj:(j==id)=false)(h:Q (.exit j) env st):LQ Y id r next Q (.exit j) env st:=by simp only[LQ,ai nN];exact h
def LQ.ret {id:Nat}(h:Q .ret env st):LQ Y id r next Q .ret env st:=h
def gh {a b c:AC}(h:dx Y (.seq a (.seq b c)) Q env st):dx Y (.seq (.seq a b) c) Q env st:=by
 obtain⟨e1,s1,g1,h1⟩:=h;refine⟨e1,s1,g1,e1,s1,.refl _ _, ?_⟩;have:∀(Q1 Q2:Ex->List ba->St->Prop),Q1=Q2->dx Y a Q1 e1 s1->dx Y a Q2 e1 s1:=λ_ _ e h=>e▸h
 refine this _ _ ?_ h1;funext e env st;cases e with
 |normal=>exact propext ⟨λ⟨e2,s2,g2,h2⟩=>iu g2 h2,λh=>⟨_,_,.refl _ _,h⟩⟩
 |exit id=>rfl
 |ret=>rfl
def gr {b:AC}(h:dx Y b Q env st):dx Y (.seq .skip b) Q env st:=.intro (.intro h)
def wp_skip (h:Q .normal env st):dx Y .skip Q env st:=.intro h
def Gy {b:AC}(h:Q .ret env st):dx Y (.seq .ret b) Q env st:=.intro (.intro h)
def wp_ret (h:Q .ret env st):dx Y .ret Q env st:=.intro h
def oG {id:Nat}{b:AC}(h:Q (.exit id) env st):dx Y (.seq (.exit id) b) Q env st:=.intro (.intro h)
def wp_exit {id:Nat}(h:Q (.exit id) env st):dx Y (.exit id) Q env st:=.intro h
def mJ {id:Nat}{a:AC}(h:dx Y a (BQ Y id r Q) env st)(htr:Y.cb):dx Y (.seq (.block id a) r) Q env st:=by
 refine .intro (.intro (iv htr a _ _ _ _ (λe env st h=>?_) h));cases e with
 |normal=>exact h
 |exit j=>simp only[BQ]at h⊢;split<;>rename_i hj<;>simp only[hj,a8,aW]at h<;>exact h
 |ret=>exact h
def wp_block {id:Nat}{a:AC}(h:dx Y a (BQ Y id .skip Q) env st)(htr:Y.cb)(hQ:∀e env env' st st',aY Y.lo env st env' st'->Q e env' st'->Q e env st):dx Y (.block id a) Q env st:=by
 refine .intro (iv htr a _ _ _ _ (λe env st h=>?_) h);have hs:∀env st,dx Y .skip Q env st->Q .normal env st:=λenv st ⟨e2,s2,g2,h2⟩=>hQ _ _ _ _ _ g2 h2
 cases e with
 |normal=>exact hs _ _ h
 |exit j=>simp only[BQ]at h⊢;split<;>rename_i hj<;>simp only[hj,a8,aW]at h<;>first|exact hs _ _ h|exact h
 |ret=>exact h
def CQ (next:List ba->St->Prop)(Q:Ex->List ba->St->Prop):Ex->List ba->St->Prop:=λe env st=>match e with
 | .normal=>next env st
 | .exit j=>Q (.exit j) env st
 | .ret=>Q .ret env st
def CQ.normal (h:next env st):CQ next Q .normal env st:=h
def CQ.other (h:Q (.exit j) env st):CQ next Q (.exit j) env st:=h
def CQ.ret (h:Q .ret env st):CQ next Q .ret env st:=h
def NM (id:Nat)(Q:Ex->List ba->St->Prop):Ex->List ba->St->Prop:=λe env st=>match e with
 | .normal=>Q .normal env st
 | .exit j=>if j=id then Q .normal env st else Q (.exit j) env st
 | .ret=>Q .ret env st
def NM.normal {id:Nat}(h:Q .normal env st):NM id Q .normal env st:=h
def NM.out {id:Nat}(h:Q .normal env st):NM id Q (.exit id) env st:=by simp only[NM,a8];exact h
theorem NM.other {id:Nat}(hj:(j==id)=false)(h:Q (.exit j) env st):NM id Q (.exit j) env st:=by grind [NM]
def NM.ret {id:Nat}(h:Q .ret env st):NM id Q .ret env st:=h
def lS {id:Nat}{a:AC}(h:dx Y a (NM id Q) env st)(htr:Y.cb):dx Y (.block id a) Q env st:=by
 refine .intro (iv htr a _ _ _ _ (λe env st h=>?_) h);cases e with
 |normal=>exact h
 |exit j=>simp only[NM]at h⊢;split<;>rename_i hj<;>simp only[hj,a8,aW]at h<;>exact h
 |ret=>exact h
def rj (htr:Y.cb){a b:AC}(F:ι->List ba)(G:ι->List (Nat×bn))(c:Nat)(P:ι->Prop)(h1:dx Y a (CQ (λenv' st'=>∃j,P j/\aY Y.lo env' st' (F j) ⟨c,G j⟩) Q) env st)(h2:∀i,P i->dx Y b Q (F i) ⟨c,G i⟩):dx Y (.seq a b) Q env st:=by
 refine .intro (iv htr a _ _ _ _ (λe env st h=>?_) h1);cases e with
 |normal=>obtain⟨j,hj,g⟩:=h;exact iu g (h2 j hj)
 |exit j=>exact h
 |ret=>exact h
def gp (htr:Y.cb){a:AC}{id:Nat}(F:ι->List ba)(G:ι->List (Nat×bn))(c:Nat)(P:ι->Prop)(μ:ι->Nat)(i0:ι)(hP:P i0)(h0:aY Y.lo env st (F i0) ⟨c,G i0⟩)(hr:∀i,P i->dx Y a (LQ Y id r (λenv' st'=>∃j,P j/\μ j<μ i/\aY Y.lo env' st' (F j) ⟨c,G j⟩) Q) (F i) ⟨c,G i⟩):dx Y (.seq (.block id (.loop a)) r) Q env st:=by
 let W:List ba->St->Nat->Prop:=λenv st k=>∃i,env=F i/\st=⟨c,G i⟩/\P i/\μ i=k
 have least:∀env st,(∃k,W env st k)->∃k,W env st k/\∀k',W env st k'->k<=k':=by
  intro env st ⟨k,hk⟩;induction k using Nat.strongRecOn with
  |_ k ih=>
   by_cases h:∃k',k'<k/\W env st k'
   .obtain⟨k',h1,h2⟩:=h;exact ih k' h1 h2
   .exact⟨k,hk,λk' hk'=>by
     rcases dZ k' k with h1|h1
     .exact absurd ⟨k',h1,hk'⟩ h
     .exact h1⟩
 open Classical in
 refine .intro (.intro ⟨_,_,h0,λenv st=>∃k,W env st k,λenv st=>if h:∃k,W env st k then Classical.choose (least env st h)else 0,⟨_,i0,rfl,rfl,hP,rfl⟩,λenv st hk=>?_⟩);obtain⟨⟨i,e1,e2,e3,e5⟩,hmin⟩:=Classical.choose_spec (least env st hk);have:=hr i e3;rw[<-e1,<-e2]at this;refine iv htr a _ _ env st ?_ this
 .intro e env' st' h;cases e with
  |normal=>
   obtain⟨j,b3,b5,g⟩:=h;have hW:W (F j) ⟨c,G j⟩ (μ j):=⟨j,rfl,rfl,b3,rfl⟩;refine⟨F j,⟨c,G j⟩,g,⟨_,hW⟩, ?_⟩;show(if h:∃k,W (F j) ⟨c,G j⟩ k then Classical.choose (least _ _ h)else 0)<(if h:∃k,W env st k then Classical.choose (least env st h)else 0);rw[dif_pos ⟨_,hW⟩,dif_pos hk,<-e5];exact Nat.lt_of_le_of_lt ((Classical.choose_spec (least _ _ ⟨_,hW⟩)).2 _ hW) b5
  |exit j=>simp only[LQ]at h⊢;split<;>rename_i hj<;>simp only[hj,a8,aW]at h<;>exact h
  |ret=>exact h
def Bq (id:Nat)(next:List ba->St->Prop)(Q:Ex->List ba->St->Prop):Ex->List ba->St->Prop:=λe env st=>match e with
 | .normal=>next env st
 | .exit j=>if j=id then Q .normal env st else Q (.exit j) env st
 | .ret=>Q .ret env st
def Bq.normal {id:Nat}(h:next env st):Bq id next Q .normal env st:=h
def Bq.out {id:Nat}(h:Q .normal env st):Bq id next Q (.exit id) env st:=by simp only[Bq,a8];exact h
theorem Bq.other {id:Nat}(hj:(j==id)=false)(h:Q (.exit j) env st):Bq id next Q (.exit j) env st:=by grind [Bq]
def Bq.ret {id:Nat}(h:Q .ret env st):Bq id next Q .ret env st:=h
def IA (htr:Y.cb){a:AC}{id:Nat}(F:ι->List ba)(G:ι->List (Nat×bn))(c:Nat)(P:ι->Prop)(μ:ι->Nat)(i0:ι)(hP:P i0)(h0:aY Y.lo env st (F i0) ⟨c,G i0⟩)(hr:∀i,P i->dx Y a (Bq id (λenv' st'=>∃j,P j/\μ j<μ i/\aY Y.lo env' st' (F j) ⟨c,G j⟩) Q) (F i) ⟨c,G i⟩):dx Y (.block id (.loop a)) Q env st:=by
 let W:List ba->St->Nat->Prop:=λenv st k=>∃i,env=F i/\st=⟨c,G i⟩/\P i/\μ i=k
 have least:∀env st,(∃k,W env st k)->∃k,W env st k/\∀k',W env st k'->k<=k':=by
  intro env st ⟨k,hk⟩;induction k using Nat.strongRecOn with
  |_ k ih=>
   by_cases h:∃k',k'<k/\W env st k'
   .obtain⟨k',h1,h2⟩:=h;exact ih k' h1 h2
   .exact⟨k,hk,λk' hk'=>by
     rcases dZ k' k with h1|h1
     .exact absurd ⟨k',h1,hk'⟩ h
     .exact h1⟩
 open Classical in
 refine .intro ⟨_,_,h0,λenv st=>∃k,W env st k,λenv st=>if h:∃k,W env st k then Classical.choose (least env st h)else 0,⟨_,i0,rfl,rfl,hP,rfl⟩,λenv st hk=>?_⟩;obtain⟨⟨i,e1,e2,e3,e5⟩,hmin⟩:=Classical.choose_spec (least env st hk);have:=hr i e3;rw[<-e1,<-e2]at this;refine iv htr a _ _ env st ?_ this
 .intro e env' st' h;cases e with
  |normal=>
   obtain⟨j,b3,b5,g⟩:=h;have hW:W (F j) ⟨c,G j⟩ (μ j):=⟨j,rfl,rfl,b3,rfl⟩;refine⟨F j,⟨c,G j⟩,g,⟨_,hW⟩, ?_⟩;show(if h:∃k,W (F j) ⟨c,G j⟩ k then Classical.choose (least _ _ h)else 0)<(if h:∃k,W env st k then Classical.choose (least env st h)else 0);rw[dif_pos ⟨_,hW⟩,dif_pos hk,<-e5];exact Nat.lt_of_le_of_lt ((Classical.choose_spec (least _ _ ⟨_,hW⟩)).2 _ hW) b5
  |exit j=>simp only[Bq]at h⊢;split<;>rename_i hj<;>simp only[hj,a8,aW]at h<;>exact h
  |ret=>exact h
def nth:List ba->Nat->ba
 |[],_=>.un
 |a::_,0=>a
 |_::r,n+1=>nth r n
def C5:∀(l:List ba) (n:Nat),l.getD n .un=nth l n
 |[],n=>by simp[nth]
 |a::_,0=>by simp[nth]
 |_::r,n+1=>by simpa[nth]using C5 r n
def bZ (env rs:List ba):Src->ba
 | .s n=>nth env n
 | .l p=>bif Nat.blt p rs.length then nth rs (rs.length-1-p)else .un
 | .c d=>⟨true,d⟩
theorem oQ (env rs:List ba):Src.ev env rs.reverse=bZ env rs:=by
 funext s;cases s with
 |s n=>exact C5 env n
 |l p=>
  simp only[Src.ev,bZ];cases h:Nat.blt p rs.length with
  |true=>
   have:p<rs.length:=by simp[Nat.blt]at h;omega
   rw[cond_true,<-C5]
   grind
  |false=>
   have:¬p<rs.length:=by intro e;have:Nat.blt p rs.length=true:=by {simp[Nat.blt];omega};rw[this]at h;cases h
   grind
 |c d=>rfl
def ay (Y:Ctx)(draw:Bool)(l:List GI)(env rs:List ba)(nx:Nat)(m:List (Nat×bn))(K:List ba->St->Prop):Prop:=eW Y draw l env rs.reverse ⟨nx,m⟩ K
def Wm (env rs:List ba):List (Nat×Nat)->List ba
 |[]=>env
 |(s,p)::r=>Wm (env.set s (bZ [] rs (.l p))) rs r
theorem Od (rs:List ba):∀(cm:List (Nat×Nat)) (env:List ba),iF env rs.reverse cm=Wm env rs cm
 |[],env=>rfl
 |(s,p)::r,env=>by
  simp only[iF,Wm];rw[Od rs r,<-congrFun (oQ [] rs) (.l p)];rfl
def aQ {b:AC}{m:List (Nat×bn)}(h:ay Y draw ins env [] nx m (λvs st'=>dx Y b Q (iF env vs cm) st')):dx Y (.seq (.reg draw ins cm) b) Q env ⟨nx,m⟩:=.intro (.intro h)
def pC {m:List (Nat×bn)}(h:ay Y draw ins env [] nx m (λvs st'=>Q .normal (iF env vs cm) st')):dx Y (.reg draw ins cm) Q env ⟨nx,m⟩:=.intro h
theorem bB {b:AC}{nx':Nat}{m:List (Nat×bn)}{rs fU:List ba}(h:dx Y b Q env' ⟨nx',m⟩)(he:Wm env rs cm=env':=by exact rfl)(hn:nx+rs.length=nx':=by exact zC):ay Y draw [] fU rs nx m (λvs st'=>dx Y b Q (iF env vs cm) st'):=by
 grind [ay,eW,Od]
theorem nH {nx':Nat}{m:List (Nat×bn)}{rs fU:List ba}(h:Q .normal env' ⟨nx',m⟩)(he:Wm env rs cm=env':=by exact rfl)(hn:nx+rs.length=nx':=by exact zC):ay Y draw [] fU rs nx m (λvs st'=>Q .normal (iF env vs cm) st'):=by
 grind [ay,eW,Od]
def aR {c:Src}{a b:AC}(h1:t=true->dx Y (.seq a r) Q env st)(h2:t=false->dx Y (.seq b r) Q env st)(hc:bZ env [] c=⟨true,.bool t⟩:=by exact rfl):dx Y (.seq (.cond c a b) r) Q env st:=by
 have hc':c.ev env []=⟨true,.bool t⟩:=by rw[<-hc,<-oQ];rfl
 refine .intro (.intro ?_);simp only[hc'];refine⟨trivial,λht=>?_,λht=>?_⟩
 .obtain⟨e,s,g,h⟩:=h1 ht;exact iu g h
 .obtain⟨e,s,g,h⟩:=h2 ht;exact iu g h
theorem wp_cond {c:Src}{a b:AC}(h1:t=true->dx Y a Q env st)(h2:t=false->dx Y b Q env st)(hc:bZ env [] c=⟨true,.bool t⟩:=by exact rfl):dx Y (.cond c a b) Q env st:=by
 have hc':c.ev env []=⟨true,.bool t⟩:=by rw[<-hc,<-oQ];rfl
 refine .intro ?_
 grind
def aY.to {c nx':Nat}{m:List (Nat×bn)}(σ:List (Nat×Nat))(hc:nx'=c)(h:gU lo c σ=true)(he:fH lo σ env env')(hm:bp lo c σ m m'):aY lo env ⟨nx,m⟩ env' ⟨nx',m'⟩:=by
 subst hc;exact .ren σ nx' env env' nx m m' h he hm
theorem br {β:Type}(q:α->β)(xs:List α):(xs.map q).take xs.length=xs.map q:=fj aB
def bQ {α:Type}{q:α->D}(h:∀x,(q x).aT=true):∀xs:List α,aM (xs.map q)=true
 |[]=>rfl
 |a::r=>by simp only[List.map_cons,aM,h a,bQ h r,gG]
def aY.fz {env2:List ba}{m:List (Nat×bn)}{es:List D}{st2:St}(l:Nat)(hl:look m l=some (.buf k es))(hn:aM es=true)(he:uJ l k es env=env')(hm:wF l k es (cT m l)=m')(h:aY lo env' ⟨nx,m'⟩ env2 st2):aY lo env ⟨nx,m⟩ env2 st2:=by
 have:=aY.Vd (lo:=lo) l env ⟨nx,m⟩;simp only[Abs.Vd,hl,hn,cond_true,he,hm]at this;exact .trans _ _ _ _ _ _ this h
def bm {a:AC}{m:List (Nat×bn)}{es:List D}(l:Nat)(h:dx Y a Q env' ⟨nx,m'⟩)(hl:look m l=some (.buf k es):=by exact rfl)(hn:aM es=true:=by first|exact rfl|exact bQ (λ_=>rfl) _)(he:uJ l k es env=env':=by simp only[uJ,iz,lu,wF,Aa,cT,Nat.reduceEqDiff,a8,aW,fS,dG,dh,fG,fR,bX,aZ,aN,cR,br,reduceCtorEq,bE,b8,Nat.reduceAdd,Nat.reduceLeDiff];exact rfl)(hm:wF l k es (cT m l)=m':=by simp only[uJ,iz,lu,wF,Aa,cT,Nat.reduceEqDiff,a8,aW,fS,dG,dh,fG,fR,bX,aZ,aN,cR,br,reduceCtorEq,bE,b8,Nat.reduceAdd,Nat.reduceLeDiff];exact rfl):dx Y a Q env ⟨nx,m⟩:=
 iu (aY.fz l hl hn he hm (.refl _ _)) h
def WkE.rf:∀e:List ba,WkE e e
 |[]=>trivial
 |_::r=>⟨⟨rfl,.refl _⟩,WkE.rf r⟩
def QH.nil:QH [] []:=⟨rfl,λ_=>.refl _⟩
def QH.cons {x y:D}{a b:List D}(h:EH x y)(h2:QH a b):QH (x::a) (y::b):=⟨by simp[h2.1],λi=>by cases i with
 |zero=>exact h
 |succ i=>simpa using h2.2 i⟩
def QH.rf (a:List D):QH a a:=⟨rfl,λ_=>.refl _⟩
def QH.map {α:Type}{q p:α->D}:∀{xs:List α},(∀x∈xs,EH (q x) (p x))->QH (xs.map q) (xs.map p)
 |[],_=>.nil
 |x::r,h=>.cons (h x (.head _)) (QH.map λy hy=>h y (.tail _ hy))
def EH.ag {a b:List D}(h:QH a b):EH (.agg a) (.agg b):=.agg _ _ h.1 h.2
def EH.ss {a b:List D}(h:QH a b):EH (.sl k a) (.sl k b):=.sl _ _ _ h.1 h.2
def QI.nil {m:List (Nat×bn)}:QI m []:=trivial
def QI.id {m r:List (Nat×bn)}{b:bn}(h:look m l=some b)(h2:QI m r):QI m ((l,b)::r):=⟨⟨b,h,by cases b<;>first|exact⟨rfl,.rf _⟩|exact rfl⟩,h2⟩
def QI.bf {m r:List (Nat×bn)}{es es':List D}(h:look m l=some (.buf k es))(hw:QH es es')(h2:QI m r):QI m ((l,.buf k es')::r):=⟨⟨_,h,rfl,hw⟩,h2⟩
def AQ {a:AC}{m:List (Nat×bn)}(m':List (Nat×bn))(hm:QI m m')(h:dx Y a Q env ⟨nx,m'⟩):dx Y a Q env ⟨nx,m⟩:=iu (.nz _ _ _ _ _ (WkE.rf _) hm) h
def fH.nil:fH lo σ [] []:=trivial
def fH.un {a:ba}{r s:List ba}(h:fH lo σ r s):fH lo σ (a::r) (.un::s):=⟨.inr rfl,h⟩
def fH.eq {ok:Bool}{d d':D}{r s:List ba}(hd:rW lo σ d=some d')(h:fH lo σ r s):fH lo σ (⟨ok,d⟩::r) (⟨ok,d'⟩::s):=⟨.inl ⟨rfl,.inr (.inl hd)⟩,h⟩
theorem fH.nl {ok:Bool}{d d':D}{r s:List ba}(hd:d'=d)(hn:d.aT=true)(h:fH lo σ r s):fH lo σ (⟨ok,d⟩::r) (⟨ok,d'⟩::s):=⟨.inl ⟨rfl,.inl ⟨hd,hn⟩⟩,h⟩
def fH.ni {ok:Bool}{d d':D}{r s:List ba}(hd:wD d d')(h:fH lo σ r s):fH lo σ (⟨ok,d⟩::r) (⟨ok,d'⟩::s):=⟨.inl ⟨rfl,.inr (.inr hd)⟩,h⟩
section
variable {c:Nat}{m r:List (Nat×bn)}
def bp.nil:bp lo c σ m []:=trivial
theorem bp.nl {es es':List D}(l:Nat)(hl:mN lo σ l=some l')(hm:look m l=some (.buf k es))(he:es'=es)(hn:aM es=true)(h:bp lo c σ m r):bp lo c σ m ((l',.buf k es')::r):=
 ⟨.inl ⟨l,_,hl,hm,rfl,.inl ⟨he,hn⟩⟩,h⟩
def bp.eq {es es':List D}(l:Nat)(hl:mN lo σ l=some l')(hm:look m l=some (.buf k es))(he:oB lo σ es=some es')(h:bp lo c σ m r):bp lo c σ m ((l',.buf k es')::r):=
 ⟨.inl ⟨l,_,hl,hm,rfl,.inr (.inl he)⟩,h⟩
def bp.ni {es es':List D}(l:Nat)(hl:mN lo σ l=some l')(hm:look m l=some (.buf k es))(he:NW es es')(h:bp lo c σ m r):bp lo c σ m ((l',.buf k es')::r):=
 ⟨.inl ⟨l,_,hl,hm,rfl,.inr (.inr he)⟩,h⟩
def bp.vO {es':List D}(hl:mN lo σ l'=some l')(hm:look m l'=some (.buf k es'))(hn:aM es'=true)(h:bp lo c σ m r):bp lo c σ m ((l',.buf k es')::r):=.nl l' hl hm rfl hn h
def bp.KD {es' es:List D}(hl:mN lo σ l'=some l')(hm:look m l'=some (.buf k es))(he:oB lo σ es=some es')(h:bp lo c σ m r):bp lo c σ m ((l',.buf k es')::r):=.eq l' hl hm he h
def bp.mt {es':List D}(h1:Nat.ble lo l'=true)(h2:Nat.blt l' c=true)(h3:σ.all (λp=>!Nat.beq p.2 l')=true)(he:es'=[])(h:bp lo c σ m r):bp lo c σ m ((l',.buf k es')::r):=
 ⟨.inr ⟨h1,h2,h3,k,by rw[he]⟩,h⟩
def bp.it {p p':Nat}{s s':List UInt8}(l:Nat)(hl:mN lo σ l=some l')(hm:look m l=some (.iter s p))(hs:s'=s)(hp:p'=p)(h:bp lo c σ m r):bp lo c σ m ((l',.iter s' p')::r):=
 ⟨.inl ⟨l,_,hl,hm,hs,hp⟩,h⟩
def bp.NN {p p':Nat}{s s':List UInt8}(hl:mN lo σ l'=some l')(hm:look m l'=some (.iter s p))(hs:s'=s)(hp:p'=p)(h:bp lo c σ m r):bp lo c σ m ((l',.iter s' p')::r):=.it l' hl hm hs hp h
def bp.rw {s s':List UInt8}(l:Nat)(hl:mN lo σ l=some l')(hm:look m l=some (.row s))(hs:s'=s)(h:bp lo c σ m r):bp lo c σ m ((l',.row s')::r):=
 ⟨.inl ⟨l,_,hl,hm,hs⟩,h⟩
def bp.bl {l1 l2 n':Nat}{u u':Bool}(l:Nat)(hl:mN lo σ l=some l')(hm:look m l=some (.bld (some l1) n u))(h1:mN lo σ l1=some l2)(hn:n'=n)(hu:u'=u)(h:bp lo c σ m r):bp lo c σ m ((l',.bld (some l2) n' u')::r):=
 ⟨.inl ⟨l,_,hl,hm,⟨l2,h1,rfl⟩,hn,hu⟩,h⟩
def bp.b0 {n':Nat}{u u':Bool}(l:Nat)(hl:mN lo σ l=some l')(hm:look m l=some (.bld none n u))(hn:n'=n)(hu:u'=u)(h:bp lo c σ m r):bp lo c σ m ((l',.bld none n' u')::r):=
 ⟨.inl ⟨l,_,hl,hm,rfl,hn,hu⟩,h⟩
end
mutual
def xC (m:List (Nat×bn)):Sh->D->D
 | .a,d=>match d with
  | .aL=>.sl 0 []
  |d=>d
 | .sl k cs,d=>match d with
  | .aL=>.sl k []
  | .own l k' i c=>.sl k' ((((aI m l).drop i).take c).map λe=>match e with
   | .agg ds=>.agg (xL m cs ds)
   |e=>xH m cs e)
  |d=>d
 | .pt cs,d=>match d with
  | .ptr l k i o=>.ref k ((aI m l).map λe=>match e with
   | .agg ds=>.agg (xL m cs ds)
   |e=>xH m cs e) i o
  |d=>d
 | .kp cs,d=>match d with
  | .own l k' i c=>.sl k' ((((aI m l).drop i).take c).map λe=>match e with
   | .agg ds=>.agg (xL m cs ds)
   |e=>xH m cs e)
  |d=>d
def xH (m:List (Nat×bn)):List Sh->D->D
 |[],d=>d
 |s::_,d=>xC m s d
def xL (m:List (Nat×bn)):List Sh->List D->List D
 |[],ds=>ds
 |s::r,ds=>match ds with
  |[]=>[]
  |d::ds=>xC m s d::xL m r ds
end
def xV (m:List (Nat×bn))(cs:List Sh):D->D
 | .agg ds=>.agg (xL m cs ds)
 |e=>xH m cs e
mutual
def Vi (m:List (Nat×bn)):Sh->D->Prop
 | .a,d=>d.aT=true
 | .sl _ cs,d=>match d with
  | .own l k' i c=>ed m l k' (i+c)/\∀e∈((aI m l).drop i).take c,(match e with
   | .agg ds=>xLO m cs ds
   |e=>xHO m cs e)
  |d=>d.aT=true
 | .pt cs,d=>match d with
  | .ptr l k _ _=>ed m l k 0/\∀e∈aI m l,(match e with
   | .agg ds=>xLO m cs ds
   |e=>xHO m cs e)
  |d=>d.aT=true
 | .kp cs,d=>match d with
  | .own l k' i c=>ed m l k' (i+c)/\∀e∈((aI m l).drop i).take c,(match e with
   | .agg ds=>xLO m cs ds
   |e=>xHO m cs e)
  |d=>d.aT=true
def xHO (m:List (Nat×bn)):List Sh->D->Prop
 |[],d=>d.aT=true
 |s::_,d=>Vi m s d
def xLO (m:List (Nat×bn)):List Sh->List D->Prop
 |[],ds=>aM ds=true
 |s::r,ds=>match ds with
  |[]=>True
  |d::ds=>Vi m s d/\xLO m r ds
end
def xVO (m:List (Nat×bn))(cs:List Sh):D->Prop
 | .agg ds=>xLO m cs ds
 |e=>xHO m cs e
mutual
theorem aap (m:List (Nat×bn)):∀(s:Sh) (d:D),kW m s d=xC m s d/\(iB m s d↔Vi m s d)
 | .a,d=>by cases d<;>simp only[kW,xC,iB,Vi]<;>exact⟨trivial,trivial⟩
 | .sl k cs,d=>by
  cases d<;>simp only[kW,xC,iB,Vi]<;>first
   |exact⟨trivial,trivial⟩
   |skip
  rename_i l k' i c;exact⟨aw (D.sl k') (List.map_congr_left λe _=>(Em m cs e).1),and_congr_right λ_=>forall_congr' λe=>imp_congr_right λ_=>(Em m cs e).2⟩
 | .pt cs,d=>by
  cases d<;>simp only[kW,xC,iB,Vi]<;>first
   |exact⟨trivial,trivial⟩
   |skip
  rename_i l k' i c;exact⟨aw (λx=>D.ref k' x i c) (List.map_congr_left λe _=>(Em m cs e).1),and_congr_right λ_=>forall_congr' λe=>imp_congr_right λ_=>(Em m cs e).2⟩
 | .kp cs,d=>by
  cases d<;>simp only[kW,xC,iB,Vi]<;>first
   |exact⟨trivial,trivial⟩
   |skip
  rename_i l k' i c;exact⟨aw (D.sl k') (List.map_congr_left λe _=>(Em m cs e).1),and_congr_right λ_=>forall_congr' λe=>imp_congr_right λ_=>(Em m cs e).2⟩
theorem Em (m:List (Nat×bn)):∀(cs:List Sh) (d:D),je m cs d=(match d with
   | .agg ds=>.agg (xL m cs ds)
   |e=>xH m cs e)/\(gO m cs d↔(match d with
   | .agg ds=>xLO m cs ds
   |e=>xHO m cs e))
 |[],d=>by cases d<;>simp only[je,xH,xL,gO,xHO,xLO,D.aT]<;>first|exact⟨trivial,Iff.rfl⟩|exact⟨trivial,trivial⟩
 |s::r,d=>by
  cases d<;>simp only[je,xH,gO,xHO]<;>first
   |exact aap m s _
   |skip
  rename_i ds;exact⟨aw D.agg (SK m (s::r) ds).1,(SK m (s::r) ds).2⟩
theorem SK (m:List (Nat×bn)):∀(cs:List Sh) (ds:List D),nF m cs ds=xL m cs ds/\(kv m cs ds↔xLO m cs ds)
 |[],ds=>by simp only[nF,xL,kv,xLO];exact⟨trivial,trivial⟩
 |s::r,[]=>by simp only[nF,xL,kv,xLO];exact⟨trivial,trivial⟩
 |s::r,d::ds=>by
  simp only[nF,xL,kv,xLO,(aap m s d).1,(SK m r ds).1];exact⟨trivial,and_congr (aap m s d).2 (SK m r ds).2⟩
end
theorem GA (m:List (Nat×bn))(cs:List Sh)(d:D):je m cs d=xV m cs d/\(gO m cs d↔xVO m cs d):=by
 have:=Em m cs d;cases d<;>exact this
def jj (m:List (Nat×bn)):List (List Sh)->List D->List D
 |_,[]=>[]
 |[],d::r=>xV m [.a] d::jj m [] r
 |s::ss,d::r=>xV m s d::jj m ss r
def iZ (m:List (Nat×bn)):List (List Sh)->List D->Prop
 |_,[]=>True
 |[],d::r=>xVO m [.a] d/\iZ m [] r
 |s::ss,d::r=>xVO m s d/\iZ m ss r
theorem dA (m:List (Nat×bn)):∀(ss:List (List Sh)) (ds:List D),iH m ss ds=jj m ss ds/\(ji m ss ds↔iZ m ss ds)
 |ss,[]=>by simp[iH,jj,ji,iZ]
 |[],d::r=>by
  simp only[iH,jj,ji,iZ,(GA m [.a] d).1,(dA m [] r).1];exact⟨trivial,and_congr (GA m _ d).2 (dA m [] r).2⟩
 |s::ss,d::r=>by
  simp only[iH,jj,ji,iZ,(GA m s d).1,(dA m ss r).1];exact⟨trivial,and_congr (GA m _ d).2 (dA m ss r).2⟩
def NX (a:aj)(d:D):Ex->List ba->St->Prop:=λe env st=>e.home/\oA st.m env a.res/\MX a env st/\ZG a env st=d
def NK (a:aj)(env:List ba)(m:List (Nat×bn)):D:=match a.res with
 |[r]=>xV m (a.rsh.getD 0 []) (Ig m env r)
 |rs=>.tup (jj m a.rsh (qY m env rs))
def AR (a:aj)(env:List ba)(m:List (Nat×bn)):Prop:=match a.res with
 |[r]=>xVO m (a.rsh.getD 0 []) (Ig m env r)
 |rs=>iZ m a.rsh (qY m env rs)
theorem PV {a:aj}{d:D}{e:Ex}{m:List (Nat×bn)}(he:e.home)(h1:oA m env a.res)(h2:AR a env m)(h3:NK a env m=d):NX a d e env ⟨nx,m⟩:=by
 refine⟨he,h1, ?_, ?_⟩
 .unfold MX;unfold AR at h2;split<;>rename_i hr
  .rw[hr]at h2;exact(GA _ _ _).2.2 h2
  .split at h2
   .rename_i hr2;exact absurd hr2 (hr _)
   .exact(dA _ _ _).2.2 h2
 grind [ZG,NK,GA,dA]
def GL (a:aj)(k:Nat)(vd sd:D):Ex->List ba->St->Prop:=λe env st=>e.home/\oA st.m env a.res/\(kg a env st).aT=true/\kg a env st=vd/\look st.m 0=some (.buf k [sd])/\sd.aT=true
def ja {a:aj}{vd sd:D}{e:Ex}{m:List (Nat×bn)}(he:e.home)(h1:oA m env a.res)(h2:kg a env ⟨nx,m⟩=vd)(h3:look m 0=some (.buf k [sd]))(hn:vd.aT=true)(hs:sd.aT=true):GL a k vd sd e env ⟨nx,m⟩:=⟨he,h1,by rw[h2];exact hn,h2,h3,hs⟩
end
section
variable {Y:Ctx}{r:List GI}{rs:List ba}{m:List (Nat×bn)}{K:List ba->St->Prop}{g:Option (Nat×Bool)}{f:Bool}
def at8 (s:List UInt8)(i:Nat):Int:=((s.getD i 0).toNat:Int)
def GP (s:List UInt8)(i:Nat):0<=at8 s i/\at8 s i<256:=by
 have:=(s.getD i 0).toNat_lt;unfold at8;omega
def D.ai7:D->Bool
 | .str _=>true
 |_=>false
def wrap_i64 (h1:-9223372036854775808<=a)(h2:a<=9223372036854775807):IntKind.i64.wrap a=a:=IntWalk.i64_in _ ae
theorem QP (a b:List UInt8):(a==b)=decide (a=b):=by
 grind
def getD_map [Inhabited α]{q:α->D}{xs:List α}{i:Nat}(h:i<xs.length):(xs.map q).getD i .any=q xs[i]! :=by
 simp[List.getD,h]
def ak9 (b:UInt8):(D.int .u8 b.toNat).u8=b:=by simp[D.u8]
def abU (s:List UInt8):D.str ((s.map λb=>D.int .u8 b.toNat).map D.u8)=.str s:=by
 congr 1;rw[List.map_map]
 conv=>rhs;rw[<-List.map_id s]
 apply List.map_congr_left;intro b _;exact ak9 b
def GF (rs:List ba):Option (Nat×Bool)->Bool->Prop
 |none,f=>f=true
 |some (j,w),f=>∃ok b,bZ [] rs (.l j)=⟨ok,.bool b⟩/\(ok&&(b==w))=f
def GF.flag (h:GF rs g f):flag rs.reverse g=f/\yV rs.reverse g:=by
 cases g with
 |none=>exact⟨h.symm,trivial⟩
 |some jw=>
  obtain⟨j,w⟩:=jw;obtain⟨ok,b,h1,h2⟩:=h;have h3:rs.reverse.getD j .un=⟨ok,.bool b⟩:=by rw[<-h1,<-oQ];rfl
  simp only[Abs.flag,yV,h3,h2,D.isBool];exact⟨trivial,λ_=>trivial⟩
theorem Y1 {i:ax}(hM:i.cS=false)(hF:i.lC draw g=false)(hC:g.isSome=true->i.calm=true)(hg:GF rs g f)(d:D)(ho:f=true->i.eG Y (bZ env rs) m)(hv:f=true->i.val Y (bZ env rs) m (nx+rs.length)=d)(m':List (Nat×bn))(hm:i.bU Y (bZ env rs) m (nx+rs.length)=m')(h:(f=true->i.KB draw (bZ env rs))->ay Y draw r env (⟨f,d⟩::rs) nx m' K):ay Y draw (⟨i,g⟩::r) env rs nx m K:=by
 obtain⟨hf,hb⟩:=hg.flag;unfold ay;rw[nT hM hF,oQ,hf];refine⟨?_,ho,λha=>⟨d,by simpa using hv, ?_⟩⟩
 .cases g with
  |none=>trivial
  |some jw=>exact⟨hC rfl,hb⟩
 grind [ay]
def gB {i:ax}(hC:i.calm=true)(hg:GF rs g f)(d:D)(ho:f=true->i.eG Y (bZ env rs) m)(hv:f=true->i.val Y (bZ env rs) m (nx+rs.length)=d)(m':List (Nat×bn))(hm:i.bU Y (bZ env rs) m (nx+rs.length)=m')(h:(f=true->i.KB draw (bZ env rs))->ay Y draw r env (⟨f,d⟩::rs) nx m' K):ay Y draw (⟨i,g⟩::r) env rs nx m K:=
 Y1 (by cases i<;>first|rfl|cases hC) (by simp[ax.lC,hC]) (λ_=>hC) hg d ho hv m' hm h
def bF {i:ax}(hC:i.pure=true)(hg:GF rs g f)(d:D)(ho:f=true->i.eG Y (bZ env rs) m)(hv:f=true->i.val Y (bZ env rs) m (nx+rs.length)=d)(h:(f=true->i.KB draw (bZ env rs))->ay Y draw r env (⟨f,d⟩::rs) nx m K):ay Y draw (⟨i,g⟩::r) env rs nx m K:=
 gB (Um hC) hg d ho hv m (YU hC) h
def px {i:ax}(hM:i.cS=false)(d:D)(ho:i.eG Y (bZ env rs) m)(hv:i.val Y (bZ env rs) m (nx+rs.length)=d)(m':List (Nat×bn))(hm:i.bU Y (bZ env rs) m (nx+rs.length)=m')(h:i.KB draw (bZ env rs)->ay Y draw r env (⟨true,d⟩::rs) nx m' K):ay Y draw (⟨i,none⟩::r) env rs nx m K:=
 Y1 hM (by simp[ax.lC]) (λh=>cj) rfl d (λ_=>ho) (λ_=>hv) m' hm (λha=>h (ha rfl))
theorem Y4 {i:ax}{w:Bool}(hM:i.cS=false)(hC:i.calm=false)(hg:GF rs (some (j,w)) f)(h1:f=true->∃d,i.eG Y (bZ env rs) m/\i.val Y (bZ env rs) m (nx+rs.length)=d/\∃m',i.bU Y (bZ env rs) m (nx+rs.length)=m'/\ay Y false r env (⟨true,d⟩::rs) nx m' K)(h2:f=false->ay Y false r env (⟨false,.any⟩::rs) nx m K):ay Y false (⟨i,some (j,w)⟩::r) env rs nx m K:=by
 obtain⟨hf,hb⟩:=hg.flag
 grind [ay,zp,ax.lC,oQ]
def bK {d:D}(h:ay Y draw r env (⟨f,d⟩::rs) nx m K)(hg:GF rs g f:=by exact cH)(hx:bZ env rs x=⟨fx,d⟩:=by exact rfl)(kx:f=true->fx=true:=by exact bz):ay Y draw (⟨.mv x,g⟩::r) env rs nx m K:=
 bF rfl hg _ (λhf=>oI) (λhf=>mb) (λha=>h)
def R7 {b:Bool}(h:ay Y draw r env (⟨f,.bool (!b)⟩::rs) nx m K)(hg:GF rs g f:=by exact cH)(hx:bZ env rs x=⟨fx,.bool b⟩:=by exact rfl)(kx:f=true->fx=true:=by exact bz):ay Y draw (⟨.un .not x,g⟩::r) env rs nx m K:=
 bF rfl hg _ (λhf=>oI) (λhf=>mb) (λha=>h)
def Mn {c b:Src}{fc fb y:Bool}(h:ay Y draw r env (⟨f,.bool (t ||y)⟩::rs) nx m K)(hg:GF rs g f:=by exact cH)(hc:bZ env rs c=⟨fc,.bool t⟩:=by exact rfl)(hb:bZ env rs b=⟨fb,.bool y⟩:=by exact rfl)(kc:f=true->fc=true:=by exact bz)(kb:f=true->t=false->fb=true:=by intro h1 h2;first|(rw[h2];exact rfl)|(rw[h2,h1];rfl)|(rw[h1,h2];rfl)|simp_all):ay Y draw (⟨.pick c (.c (.bool true)) b,g⟩::r) env rs nx m K:=
 bF rfl hg _ (λhf=>by simp only[ax.eG,hc,hb];exact⟨kc hf,λ_=>rfl,λe=>kb hf e⟩) (λhf=>by simp only[ax.val,hc,hb];cases t<;>rfl) (λ_=>h)
def u7 {c a:Src}{fc fa y:Bool}(h:ay Y draw r env (⟨f,.bool (t&&y)⟩::rs) nx m K)(hg:GF rs g f:=by exact cH)(hc:bZ env rs c=⟨fc,.bool t⟩:=by exact rfl)(ha:bZ env rs a=⟨fa,.bool y⟩:=by exact rfl)(kc:f=true->fc=true:=by exact bz)(ka:f=true->t=true->fa=true:=by intro h1 h2;first|(rw[h2];exact rfl)|(rw[h2,h1];rfl)|(rw[h1,h2];rfl)|simp_all):ay Y draw (⟨.pick c a (.c (.bool false)),g⟩::r) env rs nx m K:=
 bF rfl hg _ (λhf=>by simp only[ax.eG,hc,ha];exact⟨kc hf,λe=>ka hf e,λ_=>rfl⟩) (λhf=>by simp only[ax.val,hc,ha];cases t<;>rfl) (λ_=>h)
def lZ (h:ay Y draw r env (⟨f,.int .i64 (a+b)⟩::rs) nx m K)(hg:GF rs g f:=by exact cH)(hx:bZ env rs x=⟨fx,.int .i64 a⟩:=by exact rfl)(hy:bZ env rs y=⟨fy,.int .i64 b⟩:=by exact rfl)(kx:f=true->fx=true:=by exact bz)(ky:f=true->fy=true:=by exact bz)(hb:f=true->-9223372036854775808<=a+b/\a+b<=9223372036854775807:=by exact IC):ay Y draw (⟨.bin .add x y,g⟩::r) env rs nx m K:=
 bF rfl hg _ (λhf=>gZ) (λhf=>Qz) (λha=>h)
def Pb {k:IntKind}(v:Int)(h:ay Y draw r env (⟨f,.int k v⟩::rs) nx m K)(hg:GF rs g f:=by exact cH)(hx:bZ env rs x=⟨fx,.int k a⟩:=by exact rfl)(hy:bZ env rs y=⟨fy,.int k b⟩:=by exact rfl)(kx:f=true->fx=true:=by exact bz)(ky:f=true->fy=true:=by exact bz)(hb:f=true->k.wrap (a+b)=v):ay Y draw (⟨.bin .add x y,g⟩::r) env rs nx m K:=
 bF rfl hg _ (λhf=>gZ) (λhf=>pE) (λha=>h)
def BN (h:ay Y draw r env (⟨f,.int .i64 (a-b)⟩::rs) nx m K)(hg:GF rs g f:=by exact cH)(hx:bZ env rs x=⟨fx,.int .i64 a⟩:=by exact rfl)(hy:bZ env rs y=⟨fy,.int .i64 b⟩:=by exact rfl)(kx:f=true->fx=true:=by exact bz)(ky:f=true->fy=true:=by exact bz)(hb:f=true->-9223372036854775808<=a-b/\a-b<=9223372036854775807:=by exact IC):ay Y draw (⟨.bin .sub x y,g⟩::r) env rs nx m K:=
 bF rfl hg _ (λhf=>gZ) (λhf=>Qz) (λha=>h)
def HR {k:IntKind}(v:Int)(h:ay Y draw r env (⟨f,.int k v⟩::rs) nx m K)(hg:GF rs g f:=by exact cH)(hx:bZ env rs x=⟨fx,.int k a⟩:=by exact rfl)(hy:bZ env rs y=⟨fy,.int k b⟩:=by exact rfl)(kx:f=true->fx=true:=by exact bz)(ky:f=true->fy=true:=by exact bz)(hb:f=true->k.wrap (a-b)=v):ay Y draw (⟨.bin .sub x y,g⟩::r) env rs nx m K:=
 bF rfl hg _ (λhf=>gZ) (λhf=>pE) (λha=>h)
def xX (h:ay Y draw r env (⟨f,.int .i64 (a*b)⟩::rs) nx m K)(hg:GF rs g f:=by exact cH)(hx:bZ env rs x=⟨fx,.int .i64 a⟩:=by exact rfl)(hy:bZ env rs y=⟨fy,.int .i64 b⟩:=by exact rfl)(kx:f=true->fx=true:=by exact bz)(ky:f=true->fy=true:=by exact bz)(hb:f=true->-9223372036854775808<=a*b/\a*b<=9223372036854775807:=by exact IC):ay Y draw (⟨.bin .mul x y,g⟩::r) env rs nx m K:=
 bF rfl hg _ (λhf=>gZ) (λhf=>Qz) (λha=>h)
def Y9 {k:IntKind}(v:Int)(h:ay Y draw r env (⟨f,.int k v⟩::rs) nx m K)(hg:GF rs g f:=by exact cH)(hx:bZ env rs x=⟨fx,.int k a⟩:=by exact rfl)(hy:bZ env rs y=⟨fy,.int k b⟩:=by exact rfl)(kx:f=true->fx=true:=by exact bz)(ky:f=true->fy=true:=by exact bz)(hb:f=true->k.wrap (a*b)=v):ay Y draw (⟨.bin .mul x y,g⟩::r) env rs nx m K:=
 bF rfl hg _ (λhf=>gZ) (λhf=>pE) (λha=>h)
def r_quo {k:IntKind}(v:Int)(h:ay Y draw r env (⟨f,.int k v⟩::rs) nx m K)(hg:GF rs g f:=by exact cH)(hx:bZ env rs x=⟨fx,.int k a⟩:=by exact rfl)(hy:bZ env rs y=⟨fy,.int k b⟩:=by exact rfl)(kx:f=true->fx=true:=by exact bz)(ky:f=true->fy=true:=by exact bz)(hn:f=true->b≠0)(hb:f=true->k.wrap (a.tdiv b)=v):ay Y draw (⟨.bin .quo x y,g⟩::r) env rs nx m K:=
 bF rfl hg _ (λhf=>Kz) (λhf=>pE) (λha=>h)
def Aq {k:IntKind}(v:Int)(h:ay Y draw r env (⟨f,.int k v⟩::rs) nx m K)(hg:GF rs g f:=by exact cH)(hx:bZ env rs x=⟨fx,.int k a⟩:=by exact rfl)(hy:bZ env rs y=⟨fy,.int k b⟩:=by exact rfl)(kx:f=true->fx=true:=by exact bz)(ky:f=true->fy=true:=by exact bz)(hn:f=true->b≠0)(hb:f=true->a.tmod b=v):ay Y draw (⟨.bin .rem x y,g⟩::r) env rs nx m K:=
 bF rfl hg _ (λhf=>Kz) (λhf=>pE) (λha=>h)
def FY {k:IntKind}(v:Int)(h:ay Y draw r env (⟨f,.int k v⟩::rs) nx m K)(hg:GF rs g f:=by exact cH)(hx:bZ env rs x=⟨fx,.int k a⟩:=by exact rfl)(hy:bZ env rs y=⟨fy,.int k2 b⟩:=by exact rfl)(kx:f=true->fx=true:=by exact bz)(ky:f=true->fy=true:=by exact bz)(hn:f=true->0<=b:=by exact rV)(hb:f=true->k.wrap (a*2^(min b.toNat k.bits))=v):ay Y draw (⟨.bin .shl x y,g⟩::r) env rs nx m K:=
 bF rfl hg _ (λhf=>Kz) (λhf=>pE) (λha=>h)
def R8 {k:IntKind}(v:Int)(h:ay Y draw r env (⟨f,.int k v⟩::rs) nx m K)(hg:GF rs g f:=by exact cH)(hx:bZ env rs x=⟨fx,.int k a⟩:=by exact rfl)(hy:bZ env rs y=⟨fy,.int k2 b⟩:=by exact rfl)(kx:f=true->fx=true:=by exact bz)(ky:f=true->fy=true:=by exact bz)(hn:f=true->0<=b:=by exact rV)(hb:f=true->a.fdiv (2^(min b.toNat k.bits))=v):ay Y draw (⟨.bin .shr x y,g⟩::r) env rs nx m K:=
 bF rfl hg _ (λhf=>Kz) (λhf=>pE) (λha=>h)
def Dl {k:IntKind}(v:Int)(h:ay Y draw r env (⟨f,.int k v⟩::rs) nx m K)(hg:GF rs g f:=by exact cH)(hx:bZ env rs x=⟨fx,.int k a⟩:=by exact rfl)(hy:bZ env rs y=⟨fy,.int k b⟩:=by exact rfl)(kx:f=true->fx=true:=by exact bz)(ky:f=true->fy=true:=by exact bz)(hb:f=true->k.wrap (((BitVec.ofInt k.bits a)&&&(BitVec.ofInt k.bits b)).toNat)=v):ay Y draw (⟨.bin .and x y,g⟩::r) env rs nx m K:=
 bF rfl hg _ (λhf=>gZ) (λhf=>pE) (λha=>h)
def afz {k:IntKind}(v:Int)(h:ay Y draw r env (⟨f,.int k v⟩::rs) nx m K)(hg:GF rs g f:=by exact cH)(hx:bZ env rs x=⟨fx,.int k a⟩:=by exact rfl)(hy:bZ env rs y=⟨fy,.int k b⟩:=by exact rfl)(kx:f=true->fx=true:=by exact bz)(ky:f=true->fy=true:=by exact bz)(hb:f=true->k.wrap (((BitVec.ofInt k.bits a) |||(BitVec.ofInt k.bits b)).toNat)=v):ay Y draw (⟨.bin .or x y,g⟩::r) env rs nx m K:=
 bF rfl hg _ (λhf=>gZ) (λhf=>pE) (λha=>h)
def HL {k:IntKind}(v:Int)(h:ay Y draw r env (⟨f,.int k v⟩::rs) nx m K)(hg:GF rs g f:=by exact cH)(hx:bZ env rs x=⟨fx,.int k a⟩:=by exact rfl)(hy:bZ env rs y=⟨fy,.int k b⟩:=by exact rfl)(kx:f=true->fx=true:=by exact bz)(ky:f=true->fy=true:=by exact bz)(hb:f=true->k.wrap (((BitVec.ofInt k.bits a)^^^(BitVec.ofInt k.bits b)).toNat)=v):ay Y draw (⟨.bin .xor x y,g⟩::r) env rs nx m K:=
 bF rfl hg _ (λhf=>gZ) (λhf=>pE) (λha=>h)
def zk {k:IntKind}(h:ay Y draw r env (⟨f,.bool (decide (a<b))⟩::rs) nx m K)(hg:GF rs g f:=by exact cH)(hx:bZ env rs x=⟨fx,.int k a⟩:=by exact rfl)(hy:bZ env rs y=⟨fy,.int k b⟩:=by exact rfl)(kx:f=true->fx=true:=by exact bz)(ky:f=true->fy=true:=by exact bz):ay Y draw (⟨.bin .lss x y,g⟩::r) env rs nx m K:=
 bF rfl hg _ (λhf=>gZ) (λhf=>zL) (λha=>h)
def HO {k:IntKind}(h:ay Y draw r env (⟨f,.bool (decide (a<=b))⟩::rs) nx m K)(hg:GF rs g f:=by exact cH)(hx:bZ env rs x=⟨fx,.int k a⟩:=by exact rfl)(hy:bZ env rs y=⟨fy,.int k b⟩:=by exact rfl)(kx:f=true->fx=true:=by exact bz)(ky:f=true->fy=true:=by exact bz):ay Y draw (⟨.bin .leq x y,g⟩::r) env rs nx m K:=
 bF rfl hg _ (λhf=>gZ) (λhf=>zL) (λha=>h)
def pn {k:IntKind}(h:ay Y draw r env (⟨f,.bool (decide (b<a))⟩::rs) nx m K)(hg:GF rs g f:=by exact cH)(hx:bZ env rs x=⟨fx,.int k a⟩:=by exact rfl)(hy:bZ env rs y=⟨fy,.int k b⟩:=by exact rfl)(kx:f=true->fx=true:=by exact bz)(ky:f=true->fy=true:=by exact bz):ay Y draw (⟨.bin .gtr x y,g⟩::r) env rs nx m K:=
 bF rfl hg _ (λhf=>gZ) (λhf=>zL) (λha=>h)
def HM {k:IntKind}(h:ay Y draw r env (⟨f,.bool (decide (b<=a))⟩::rs) nx m K)(hg:GF rs g f:=by exact cH)(hx:bZ env rs x=⟨fx,.int k a⟩:=by exact rfl)(hy:bZ env rs y=⟨fy,.int k b⟩:=by exact rfl)(kx:f=true->fx=true:=by exact bz)(ky:f=true->fy=true:=by exact bz):ay Y draw (⟨.bin .geq x y,g⟩::r) env rs nx m K:=
 bF rfl hg _ (λhf=>gZ) (λhf=>zL) (λha=>h)
def Pd {k:IntKind}(h:ay Y draw r env (⟨f,.bool (decide (a=b))⟩::rs) nx m K)(hg:GF rs g f:=by exact cH)(hx:bZ env rs x=⟨fx,.int k a⟩:=by exact rfl)(hy:bZ env rs y=⟨fy,.int k b⟩:=by exact rfl)(kx:f=true->fx=true:=by exact bz)(ky:f=true->fy=true:=by exact bz):ay Y draw (⟨.bin .eql x y,g⟩::r) env rs nx m K:=
 bF rfl hg _ (λhf=>gZ) (λhf=>zL) (λha=>h)
def po {k:IntKind}(h:ay Y draw r env (⟨f,.bool (!decide (a=b))⟩::rs) nx m K)(hg:GF rs g f:=by exact cH)(hx:bZ env rs x=⟨fx,.int k a⟩:=by exact rfl)(hy:bZ env rs y=⟨fy,.int k b⟩:=by exact rfl)(kx:f=true->fx=true:=by exact bz)(ky:f=true->fy=true:=by exact bz):ay Y draw (⟨.bin .neq x y,g⟩::r) env rs nx m K:=
 bF rfl hg _ (λhf=>gZ) (λhf=>zL) (λha=>h)
def akz {a b:List UInt8}(h:ay Y draw r env (⟨f,.bool (Op.bytesLess a b)⟩::rs) nx m K)(hg:GF rs g f:=by exact cH)(hx:bZ env rs x=⟨fx,.str a⟩:=by exact rfl)(hy:bZ env rs y=⟨fy,.str b⟩:=by exact rfl)(kx:f=true->fx=true:=by exact bz)(ky:f=true->fy=true:=by exact bz):ay Y draw (⟨.bin .lss x y,g⟩::r) env rs nx m K:=
 bF rfl hg _ (λhf=>gZ) (λhf=>zK) (λha=>h)
def aky {a b:List UInt8}(h:ay Y draw r env (⟨f,.bool (Op.bytesLess a b ||decide (a=b))⟩::rs) nx m K)(hg:GF rs g f:=by exact cH)(hx:bZ env rs x=⟨fx,.str a⟩:=by exact rfl)(hy:bZ env rs y=⟨fy,.str b⟩:=by exact rfl)(kx:f=true->fx=true:=by exact bz)(ky:f=true->fy=true:=by exact bz):ay Y draw (⟨.bin .leq x y,g⟩::r) env rs nx m K:=
 bF rfl hg _ (λhf=>gZ) (λhf=>zK) (λha=>h)
def akq {a b:List UInt8}(h:ay Y draw r env (⟨f,.bool (!(Op.bytesLess a b ||decide (a=b)))⟩::rs) nx m K)(hg:GF rs g f:=by exact cH)(hx:bZ env rs x=⟨fx,.str a⟩:=by exact rfl)(hy:bZ env rs y=⟨fy,.str b⟩:=by exact rfl)(kx:f=true->fx=true:=by exact bz)(ky:f=true->fy=true:=by exact bz):ay Y draw (⟨.bin .gtr x y,g⟩::r) env rs nx m K:=
 bF rfl hg _ (λhf=>gZ) (λhf=>zK) (λha=>h)
def akp {a b:List UInt8}(h:ay Y draw r env (⟨f,.bool (!Op.bytesLess a b)⟩::rs) nx m K)(hg:GF rs g f:=by exact cH)(hx:bZ env rs x=⟨fx,.str a⟩:=by exact rfl)(hy:bZ env rs y=⟨fy,.str b⟩:=by exact rfl)(kx:f=true->fx=true:=by exact bz)(ky:f=true->fy=true:=by exact bz):ay Y draw (⟨.bin .geq x y,g⟩::r) env rs nx m K:=
 bF rfl hg _ (λhf=>gZ) (λhf=>zK) (λha=>h)
def Y3 {a b:List UInt8}(h:ay Y draw r env (⟨f,.bool (decide (a=b))⟩::rs) nx m K)(hg:GF rs g f:=by exact cH)(hx:bZ env rs x=⟨fx,.str a⟩:=by exact rfl)(hy:bZ env rs y=⟨fy,.str b⟩:=by exact rfl)(kx:f=true->fx=true:=by exact bz)(ky:f=true->fy=true:=by exact bz):ay Y draw (⟨.bin .eql x y,g⟩::r) env rs nx m K:=
 bF rfl hg _ (λhf=>gZ) (λhf=>zK) (λha=>h)
def akA {a b:List UInt8}(h:ay Y draw r env (⟨f,.bool (!decide (a=b))⟩::rs) nx m K)(hg:GF rs g f:=by exact cH)(hx:bZ env rs x=⟨fx,.str a⟩:=by exact rfl)(hy:bZ env rs y=⟨fy,.str b⟩:=by exact rfl)(kx:f=true->fx=true:=by exact bz)(ky:f=true->fy=true:=by exact bz):ay Y draw (⟨.bin .neq x y,g⟩::r) env rs nx m K:=
 bF rfl hg _ (λhf=>gZ) (λhf=>zK) (λha=>h)
def Pc {a b:List UInt8}(h:ay Y draw r env (⟨f,.str (a++b)⟩::rs) nx m K)(hg:GF rs g f:=by exact cH)(hx:bZ env rs x=⟨fx,.str a⟩:=by exact rfl)(hy:bZ env rs y=⟨fy,.str b⟩:=by exact rfl)(kx:f=true->fx=true:=by exact bz)(ky:f=true->fy=true:=by exact bz)(hb:f=true->a.length+b.length<=9223372036854775807):ay Y draw (⟨.bin .add x y,g⟩::r) env rs nx m K:=
 bF rfl hg _ (λhf=>by simp[ax.eG,hx,hy,kx hf,ky hf,AY,hb hf]) (λhf=>by simp only[ax.val,hx,hy,EJ]) (λha=>h)
def r_eqP {ag:Bool}{ks:List CK}{a b:D}{v:Bool}(h:ay Y draw r env (⟨f,.bool (v)⟩::rs) nx m K)(hb:ik a.cells b.cells=v)(hg:GF rs g f:=by exact cH)(hx:bZ env rs x=⟨fx,a⟩:=by exact rfl)(hy:bZ env rs y=⟨fy,b⟩:=by exact rfl)(kx:f=true->fx=true:=by exact bz)(ky:f=true->fy=true:=by exact bz)(h1:f=true->a.isAgg=ag/\b.isAgg=ag/\fJ ks a.cells/\fJ ks b.cells:=by exact uP):ay Y draw (⟨.eqA false ag ks x y,g⟩::r) env rs nx m K:=
 bF rfl hg _ (λhf=>S4) (λhf=>by simp only[ax.val,hx,hy];rw[hb];rfl) (λha=>h)
def r_eqN {ag:Bool}{ks:List CK}{a b:D}{v:Bool}(h:ay Y draw r env (⟨f,.bool (!v)⟩::rs) nx m K)(hb:ik a.cells b.cells=v)(hg:GF rs g f:=by exact cH)(hx:bZ env rs x=⟨fx,a⟩:=by exact rfl)(hy:bZ env rs y=⟨fy,b⟩:=by exact rfl)(kx:f=true->fx=true:=by exact bz)(ky:f=true->fy=true:=by exact bz)(h1:f=true->a.isAgg=ag/\b.isAgg=ag/\fJ ks a.cells/\fJ ks b.cells:=by exact uP):ay Y draw (⟨.eqA true ag ks x y,g⟩::r) env rs nx m K:=
 bF rfl hg _ (λhf=>S4) (λhf=>by simp only[ax.val,hx,hy];rw[hb];rfl) (λha=>h)
def qb {k:IntKind}(v:Int)(h:ay Y draw r env (⟨f,.int k v⟩::rs) nx m K)(hg:GF rs g f:=by exact cH)(hx:bZ env rs x=⟨fx,.int k2 a⟩:=by exact rfl)(kx:f=true->fx=true:=by exact bz)(hb:f=true->k.wrap a=v):ay Y draw (⟨.cvi k x,g⟩::r) env rs nx m K:=
 bF rfl hg _ (λhf=>oI) (λhf=>by simp only[ax.val,hx];rw[hb hf]) (λha=>h)
def Dn {s:List UInt8}(h:(f=true->draw=false->s.length<=9223372036854775807)->ay Y draw r env (⟨f,.int .i64 s.length⟩::rs) nx m K)(hg:GF rs g f:=by exact cH)(hx:bZ env rs x=⟨fx,.str s⟩:=by exact rfl)(kx:f=true->fx=true:=by exact bz):ay Y draw (⟨.lenS x,g⟩::r) env rs nx m K:=
 bF rfl hg _ (λhf=>oI) (λhf=>mb) (λha=>h (λhf hd=>Ke))
def HN {q:α->D}{xs:List α}(h:(f=true->draw=false->xs.length<=9223372036854775807)->ay Y draw r env (⟨f,.int .i64 xs.length⟩::rs) nx m K)(hg:GF rs g f:=by exact cH)(hx:bZ env rs x=⟨fx,.sl k (xs.map q)⟩:=by exact rfl)(kx:f=true->fx=true:=by exact bz):ay Y draw (⟨.len x,g⟩::r) env rs nx m K:=
 bF rfl hg _ (λhf=>oI) (λhf=>mb) (λha=>h (λhf hd=>Ke))
def Pg {i:Nat}(h:(f=true->draw=false->n<=9223372036854775807)->ay Y draw r env (⟨f,.int .i64 n⟩::rs) nx m K)(hg:GF rs g f:=by exact cH)(hx:bZ env rs x=⟨fx,.own l k i n⟩:=by exact rfl)(kx:f=true->fx=true:=by exact bz):ay Y draw (⟨.len x,g⟩::r) env rs nx m K:=
 bF rfl hg _ (λhf=>oI) (λhf=>mb) (λha=>h (λhf hd=>Ke))
def akx (h:ay Y draw r env (⟨f,.int .i64 0⟩::rs) nx m K)(hg:GF rs g f:=by exact cH)(hx:bZ env rs x=⟨fx,.aL⟩:=by exact rfl)(kx:f=true->fx=true:=by exact bz):ay Y draw (⟨.len x,g⟩::r) env rs nx m K:=
 bF rfl hg _ (λhf=>oI) (λhf=>mb) (λha=>h)
def akB {i o:Nat}(h:ay Y draw r env (⟨f,.ptr l k i o⟩::rs) nx m K)(hg:GF rs g f:=by exact cH)(hx:bZ env rs x=⟨fx,.ptr l k i o⟩:=by exact rfl)(kx:f=true->fx=true:=by exact bz):ay Y draw (⟨.nilck x,g⟩::r) env rs nx m K:=
 bF rfl hg _ (λhf=>oI) (λhf=>mb) (λha=>h)
def akC {i o:Nat}{es:List D}(h:ay Y draw r env (⟨f,.ref k es i o⟩::rs) nx m K)(hg:GF rs g f:=by exact cH)(hx:bZ env rs x=⟨fx,.ref k es i o⟩:=by exact rfl)(kx:f=true->fx=true:=by exact bz):ay Y draw (⟨.nilck x,g⟩::r) env rs nx m K:=
 bF rfl hg _ (λhf=>oI) (λhf=>mb) (λha=>h)
def R5 {off i o:Nat}(h:ay Y draw r env (⟨f,.ptr l k i (o+off)⟩::rs) nx m K)(hg:GF rs g f:=by exact cH)(hx:bZ env rs x=⟨fx,.ptr l k i o⟩:=by exact rfl)(kx:f=true->fx=true:=by exact bz):ay Y draw (⟨.fa off x,g⟩::r) env rs nx m K:=
 bF rfl hg _ (λhf=>oI) (λhf=>mb) (λha=>h)
def Ao {off i o:Nat}{es:List D}(h:ay Y draw r env (⟨f,.ref k es i (o+off)⟩::rs) nx m K)(hg:GF rs g f:=by exact cH)(hx:bZ env rs x=⟨fx,.ref k es i o⟩:=by exact rfl)(kx:f=true->fx=true:=by exact bz):ay Y draw (⟨.fa off x,g⟩::r) env rs nx m K:=
 bF rfl hg _ (λhf=>oI) (λhf=>mb) (λha=>h)
def cM {q:α->D}{xs:List α}{i:Int}(j:Nat)(h:ay Y draw r env (⟨f,.ref k (xs.map q) j 0⟩::rs) nx m K)(hg:GF rs g f:=by exact cH)(hx:bZ env rs x=⟨fx,.sl k (xs.map q)⟩:=by exact rfl)(hy:bZ env rs y=⟨fy,.int kk i⟩:=by exact rfl)(kx:f=true->fx=true:=by exact bz)(ky:f=true->fy=true:=by exact bz)(hj:f=true->i=(j:Int):=by exact ta)(hb:f=true->j<xs.length:=by exact rV):ay Y draw (⟨.ia k x y,g⟩::r) env rs nx m K:=
 bF rfl hg _ (λhf=>by simp only[ax.eG,hx,hy,aZ];exact⟨kx hf,ky hf,trivial,Kk,Qy⟩) (λhf=>Kx) (λha=>h)
def sI {i:Int}(j:Nat)(h:ay Y draw r env (⟨f,.ptr l k (i0+j) 0⟩::rs) nx m K)(hg:GF rs g f:=by exact cH)(hx:bZ env rs x=⟨fx,.own l k i0 n⟩:=by exact rfl)(hy:bZ env rs y=⟨fy,.int kk i⟩:=by exact rfl)(kx:f=true->fx=true:=by exact bz)(ky:f=true->fy=true:=by exact bz)(hj:f=true->i=(j:Int):=by exact ta)(hb:f=true->j<n:=by exact rV):ay Y draw (⟨.ia k x y,g⟩::r) env rs nx m K:=
 bF rfl hg _ (λhf=>by simp only[ax.eG,hx,hy];exact⟨kx hf,ky hf,trivial,Kk,Qy⟩) (λhf=>Kx) (λha=>h)
def Pe {k2 o:Nat}{i:Int}(j:Nat)(h:ay Y draw r env (⟨f,.ptr l k2 i0 (o+j*k)⟩::rs) nx m K)(hg:GF rs g f:=by exact cH)(hx:bZ env rs x=⟨fx,.ptr l k2 i0 o⟩:=by exact rfl)(hy:bZ env rs y=⟨fy,.int kk i⟩:=by exact rfl)(kx:f=true->fx=true:=by exact bz)(ky:f=true->fy=true:=by exact bz)(hj:f=true->i=(j:Int):=by exact ta)(hb:f=true->j<n:=by exact rV):ay Y draw (⟨.iaP n k x y,g⟩::r) env rs nx m K:=
 bF rfl hg _ (λhf=>aaS) (λhf=>Kx) (λha=>h)
def Ap {s:List UInt8}{i:Int}(j:Nat)(h:ay Y draw r env (⟨f,.int .u8 (at8 s j)⟩::rs) nx m K)(hg:GF rs g f:=by exact cH)(hx:bZ env rs x=⟨fx,.str s⟩:=by exact rfl)(hy:bZ env rs y=⟨fy,.int kk i⟩:=by exact rfl)(kx:f=true->fx=true:=by exact bz)(ky:f=true->fy=true:=by exact bz)(hj:f=true->i=(j:Int):=by exact ta)(hb:f=true->j<s.length:=by exact rV):ay Y draw (⟨.ixS x y,g⟩::r) env rs nx m K:=
 bF rfl hg _ (λhf=>aaS) (λhf=>Kx) (λha=>h)
def r_ixA {ag:Bool}{cs:List D}{i:Int}(j:Nat)(v:D)(h:ay Y draw r env (⟨f,v⟩::rs) nx m K)(hg:GF rs g f:=by exact cH)(hx:bZ env rs x=⟨fx,.agg cs⟩:=by exact rfl)(hy:bZ env rs y=⟨fy,.int kk i⟩:=by exact rfl)(kx:f=true->fx=true:=by exact bz)(ky:f=true->fy=true:=by exact bz)(hj:f=true->i=(j:Int):=by exact ta)(hb:f=true->j<n:=by exact rV)(hl:cs.length=n*k:=by exact rfl)(h1:ag=false->k=1:=by intro h;first|exact rfl|cases h)(hv:f=true->cut cs (j*k) k ag=v):ay Y draw (⟨.ixA n k ag x y,g⟩::r) env rs nx m K:=
 bF rfl hg _ (λhf=>by simp only[ax.eG,hx,hy];exact⟨kx hf,ky hf,h1,Kk,Qy,hl⟩) (λhf=>by simp only[ax.val,hx,hy];rw[<-hv hf,hj hf];rfl) (λha=>h)
def akr {q:α->D}{xs:List α}{i:Int}(h:ay Y draw r env (⟨f,.ref k (xs.map q) i.toNat 0⟩::rs) nx m K)(hg:GF rs g f:=by exact cH)(hx:bZ env rs x=⟨fx,.sl k (xs.map q)⟩:=by exact rfl)(hy:bZ env rs y=⟨fy,.int kk i⟩:=by exact rfl)(kx:f=true->fx=true:=by exact bz)(ky:f=true->fy=true:=by exact bz)(hb:f=true->0<=i/\i<(xs.length:Nat):=by exact IC):ay Y draw (⟨.ia k x y,g⟩::r) env rs nx m K:=
 bF rfl hg _ (λhf=>by simp only[ax.eG,hx,hy,aZ];exact⟨kx hf,ky hf,trivial,(hb hf).1,(hb hf).2⟩) (λhf=>by simp only[ax.val,hx,hy]<;>rfl) (λha=>h)
def aks {i:Int}(h:ay Y draw r env (⟨f,.ptr l k (i0+i.toNat) 0⟩::rs) nx m K)(hg:GF rs g f:=by exact cH)(hx:bZ env rs x=⟨fx,.own l k i0 n⟩:=by exact rfl)(hy:bZ env rs y=⟨fy,.int kk i⟩:=by exact rfl)(kx:f=true->fx=true:=by exact bz)(ky:f=true->fy=true:=by exact bz)(hb:f=true->0<=i/\i<(n:Nat):=by exact IC):ay Y draw (⟨.ia k x y,g⟩::r) env rs nx m K:=
 bF rfl hg _ (λhf=>by simp only[ax.eG,hx,hy,aZ];exact⟨kx hf,ky hf,trivial,(hb hf).1,(hb hf).2⟩) (λhf=>by simp only[ax.val,hx,hy]<;>rfl) (λha=>h)
def Y6 {s:List UInt8}{i:Int}(h:ay Y draw r env (⟨f,.int .u8 (at8 s i.toNat)⟩::rs) nx m K)(hg:GF rs g f:=by exact cH)(hx:bZ env rs x=⟨fx,.str s⟩:=by exact rfl)(hy:bZ env rs y=⟨fy,.int kk i⟩:=by exact rfl)(kx:f=true->fx=true:=by exact bz)(ky:f=true->fy=true:=by exact bz)(hb:f=true->0<=i/\i<(s.length:Nat):=by exact IC):ay Y draw (⟨.ixS x y,g⟩::r) env rs nx m K:=
 bF rfl hg _ (λhf=>by simp only[ax.eG,hx,hy,aZ];exact⟨kx hf,ky hf,(hb hf).1,(hb hf).2⟩) (λhf=>by simp only[ax.val,hx,hy]<;>rfl) (λha=>h)
def Zh {s:List UInt8}(i:Nat)(h:ay Y draw r env (⟨f,.str (s.drop i)⟩::rs) nx m K)(hg:GF rs g f:=by exact cH)(hx:bZ env rs x=⟨fx,.str s⟩:=by exact rfl)(hy:bZ env rs y=⟨fy,.int k2 a⟩:=by exact rfl)(kx:f=true->fx=true:=by exact bz)(ky:f=true->fy=true:=by exact bz)(hi:f=true->a=(i:Int):=by exact ta)(hb:f=true->i<=s.length:=by exact rV):ay Y draw (⟨.slS x (some y) none,g⟩::r) env rs nx m K:=
 bF rfl hg _ (λhf=>by simp only[ax.eG,L4,dO,hx,hy];have:=hb hf;have:=hi hf;refine⟨kx hf,ky hf,trivial, ?_⟩;simp only[nu,ee,dG,dh,Int.ofNat_eq_natCast];omega) (λhf=>by simp only[ax.val,dO,ee,hx,hy];rw[hi hf];simp) (λha=>h)
def Zc {q:α->D}{s:List α}(i:Nat)(h:ay Y draw r env (⟨f,.sl k ((s.drop i).map q)⟩::rs) nx m K)(hg:GF rs g f:=by exact cH)(hx:bZ env rs x=⟨fx,.sl k (s.map q)⟩:=by exact rfl)(hy:bZ env rs y=⟨fy,.int k2 a⟩:=by exact rfl)(kx:f=true->fx=true:=by exact bz)(ky:f=true->fy=true:=by exact bz)(hi:f=true->a=(i:Int):=by exact ta)(hb:f=true->i<=s.length:=by exact rV):ay Y draw (⟨.slA k x (some y) none,g⟩::r) env rs nx m K:=
 bF rfl hg _ (λhf=>by simp only[ax.eG,L4,dO,hx,hy,aZ];have:=hb hf;have:=hi hf;refine⟨kx hf,ky hf,trivial,trivial, ?_⟩;simp only[nu,ee,dG,dh,Int.ofNat_eq_natCast];omega) (λhf=>by simp only[ax.val,dO,ee,hx,hy];rw[hi hf];first|(simp only[List.take_length,Int.toNat_natCast,List.map_drop];done)|simp[List.map_drop,List.map_take]) (λha=>h)
def Dp (i:Nat)(h:ay Y draw r env (⟨f,.own l k (i0+i) (n-i)⟩::rs) nx m K)(hg:GF rs g f:=by exact cH)(hx:bZ env rs x=⟨fx,.own l k i0 n⟩:=by exact rfl)(hy:bZ env rs y=⟨fy,.int k2 a⟩:=by exact rfl)(kx:f=true->fx=true:=by exact bz)(ky:f=true->fy=true:=by exact bz)(hi:f=true->a=(i:Int):=by exact ta)(hb:f=true->i<=n:=by exact rV):ay Y draw (⟨.slA k x (some y) none,g⟩::r) env rs nx m K:=
 bF rfl hg _ (λhf=>by simp only[ax.eG,L4,dO,hx,hy];have:=hb hf;have:=hi hf;refine⟨kx hf,ky hf,trivial,trivial, ?_⟩;simp only[nu,ee,dG,dh,Int.ofNat_eq_natCast];omega) (λhf=>by simp only[ax.val,dO,ee,hx,hy];rw[hi hf];simp) (λha=>h)
def Zf {fz:Bool}{s:List UInt8}(j:Nat)(h:ay Y draw r env (⟨f,.str (s.take j)⟩::rs) nx m K)(hg:GF rs g f:=by exact cH)(hx:bZ env rs x=⟨fx,.str s⟩:=by exact rfl)(hz:bZ env rs z=⟨fz,.int k3 c⟩:=by exact rfl)(kx:f=true->fx=true:=by exact bz)(kz:f=true->fz=true:=by exact bz)(hj:f=true->c=(j:Int):=by exact ta)(hb:f=true->j<=s.length:=by exact rV):ay Y draw (⟨.slS x none (some z),g⟩::r) env rs nx m K:=
 bF rfl hg _ (λhf=>by simp only[ax.eG,L4,dO,hx,hz];have:=hb hf;have:=hj hf;refine⟨kx hf,trivial,kz hf, ?_⟩;simp only[nu,ee,dG,dh,Int.ofNat_eq_natCast];omega) (λhf=>by simp only[ax.val,dO,ee,hx,hz];rw[hj hf];simp) (λha=>h)
def Za {fz:Bool}{q:α->D}{s:List α}(j:Nat)(h:ay Y draw r env (⟨f,.sl k ((s.take j).map q)⟩::rs) nx m K)(hg:GF rs g f:=by exact cH)(hx:bZ env rs x=⟨fx,.sl k (s.map q)⟩:=by exact rfl)(hz:bZ env rs z=⟨fz,.int k3 c⟩:=by exact rfl)(kx:f=true->fx=true:=by exact bz)(kz:f=true->fz=true:=by exact bz)(hj:f=true->c=(j:Int):=by exact ta)(hb:f=true->j<=s.length:=by exact rV):ay Y draw (⟨.slA k x none (some z),g⟩::r) env rs nx m K:=
 bF rfl hg _ (λhf=>by simp only[ax.eG,L4,dO,hx,hz,aZ];have:=hb hf;have:=hj hf;refine⟨kx hf,trivial,kz hf,trivial, ?_⟩;simp only[nu,ee,dG,dh,Int.ofNat_eq_natCast];omega) (λhf=>by simp only[ax.val,dO,ee,hx,hz];rw[hj hf];first|(simp only[List.take_length,Int.toNat_natCast,List.map_drop];done)|simp[List.map_drop,List.map_take]) (λha=>h)
def Zd {fz:Bool}(j:Nat)(h:ay Y draw r env (⟨f,.own l k i0 j⟩::rs) nx m K)(hg:GF rs g f:=by exact cH)(hx:bZ env rs x=⟨fx,.own l k i0 n⟩:=by exact rfl)(hz:bZ env rs z=⟨fz,.int k3 c⟩:=by exact rfl)(kx:f=true->fx=true:=by exact bz)(kz:f=true->fz=true:=by exact bz)(hj:f=true->c=(j:Int):=by exact ta)(hb:f=true->j<=n:=by exact rV):ay Y draw (⟨.slA k x none (some z),g⟩::r) env rs nx m K:=
 bF rfl hg _ (λhf=>by simp only[ax.eG,L4,dO,hx,hz];have:=hb hf;have:=hj hf;refine⟨kx hf,trivial,kz hf,trivial, ?_⟩;simp only[nu,ee,dG,dh,Int.ofNat_eq_natCast];omega) (λhf=>by simp only[ax.val,dO,ee,hx,hz];rw[hj hf];simp) (λha=>h)
def Zg {fz:Bool}{s:List UInt8}(i:Nat)(j:Nat)(h:ay Y draw r env (⟨f,.str ((s.take j).drop i)⟩::rs) nx m K)(hg:GF rs g f:=by exact cH)(hx:bZ env rs x=⟨fx,.str s⟩:=by exact rfl)(hy:bZ env rs y=⟨fy,.int k2 a⟩:=by exact rfl)(hz:bZ env rs z=⟨fz,.int k3 c⟩:=by exact rfl)(kx:f=true->fx=true:=by exact bz)(ky:f=true->fy=true:=by exact bz)(kz:f=true->fz=true:=by exact bz)(hi:f=true->a=(i:Int):=by exact ta)(hj:f=true->c=(j:Int):=by exact ta)(hb:f=true->i<=j/\j<=s.length:=by exact IC):ay Y draw (⟨.slS x (some y) (some z),g⟩::r) env rs nx m K:=
 bF rfl hg _ (λhf=>by simp only[ax.eG,L4,dO,hx,hy,hz];have:=hb hf;have:=hi hf;have:=hj hf;refine⟨kx hf,ky hf,kz hf, ?_⟩;simp only[nu,ee,dG,dh,Int.ofNat_eq_natCast];omega) (λhf=>by simp only[ax.val,dO,ee,hx,hy,hz];rw[hi hf,hj hf];simp) (λha=>h)
def Zb {fz:Bool}{q:α->D}{s:List α}(i:Nat)(j:Nat)(h:ay Y draw r env (⟨f,.sl k (((s.take j).drop i).map q)⟩::rs) nx m K)(hg:GF rs g f:=by exact cH)(hx:bZ env rs x=⟨fx,.sl k (s.map q)⟩:=by exact rfl)(hy:bZ env rs y=⟨fy,.int k2 a⟩:=by exact rfl)(hz:bZ env rs z=⟨fz,.int k3 c⟩:=by exact rfl)(kx:f=true->fx=true:=by exact bz)(ky:f=true->fy=true:=by exact bz)(kz:f=true->fz=true:=by exact bz)(hi:f=true->a=(i:Int):=by exact ta)(hj:f=true->c=(j:Int):=by exact ta)(hb:f=true->i<=j/\j<=s.length:=by exact IC):ay Y draw (⟨.slA k x (some y) (some z),g⟩::r) env rs nx m K:=
 bF rfl hg _ (λhf=>by simp only[ax.eG,L4,dO,hx,hy,hz,aZ];have:=hb hf;have:=hi hf;have:=hj hf;refine⟨kx hf,ky hf,kz hf,trivial, ?_⟩;simp only[nu,ee,dG,dh,Int.ofNat_eq_natCast];omega) (λhf=>by simp only[ax.val,dO,ee,hx,hy,hz];rw[hi hf,hj hf];first|(simp only[List.take_length,Int.toNat_natCast,List.map_drop];done)|simp[List.map_drop,List.map_take]) (λha=>h)
def Ze {fz:Bool}(i:Nat)(j:Nat)(h:ay Y draw r env (⟨f,.own l k (i0+i) (j-i)⟩::rs) nx m K)(hg:GF rs g f:=by exact cH)(hx:bZ env rs x=⟨fx,.own l k i0 n⟩:=by exact rfl)(hy:bZ env rs y=⟨fy,.int k2 a⟩:=by exact rfl)(hz:bZ env rs z=⟨fz,.int k3 c⟩:=by exact rfl)(kx:f=true->fx=true:=by exact bz)(ky:f=true->fy=true:=by exact bz)(kz:f=true->fz=true:=by exact bz)(hi:f=true->a=(i:Int):=by exact ta)(hj:f=true->c=(j:Int):=by exact ta)(hb:f=true->i<=j/\j<=n:=by exact IC):ay Y draw (⟨.slA k x (some y) (some z),g⟩::r) env rs nx m K:=
 bF rfl hg _ (λhf=>by simp only[ax.eG,L4,dO,hx,hy,hz];have:=hb hf;have:=hi hf;have:=hj hf;refine⟨kx hf,ky hf,kz hf,trivial, ?_⟩;simp only[nu,ee,dG,dh,Int.ofNat_eq_natCast];omega) (λhf=>by simp only[ax.val,dO,ee,hx,hy,hz];rw[hi hf,hj hf];simp) (λha=>h)
def kY {i:Nat}{ds:List D}(v:D)(h:ay Y draw r env (⟨f,v⟩::rs) nx m K)(hg:GF rs g f:=by exact cH)(hx:bZ env rs x=⟨fx,.tup ds⟩:=by exact rfl)(kx:f=true->fx=true:=by exact bz)(hv:f=true->ds.getD i .any=v:=by exact λ_=>rfl)(hb:f=true->i<ds.length:=by intro _;simp only[bE,b8];omega):ay Y draw (⟨.ext x i,g⟩::r) env rs nx m K:=
 bF rfl hg _ (λhf=>by simp only[ax.eG,hx];exact⟨kx hf,hb hf⟩) (λhf=>by simp only[ax.val,hx];exact hv hf) (λha=>h)
def bT {z:List D}(v:List D)(h:ay Y draw r env (⟨f,.agg v⟩::rs) nx m K)(hg:GF rs g f:=by exact cH)(hv:f=true->Ci (bZ env rs) z ps=v:=by exact λ_=>rfl)(ho:f=true->zZ (bZ env rs) z.length ps:=by exact uP):ay Y draw (⟨.build z ps,g⟩::r) env rs nx m K:=
 bF rfl hg _ (λhf=>ho hf) (λhf=>by simp only[ax.val];rw[hv hf]) (λ_=>h)
def bg {z:List D}(d:D)(h:ay Y draw r env (⟨f,d⟩::rs) nx m K)(hg:GF rs g f:=by exact cH)(hv:f=true->D.agg (Ci (bZ env rs) z ps)=d:=by exact λ_=>rfl)(ho:f=true->zZ (bZ env rs) z.length ps:=by exact uP):ay Y draw (⟨.build z ps,g⟩::r) env rs nx m K:=
 bF rfl hg _ (λhf=>ho hf) (λhf=>by simp only[ax.val];exact hv hf) (λ_=>h)
def ajh {e:D}{o:Nat}{ag:Bool}(h:e.isAgg=ag):kT e n n o ag=e:=by simp[kT,h]
def mB {ag:Bool}{d:D}(h:ay Y draw r env (⟨f,d⟩::rs) nx m K)(hg:GF rs g f:=by exact cH)(hx:bZ env rs x=⟨fx,.ptr l n 0 0⟩:=by exact rfl)(kx:f=true->fx=true:=by exact bz)(hl:f=true->look m l=some (.buf n [d]):=by exact λ_=>rfl)(ha:f=true->d.isAgg=ag:=by exact λ_=>rfl):ay Y draw (⟨.ld n ag x,g⟩::r) env rs nx m K:=
 gB rfl hg _ (λhf=>by simp only[ax.eG,hx,LG,ed,hl hf];exact⟨kx hf,⟨trivial,aB⟩,ae⟩) (λhf=>by simp only[ax.val,hx,LH,aI,hl hf,iV];exact ajh (ha hf)) m rfl (λha=>h)
def qc {o:Nat}{ag:Bool}{d:D}(v:D)(h:ay Y draw r env (⟨f,v⟩::rs) nx m K)(hg:GF rs g f:=by exact cH)(hx:bZ env rs x=⟨fx,.ptr l k 0 o⟩:=by exact rfl)(kx:f=true->fx=true:=by exact bz)(hl:f=true->look m l=some (.buf k [d]):=by exact λ_=>rfl)(hv:f=true->kT d k n o ag=v:=by exact λ_=>rfl)(ho:o+n<=k:=by omega):ay Y draw (⟨.ld n ag x,g⟩::r) env rs nx m K:=
 gB rfl hg _ (λhf=>by simp only[ax.eG,hx,LG,ed,hl hf];exact⟨kx hf,⟨trivial,aB⟩,ho⟩) (λhf=>QB) m rfl (λha=>h)
def oX [Inhabited α]{i o:Nat}{ag:Bool}{q:α->D}{xs:List α}(v:D)(h:ay Y draw r env (⟨f,v⟩::rs) nx m K)(hg:GF rs g f:=by exact cH)(hx:bZ env rs x=⟨fx,.ptr l k i o⟩:=by exact rfl)(kx:f=true->fx=true:=by exact bz)(hl:f=true->look m l=some (.buf k (xs.map q)):=by exact λ_=>rfl)(hi:f=true->i<xs.length:=by exact rV)(hv:f=true->kT (q xs[i]!) k n o ag=v:=by exact λ_=>rfl)(ho:o+n<=k:=by omega):ay Y draw (⟨.ld n ag x,g⟩::r) env rs nx m K:=
 gB rfl hg _ (λhf=>by simp only[ax.eG,hx,LG,ed,hl hf,aZ];exact⟨kx hf,⟨trivial,by have:=hi hf;omega⟩,ho⟩) (λhf=>by simp only[ax.val,hx,LH,aI,hl hf];rw[getD_map (hi hf)];exact hv hf) m rfl (λha=>h)
def dd [Inhabited α]{i o:Nat}{ag:Bool}{q:α->D}{xs:List α}(v:D)(h:ay Y draw r env (⟨f,v⟩::rs) nx m K)(hg:GF rs g f:=by exact cH)(hx:bZ env rs x=⟨fx,.ref k (xs.map q) i o⟩:=by exact rfl)(kx:f=true->fx=true:=by exact bz)(hi:f=true->i<xs.length:=by exact rV)(hv:f=true->kT (q xs[i]!) k n o ag=v:=by exact λ_=>rfl)(ho:o+n<=k:=by omega):ay Y draw (⟨.ld n ag x,g⟩::r) env rs nx m K:=
 gB rfl hg _ (λhf=>aa4) (λhf=>aa0) m rfl (λha=>h)
def r_ldQ {i o:Nat}{ag:Bool}{es:List D}(v:D)(h:ay Y draw r env (⟨f,v⟩::rs) nx m K)(hg:GF rs g f:=by exact cH)(hx:bZ env rs x=⟨fx,.ref k es i o⟩:=by exact rfl)(kx:f=true->fx=true:=by exact bz)(hi:f=true->i<es.length:=by intro _;simp only[bE,b8];omega)(hv:f=true->kT (es.getD i .any) k n o ag=v:=by exact λ_=>rfl)(ho:o+n<=k:=by omega):ay Y draw (⟨.ld n ag x,g⟩::r) env rs nx m K:=
 gB rfl hg _ (λhf=>Qw) (λhf=>Kh) m rfl (λha=>h)
def Y7 {i o:Nat}{ag:Bool}{es:List D}(v:D)(h:ay Y draw r env (⟨f,v⟩::rs) nx m K)(hg:GF rs g f:=by exact cH)(hx:bZ env rs x=⟨fx,.ref k es i o⟩:=by exact rfl)(kx:f=true->fx=true:=by exact bz)(hi:f=true->i<es.length:=by intro _;simp only[bE,b8];omega)(hv:f=true->kT (es.getD i .any) k n o ag=v:=by exact λ_=>rfl)(ho:o+n<=k:=by omega):ay Y draw (⟨.ldI n ag x,g⟩::r) env rs nx m K:=
 bF rfl hg _ (λhf=>Qw) (λhf=>Kh) (λha=>h)
def xW {d:D}(h:ay Y draw r env (⟨f,.ptr L k 0 0⟩::rs) nx m2 K)(hg:GF rs g f:=by exact cH)(hx:bZ env rs x=⟨fx,d⟩:=by exact rfl)(kx:f=true->fx=true:=by exact bz)(hc:d.cells.length=k:=by exact rfl)(hL:nx+rs.length=L:=by exact zC)(hm:cX m L (.buf k [d])=m2:=by simp only[cX,cT,Nat.reduceEqDiff,a8,aW,Nat.reduceAdd,reduceCtorEq];exact rfl):ay Y draw (⟨.box k x,g⟩::r) env rs nx m K:=
 gB rfl hg _ (λhf=>by simp only[ax.eG,hx];exact⟨kx hf,hc⟩) (λhf=>by simp only[ax.val,hx,hL]) _ (by simp only[ax.bU,hx,hL];exact hm) (λ_=>h)
def r_mkB (h:ay Y draw r env (⟨f,.ptr L 2 0 0⟩::rs) nx m2 K)(hg:GF rs g f:=by exact cH)(hL:nx+rs.length=L:=by exact zC)(hm:cX m L (.bld none 0 false)=m2:=by simp only[cX,cT,Nat.reduceEqDiff,a8,aW,Nat.reduceAdd,reduceCtorEq];exact rfl):ay Y draw (⟨.mkB,g⟩::r) env rs nx m K:=
 gB rfl hg _ (λ_=>trivial) (λhf=>by simp only[ax.val,hL]) _ (by simp only[ax.bU,hL];exact hm) (λ_=>h)
def r_s2b {s:List UInt8}(h:ay Y draw r env (⟨f,.own L 1 0 s.length⟩::rs) nx m2 K)(hg:GF rs g f:=by exact cH)(hx:bZ env rs x=⟨fx,.str s⟩:=by exact rfl)(kx:f=true->fx=true:=by exact bz)(hL:nx+rs.length=L:=by exact zC)(hm:cX m L (.buf 1 (s.map λb=>.int .u8 b.toNat))=m2:=by simp only[cX,cT,Nat.reduceEqDiff,a8,aW,Nat.reduceAdd,reduceCtorEq];exact rfl):ay Y draw (⟨.s2b x,g⟩::r) env rs nx m K:=
 gB rfl hg _ (λhf=>by simp only[ax.eG,hx];exact⟨kx hf,trivial⟩) (λhf=>by simp only[ax.val,hx,hL]) _ (by simp only[ax.bU,hx,hL];exact hm) (λ_=>h)
def r_rng {s:List UInt8}(h:ay Y draw r env (⟨f,.it L⟩::rs) nx m2 K)(hg:GF rs g f:=by exact cH)(hx:bZ env rs x=⟨fx,.str s⟩:=by exact rfl)(kx:f=true->fx=true:=by exact bz)(hL:nx+rs.length=L:=by exact zC)(hm:cX m L (.iter s 0)=m2:=by simp only[cX,cT,Nat.reduceEqDiff,a8,aW,Nat.reduceAdd,reduceCtorEq];exact rfl):ay Y draw (⟨.rng x,g⟩::r) env rs nx m K:=
 gB rfl hg _ (λhf=>by simp only[ax.eG,hx];exact⟨kx hf,trivial⟩) (λhf=>by simp only[ax.val,hx,hL]) _ (by simp only[ax.bU,hx,hL];exact hm) (λ_=>h)
def bc {z:D}{ps:List (Nat×Src)}(es:List D)(h:ay Y draw r env (⟨f,.own L k 0 n⟩::rs) nx m2 K)(hg:GF rs g f:=by exact cH)(he:mh (bZ env rs) (List.replicate n z) ps=es:=by exact rfl)(ho:f=true->qG (bZ env rs) k n ps:=by exact uP)(hz:z.cells.length=k:=by exact rfl)(hL:nx+rs.length=L:=by exact zC)(hm:cX m L (.buf k es)=m2:=by simp only[cX,cT,Nat.reduceEqDiff,a8,aW,Nat.reduceAdd,reduceCtorEq];exact rfl):ay Y draw (⟨.bsl k z n ps,g⟩::r) env rs nx m K:=
 gB rfl hg _ (λhf=>⟨hz,ho hf⟩) (λhf=>by simp only[ax.val,hL]) _ (by simp only[ax.bU,he,hL];exact hm) (λ_=>h)
def afB {z:D}{k1:IntKind}(n:Nat)(h:ay Y draw r env (⟨true,.own L k 0 n⟩::rs) nx m2 K)(hx:bZ env rs x=⟨true,.int k1 a⟩:=by exact rfl)(hy:bZ env rs y=⟨true,.int k2 c⟩:=by exact rfl)(hn:a=(n:Int):=by first|exact rfl|omega)(hc:a<=c/\c<=1073741824:=by constructor<;>omega)(hz:z.cells.length=k:=by exact rfl)(hL:nx+rs.length=L:=by exact zC)(hm:cX m L (.buf k (List.replicate n z))=m2:=by simp only[cX,cT,Nat.reduceEqDiff,a8,aW,Nat.reduceAdd,reduceCtorEq];exact rfl):ay Y draw (⟨.mks k z x y,none⟩::r) env rs nx m K:=
 px rfl _ (by simp only[ax.eG,hx,hy];exact⟨trivial,trivial,hz,ae,hc.1,hc.2⟩) (by simp only[ax.val,hx,hL,D.nat,hn];rfl) _ (by simp only[ax.bU,hx,hL,D.nat,hn];exact hm) (λ_=>h)
def bY {o:Nat}{d v:D}(e:D)(h:ay Y draw r env (⟨true,.any⟩::rs) nx m2 K)(hx:bZ env rs x=⟨true,.ptr l k 0 o⟩:=by exact rfl)(hy:bZ env rs y=⟨true,v⟩:=by exact rfl)(hl:look m l=some (.buf k [d]):=by exact rfl)(hc:v.cells.length=n:=by exact rfl)(he:pA d k n o v=e:=by exact rfl)(ho:o+n<=k:=by omega)(hm:cX m l (.buf k [e])=m2:=by simp only[cX,cT,Nat.reduceEqDiff,a8,aW,Nat.reduceAdd,reduceCtorEq];exact rfl):ay Y draw (⟨.st n x y,none⟩::r) env rs nx m K:=
 px rfl _ (by simp only[ax.eG,hx,hy,ed,hl];exact⟨trivial,trivial,hc,⟨trivial,aB⟩,ho⟩) rfl _ (by simp only[ax.bU,hx,hy,aI,hl,iV,List.set_cons_zero,he];exact hm) (λ_=>h)
def afC {o:Nat}{qs:List Src}{d v:D}(e:D)(h:ay Y draw r env (⟨true,.any⟩::rs) nx m2 K)(hx:bZ env rs x=⟨true,.ptr l k 0 o⟩:=by exact rfl)(hy:bZ env rs y=⟨true,v⟩:=by exact rfl)(hl:look m l=some (.buf k [d]):=by exact rfl)(hc:v.cells.length=n:=by exact rfl)(he:pA d k n o v=e:=by exact rfl)(ho:o+n<=k:=by omega)(hw:k<=4:=by omega)(hm:cX m l (.buf k [e])=m2:=by simp only[cX,cT,Nat.reduceEqDiff,a8,aW,Nat.reduceAdd,reduceCtorEq];exact rfl):ay Y draw (⟨.stU n x y qs,none⟩::r) env rs nx m K:=
 px rfl _ (by simp only[ax.eG,hx,hy,ed,hl];exact⟨trivial,trivial,hc,⟨trivial,aB⟩,ho,.inl hw⟩) rfl _ (by simp only[ax.bU,hx,hy,aI,hl,iV,List.set_cons_zero,he];exact hm) (λ_=>h)
def lD {i o:Nat}{v:D}{es:List D}(es2:List D)(h:ay Y draw r env (⟨true,.any⟩::rs) nx m2 K)(hx:bZ env rs x=⟨true,.ptr l k i o⟩:=by exact rfl)(hy:bZ env rs y=⟨true,v⟩:=by exact rfl)(hl:look m l=some (.buf k es):=by exact rfl)(hi:i<es.length)(hc:v.cells.length=n:=by exact rfl)(he:es.set i (pA (es.getD i .any) k n o v)=es2)(ho:o+n<=k:=by omega)(hm:cX m l (.buf k es2)=m2:=by simp only[cX,cT,Nat.reduceEqDiff,a8,aW,Nat.reduceAdd,reduceCtorEq];exact rfl):ay Y draw (⟨.st n x y,none⟩::r) env rs nx m K:=
 px rfl _ (by simp only[ax.eG,hx,hy,ed,hl];exact⟨trivial,trivial,hc,⟨trivial,ae⟩,ho⟩) rfl _ (by simp only[ax.bU,hx,hy,aI,hl,he];exact hm) (λ_=>h)
def lW (m:List (Nat×bn))(k:Nat)(d:D)(ys:List D):Prop:=Cd m k d/\qw m d=ys
def lW.sl {es:List D}:lW m k (.sl k es) es:=⟨rfl,rfl⟩
def lW.aL:lW m k .aL []:=⟨trivial,rfl⟩
def lW.own {i:Nat}{es:List D}(hl:look m l=some (.buf k es))(hb:i+n<=es.length):lW m k (.own l k i n) ((es.drop i).take n):=⟨⟨rfl,by simp only[ed,hl];exact⟨trivial,hb⟩⟩,by simp only[qw,aI,hl]⟩
def lW.all {es:List D}(hl:look m l=some (.buf k es))(hb:n=es.length):lW m k (.own l k 0 n) es:=by
 have:=lW.own (i:=0) (n:=n) hl ae;simpa[hb]using this
def lW.str {s:List UInt8}:lW m 1 (.str s) (s.map λb=>.int .u8 b.toNat):=⟨rfl,rfl⟩
def qU {d:D}{ys:List D}(h:ay Y draw r env (⟨true,.own L k 0 n⟩::rs) nx m2 K)(hx:bZ env rs x=⟨true,.aL⟩:=by exact rfl)(hy:bZ env rs y=⟨true,d⟩:=by exact rfl)(he:lW m k d ys)(hn:ys.length=n)(hb:n<=1073741824:=by omega)(hL:nx+rs.length=L:=by exact zC)(hm:cX m L (.buf k ys)=m2:=by simp only[cX,cT,Nat.reduceEqDiff,a8,aW,Nat.reduceAdd,reduceCtorEq];exact rfl):ay Y draw (⟨.app k x y,none⟩::r) env rs nx m K:=
 px rfl _ (by simp only[ax.eG,hx,hy,he.2,hn];exact⟨trivial,trivial,he.1,hb⟩) (by simp only[ax.val,hx,hy,he.2,hn,hL]) _ (by simp only[ax.bU,hx,hy,he.2,hL];exact hm) (λ_=>h)
def xU {d:D}{ys:List D}(h:ay Y draw r env (⟨f,.own L k 0 n⟩::rs) nx m2 K)(hg:GF rs g f:=by exact cH)(hy:bZ env rs y=⟨fy,d⟩:=by exact rfl)(ky:f=true->fy=true:=by exact bz)(he:lW m k d ys)(hn:ys.length=n)(hb:n<=1073741824:=by omega)(hL:nx+rs.length=L:=by exact zC)(hm:cX m L (.buf k ys)=m2:=by simp only[cX,cT,Nat.reduceEqDiff,a8,aW,Nat.reduceAdd,reduceCtorEq];exact rfl):ay Y draw (⟨.appN k y,g⟩::r) env rs nx m K:=
 gB rfl hg _ (λhf=>by simp only[ax.eG,hy,he.2,hn];exact⟨ky hf,he.1,hb⟩) (λhf=>by simp only[ax.val,hy,he.2,hn,hL]) _ (by simp only[ax.bU,hy,he.2,hL];exact hm) (λ_=>h)
def rE {i a:Nat}{d:D}{xs ys:List D}(zs:List D)(h:ay Y draw r env (⟨true,.own L k 0 n⟩::rs) nx m2 K)(hx:bZ env rs x=⟨true,.own l k i a⟩:=by exact rfl)(hy:bZ env rs y=⟨true,d⟩:=by exact rfl)(hl:look m l=some (.buf k xs):=by exact rfl)(ha:i+a<=xs.length)(he:lW m k d ys)(hz:(xs.drop i).take a++ys=zs)(hn:a+ys.length=n)(hb:n<=1073741824:=by omega)(hL:nx+rs.length=L:=by exact zC)(hm:cX (cT m l) L (.buf k zs)=m2:=by simp only[cX,cT,Nat.reduceEqDiff,a8,aW,Nat.reduceAdd,reduceCtorEq];exact rfl):ay Y draw (⟨.app k x y,none⟩::r) env rs nx m K:=
 px rfl _ (by simp only[ax.eG,hx,hy,he.2,ed,hl,hn];exact⟨trivial,trivial,he.1,trivial,⟨trivial,ha⟩,hb⟩) (by simp only[ax.val,hx,hy,he.2,hn,hL]) _ (by simp only[ax.bU,hx,hy,he.2,aI,hl,hz,hL];exact hm) (λ_=>h)
def cL {q:α->D}{xs:List α}{e:α}{ly:Nat}(h:ay Y draw r env (⟨true,.own L k 0 (xs++[e]).length⟩::rs) nx m2 K)(hx:bZ env rs x=⟨true,.own l k 0 xs.length⟩:=by exact rfl)(hy:bZ env rs y=⟨true,.own ly k 0 1⟩:=by exact rfl)(hl:look m l=some (.buf k (xs.map q)):=by exact rfl)(he:look m ly=some (.buf k [q e]):=by exact rfl)(hb:xs.length+1<=1073741824:=by omega)(hL:nx+rs.length=L:=by exact zC)(hm:cX (cT m l) L (.buf k ((xs++[e]).map q))=m2:=by simp only[cX,cT,Nat.reduceEqDiff,a8,aW,Nat.reduceAdd,reduceCtorEq];exact rfl):ay Y draw (⟨.app k x y,none⟩::r) env rs nx m K:=
 rE (zs:=(xs++[e]).map q) (hx:=hx) (hy:=hy) (hl:=hl) (ha:=aB) (he:=lW.all (es:=[q e]) he rfl) (hz:=by rw[cR,fj aB];simp) (hn:=aB) (hb:=dR) (hL:=hL) (hm:=hm) (h:=h)
def pk {q:α->D}{xs ys:List α}{d:D}(h:ay Y draw r env (⟨true,.own L k 0 (xs++ys).length⟩::rs) nx m2 K)(hx:bZ env rs x=⟨true,.own l k 0 xs.length⟩:=by exact rfl)(hy:bZ env rs y=⟨true,d⟩:=by exact rfl)(hl:look m l=some (.buf k (xs.map q)):=by exact rfl)(he:lW m k d (ys.map q))(hb:xs.length+ys.length<=1073741824:=by omega)(hL:nx+rs.length=L:=by exact zC)(hm:cX (cT m l) L (.buf k ((xs++ys).map q))=m2:=by simp only[cX,cT,Nat.reduceEqDiff,a8,aW,Nat.reduceAdd,reduceCtorEq];exact rfl):ay Y draw (⟨.app k x y,none⟩::r) env rs nx m K:=
 rE (zs:=(xs++ys).map q) (hx:=hx) (hy:=hy) (hl:=hl) (ha:=aB) (he:=he) (hz:=by rw[cR,fj aB];simp) (hn:=aB) (hb:=dR) (hL:=hL) (hm:=hm) (h:=h)
def Y0 {d:D}{ys:List D}(s:List UInt8)(h:ay Y draw r env (⟨f,.str s⟩::rs) nx m K)(hg:GF rs g f:=by exact cH)(hx:bZ env rs x=⟨fx,d⟩:=by exact rfl)(kx:f=true->fx=true:=by exact bz)(he:f=true->lW m 1 d ys)(hs:f=true->ys=s.map λb=>.int .u8 b.toNat)(hd:d.ai7=false:=by exact rfl):ay Y draw (⟨.b2s x,g⟩::r) env rs nx m K:=
 gB rfl hg _ (λhf=>by
  simp only[ax.eG,hx,(he hf).2,hs hf];refine⟨kx hf,(by cases d<;>first|trivial|(cases hd)),(he hf).1,λe hm=>?_⟩;obtain⟨b,_,rfl⟩:=cg.1 hm;have:=b.toNat_lt;exact⟨rfl,ae,ae⟩) (λhf=>by simp only[ax.val,hx,(he hf).2,hs hf];rw[abU]) m rfl (λ_=>h)
def HQ {pos:Nat}{s:List UInt8}(c w:Nat)(h:ay Y draw r env (⟨true,.tup [.bool true,.int .i64 pos,.int .i32 c]⟩::rs) nx m2 K)(hx:bZ env rs x=⟨true,.it l⟩:=by exact rfl)(hl:look m l=some (.iter s pos):=by exact rfl)(hp:pos<s.length)(hc:yO s pos=(c,w))(hm:cX m l (.iter s (pos+w))=m2:=by simp only[cX,cT,Nat.reduceEqDiff,a8,aW,Nat.reduceAdd,reduceCtorEq];exact rfl):ay Y draw (⟨.aS x,none⟩::r) env rs nx m K:=
 px rfl _ (by simp only[ax.eG,hx,hl];exact⟨trivial,trivial⟩) (by simp only[ax.val,hx,hl,hc,hp,decide_true,cond_true]) _ (by simp only[ax.bU,hx,hl,hc,hp,decide_true,cond_true];exact hm) (λ_=>h)
def HP {pos:Nat}{s:List UInt8}(h:ay Y draw r env (⟨true,.tup [.bool false]⟩::rs) nx m K)(hx:bZ env rs x=⟨true,.it l⟩:=by exact rfl)(hl:look m l=some (.iter s pos):=by exact rfl)(hp:¬pos<s.length):ay Y draw (⟨.aS x,none⟩::r) env rs nx m K:=
 px rfl _ (by simp only[ax.eG,hx,hl];exact⟨trivial,trivial⟩) (by simp only[ax.val,hx,hl,hp,decide_false,cond_false]) _ (by simp only[ax.bU,hx,hl,hp,decide_false,cond_false]) (λ_=>h)
def aG {aE8:List D}{v:D}(h:ay Y draw r env (⟨f,v⟩::rs) nx m K)(hg:GF rs g f:=by exact cH)(hc:Y.pre n aE8/\Y.val n aE8=v)(ha:f=true->jj m sh (iR (bZ env rs) args)=aE8:=by exact λ_=>rfl)(ho:f=true->BJ (bZ env rs) args:=by exact uP)(hp:f=true->iZ m sh (iR (bZ env rs) args):=by exact uP)(hk:f=true->qB (iR (bZ env rs) args) v=true:=by exact λ_=>rfl):ay Y draw (⟨.call n args sh,g⟩::r) env rs nx m K:=
 gB rfl hg _ (λhf=>by simp only[ax.eG,(dA _ _ _).1,ha hf,hc.2];exact⟨ho hf,(dA _ _ _).2.2 (hp hf),hc.1,hk hf⟩) (λhf=>by simp only[ax.val,(dA _ _ _).1,ha hf,hc.2]) m rfl (λ_=>h)
def cB {aE8:List D}{v:D}(h:ay Y draw r env (⟨f,v⟩::rs) nx m K)(hg:GF rs g f:=by exact cH)(hc:f=true->Y.pre n aE8/\Y.val n aE8=v)(ha:f=true->jj m sh (iR (bZ env rs) args)=aE8:=by exact λ_=>rfl)(ho:f=true->BJ (bZ env rs) args:=by exact uP)(hp:f=true->iZ m sh (iR (bZ env rs) args):=by exact uP)(hk:f=true->qB (iR (bZ env rs) args) v=true:=by exact λ_=>rfl):ay Y draw (⟨.call n args sh,g⟩::r) env rs nx m K:=
 gB rfl hg _ (λhf=>by simp only[ax.eG,(dA _ _ _).1,ha hf,(hc hf).2];exact⟨ho hf,(dA _ _ _).2.2 (hp hf),(hc hf).1,hk hf⟩) (λhf=>by simp only[ax.val,(dA _ _ _).1,ha hf,(hc hf).2]) m rfl (λ_=>h)
def BM {caps:List D}{aE8:List D}{v:D}(h:ay Y draw r env (⟨f,v⟩::rs) nx m K)(hg:GF rs g f:=by exact cH)(hx:bZ env rs x=⟨fx,.fn n caps⟩:=by exact rfl)(kx:f=true->fx=true:=by exact bz)(hb:n<1000000:=by decide)(hc:f=true->Y.pre n aE8/\Y.val n aE8=v)(ha:f=true->jj m sh (iR (bZ env rs) args++caps)=aE8:=by exact λ_=>rfl)(ho:f=true->BJ (bZ env rs) args:=by exact uP)(hp:f=true->iZ m sh (iR (bZ env rs) args++caps):=by exact uP)(hk:f=true->qB (iR (bZ env rs) args++caps) v=true:=by exact λ_=>rfl):ay Y draw (⟨.callv x args sh,g⟩::r) env rs nx m K:=
 gB rfl hg _ (λhf=>by simp only[ax.eG,hx,(dA _ _ _).1,ha hf,(hc hf).2];exact⟨kx hf,ho hf,hb,(dA _ _ _).2.2 (hp hf),(hc hf).1,hk hf⟩) (λhf=>by simp only[ax.val,hx,(dA _ _ _).1,ha hf,(hc hf).2]) m rfl (λ_=>h)
def R6 {caps:List Src}(cs:List D)(h:ay Y draw r env (⟨f,.fn n cs⟩::rs) nx m K)(hg:GF rs g f:=by exact cH)(hc:f=true->iR (bZ env rs) caps=cs:=by exact λ_=>rfl)(ho:f=true->BJ (bZ env rs) caps:=by exact uP):ay Y draw (⟨.mkf n caps,g⟩::r) env rs nx m K:=
 bF rfl hg _ (λhf=>ho hf) (λhf=>by simp only[ax.val,hc hf]) (λ_=>h)
def dj {d v e:D}{aE8:List D}(h:ay Y draw r env (⟨true,v⟩::rs) nx m2 K)(hx:bZ env rs x=⟨true,.ptr l k 0 0⟩:=by exact rfl)(hl:look m l=some (.buf k [d]):=by exact rfl)(hd:d.aT=true:=by exact rfl)(hc:Y.fp n d aE8/\Y.fv n d aE8=v/\Y.fs n d aE8=e)(ha:jj [] sh (iR (bZ env rs) args)=aE8:=by exact rfl)(ho:BJ (bZ env rs) args:=by repeat' first|exact trivial|exact rfl|refine And.intro ?_ ?_|decide)(hn:aM (iR (bZ env rs) args)=true:=by exact rfl)(hm:cX m l (.buf k [e])=m2:=by simp only[cX,cT,Nat.reduceEqDiff,a8,aW,Nat.reduceAdd,reduceCtorEq];exact rfl):ay Y draw (⟨.callF n x args sh,none⟩::r) env rs nx m K:=
 px rfl _ aaV (by simp only[ax.val,hx,aI,hl,iV,(dA _ _ _).1,ha,hc.2.1]) _ (by simp only[ax.bU,hx,aI,hl,iV,(dA _ _ _).1,ha,hc.2.2];exact hm) (λ_=>h)
end
abbrev au:=List UInt8
structure ca where
 major:Int
 minor:Int
 patch:Int
 pre:au
 build:au
 deriving Inhabited,DecidableEq
def ca.D (v:ca):D:=.agg [.int .i64 v.major,.int .i64 v.minor,.int .i64 v.patch,.str v.pre,.str v.build]
structure dr where
 name:au
 v:ca
 shelf:au
 sum:Int
 feats:List au
 deriving Inhabited,DecidableEq
def dr.D (x:dr):D:=.agg [.str x.name,.int .i64 x.v.major,.int .i64 x.v.minor,.int .i64 x.v.patch,.str x.v.pre,.str x.v.build,.str x.shelf,.int .u64 x.sum,.sl 1 (x.feats.map D.str)]
structure Env where
 e0:au
 e1:au
 e2:au
 deriving Inhabited,DecidableEq
def Env.D (e:Env):D:=.agg [.str e.e0,.str e.e1,.str e.e2]
structure kD where
 env:Env
 lines:List dr
 deriving Inhabited,DecidableEq
def kD.D (l:kD):D:=.agg [.str l.env.e0,.str l.env.e1,.str l.env.e2,.sl 9 (l.lines.map dr.D)]
theorem tn (a b:List UInt8):eqD (.str a) (.str b)=decide (a=b):=QP a b
theorem Bz (k k2:IntKind)(a b:Int):eqD (.int k a) (.int k2 b)=decide (a=b):=rfl
theorem ca.eq (a b:ca):ik (ca.D a).cells (ca.D b).cells=decide (a=b):=by
 obtain⟨a1,a2,a3,a4,a5⟩:=a;obtain⟨b1,b2,b3,b4,b5⟩:=b
 grind [ca.D,D.cells,ik,tn,Bz]
theorem Env.eq (a b:Env):ik (Env.D a).cells (Env.D b).cells=decide (a=b):=by
 obtain⟨a1,a2,a3⟩:=a;obtain⟨b1,b2,b3⟩:=b
 grind [Env.D,D.cells,ik,tn,Bz]
theorem ca.inj {a b:ca}(h:ca.D a=ca.D b):a=b:=by
 obtain⟨a1,a2,a3,a4,a5⟩:=a;obtain⟨b1,b2,b3,b4,b5⟩:=b
 grind [ca.D]
theorem Env.inj {a b:Env}(h:Env.D a=Env.D b):a=b:=by
 obtain⟨a1,a2,a3⟩:=a;obtain⟨b1,b2,b3⟩:=b
 grind [Env.D]
theorem map_inj {α:Type}{q:α->D}(hq:∀a b,q a=q b->a=b):∀{xs ys:List α},xs.map q=ys.map q->xs=ys
 |[],[],_=>rfl
 |[],_::_,h=>by simp at h
 |_::_,[],h=>by simp at h
 |a::r,b::s,h=>by
  simp only[List.map_cons,te]at h;rw[hq a b h.1,map_inj hq h.2]
theorem str_inj (a b:List UInt8)(h:D.str a=D.str b):a=b:=by simpa using h
theorem dr.inj {a b:dr}(h:dr.D a=dr.D b):a=b:=by
 obtain⟨a1,⟨v1,v2,v3,v4,v5⟩,a2,a3,a4⟩:=a;obtain⟨b1,⟨w1,w2,w3,w4,w5⟩,b2,b3,b4⟩:=b
 grind [dr.D,map_inj,str_inj]
theorem kD.inj {a b:kD}(h:kD.D a=kD.D b):a=b:=by
 obtain⟨⟨a1,a2,a3⟩,a4⟩:=a;obtain⟨⟨b1,b2,b3⟩,b4⟩:=b
 grind [kD.D,map_inj,dr.inj]
def allI (p:Nat->Bool):Nat->Nat->Bool
 |_,0=>true
 |i,k+1=>p i&&allI p (i+1) k
def b9 (p:Nat->Bool)(i n:Nat):Bool:=allI p i (n-i)
def aA {p:Nat->Bool}{i:Nat}(h:i<n):b9 p i n=(p i&&b9 p (i+1) n):=by
 unfold b9;rw[show n-i=(n-(i+1))+1 by omega];rfl
def bI {p:Nat->Bool}{i:Nat}(h:n<=i):b9 p i n=true:=by
 unfold b9;rw[show n-i=0 by omega];rfl
theorem KU {p:Nat->Bool}:∀{k i:Nat},allI p i k=true↔∀j,i<=j->j<i+k->p j=true
 |0,i=>by simp[allI];intro j h1 h2;omega
 |k+1,i=>by
  simp only[allI,aC,KU (k:=k)]
  grind
theorem bD {p:Nat->Bool}{i:Nat}:b9 p i n=true↔∀j,i<=j->j<n->p j=true:=by
 grind [b9,KU]
def b7 {a a' b b':D}(h1:a=a')(h2:b=b'):D.tup [a,b]=D.tup [a',b']:=by rw[h1,h2]
def ld8 (s:au)(i:Nat):kT (D.int .u8 (s[i]!).toNat) 1 1 0 false=.int .u8 (at8 s i):=by
 simp only[kT,D.isAgg,at8];simp;rfl
theorem xa (s:au)(pos:Nat)(h:pos<s.length):∃c w,yO s pos=(c,w)/\1<=w/\((w=1/\(c:Int)=at8 s pos/\c<128)\/(128<=c/\128<=at8 s pos)):=by
 refine⟨(yO s pos).1,(yO s pos).2,rfl, ?_⟩;have e:yO s pos=Lib.decodeN (s.length-pos) (s.getD pos 0).toNat (s.getD (pos+1) 0).toNat (s.getD (pos+2) 0).toNat (s.getD (pos+3) 0).toNat:=Lib.decode_N ⟨⟨s⟩⟩ pos;rw[e];unfold at8;generalize (s.getD pos 0).toNat=b0;generalize (s.getD (pos+1) 0).toNat=b1;generalize (s.getD (pos+2) 0).toNat=b2;generalize (s.getD (pos+3) 0).toNat=b3;generalize s.length-pos=n;by_cases hb:b0<128
 .unfold Lib.decodeN;rw[ak hb];exact⟨aN _,.inl ⟨rfl,rfl,hb⟩⟩
 .unfold Lib.decodeN
  grind
def tM {q:α->D}{xs:List α}{m:List (Nat×bn)}(hq:∀x,xV m [.a] (q x)=q x)(hl:look m l=some (.buf 1 (xs.map q))):xV m [.sl 1 [.a]] (.own l 1 0 xs.length)=.sl 1 (xs.map q):=by
 show D.sl 1 _=_;simp only[aI,hl,cR,br,List.map_map];congr 1;apply List.map_congr_left;intro x _;have:=hq x;simp only[Function.comp];generalize q x=d at this;cases d<;>exact this
theorem qk {q:α->D}{xs:List α}{m:List (Nat×bn)}(hq:∀x,xVO m [.a] (q x))(hl:look m l=some (.buf 1 (xs.map q))):xVO m [.sl 1 [.a]] (.own l 1 0 xs.length):=by
 grind [xVO,xHO,Vi,ed,aI,br]
def jU (c:Int):Bool:=decide (97<=c)&&decide (c<=122)
def bO (c:Int):Bool:=decide (48<=c)&&decide (c<=57)
def Gu (c:Int):Bool:=jU c ||bO c ||decide (c=95)
def gT (s:au):Bool:=decide (1<=s.length)&&decide (s.length<=12)&&b9 (λi=>Gu (at8 s i)) 0 s.length
def nch (s:au)(i:Nat):Bool:=(jU (at8 s i) ||bO (at8 s i) ||decide (at8 s i=45))&& !(decide (at8 s i=45)&&decide (at8 s (i-1)=45))
def dn (s:au):Bool:=decide (1<=s.length)&&decide (s.length<=16)&&jU (at8 s 0)&& !decide (at8 s (s.length-1)=45)&&b9 (nch s) 1 s.length
def pj (s:au)(i:Nat):Bool:=jU (at8 s i) ||(bO (at8 s i)&& !decide (i=0)) ||(decide (at8 s i=45)&& !decide (i=0)&& !decide (i=s.length-1)&& !decide (at8 s (i-1)=45))
def ady (s:au)(h1:1<=s.length)(h2:s.length<=16):dn s=b9 (pj s) 0 s.length:=by
 rw[Bool.eq_iff_iff];simp only[dn,bA h1,bA h2,eu,aC,cG,cy,bD];constructor
 .rintro⟨⟨h3,h4⟩,h5⟩ j _ hj;rcases Nat.eq_zero_or_pos j with rfl|hp
  .simp[pj,h3]
  .have:=h5 j hp hj;simp only[nch,aC,dF,cG,er,aV,cy]at this;simp only[pj,aC,dF,cG,aV,cy];rcases this with⟨(h6|h6)|h6,h7⟩
   .exact Or.inl (Or.inl h6)
   .exact Or.inl (Or.inr ⟨h6,ae⟩)
   .refine Or.inr ⟨⟨⟨h6,ae⟩, ?_⟩, ?_⟩
    .rintro rfl;exact h4 h6
    .rcases h7 with h7|h7
     .exact absurd h6 h7
     .exact h7
 .intro h;have h0:=h 0 ae ae;have hlow:jU (at8 s 0)=true:=by simpa[pj]using h0
  refine⟨⟨hlow, ?_⟩,λj hj1 hj2=>?_⟩
  .intro he;have hl:=h (s.length-1) ae ae;rcases Nat.eq_or_lt_of_le h1 with e|e
   .rw[<-e]at he;simp only[Nat.sub_self]at he;simp only[jU,aC,aV]at hlow;omega
   .simp only[pj,he,jU,bO]at hl;simp at hl
  .have:=h j ae hj2;simp only[pj,aC,dF,cG,aV,cy]at this;simp only[nch,aC,dF,cG,er,aV,cy];rcases this with(h6|h6)|h6
   .refine⟨Or.inl (Or.inl h6),Or.inl ?_⟩;simp only[jU,aC,aV]at h6;omega
   .refine⟨Or.inl (Or.inr h6.1),Or.inl ?_⟩;have:=h6.1;simp only[bO,aC,aV]at this;omega
   .exact⟨Or.inr h6.1.1.1,Or.inr h6.2⟩
def fe (s:au):Nat:=s.foldl (λn b=>n*10+(b.toNat-48)) 0
def ox (s:au):Bool:=decide (1<=s.length)&&decide (s.length<=9)&& !(decide (1<s.length)&&decide (at8 s 0=48))&&b9 (λi=>bO (at8 s i)) 0 s.length&&decide (fe s<=9999)
def C6 (s:au):Int:=if ox s=true then(fe s:Int)else 0
theorem ri (s:au)(i:Nat)(h:i<s.length):s.take (i+1)=s.take i++[s.getD i 0]:=by
 rw[List.take_succ];simp[h]
def Ak (s:au)(i:Nat)(h:i<s.length):fe (s.take (i+1))=fe (s.take i)*10+((at8 s i).toNat-48):=by
 rw[ri s i h];simp[fe,List.foldl_append,at8]
def Ua (s:au):fe s+23<=23*10^s.length:=by
 have:∀(s:au) (n k:Nat),n+23<=23*10^k->s.foldl (λn b=>n*10+(b.toNat-48)) n+23<=23*10^(k+s.length):=by
  intro s;induction s with
  |nil=>intro n k h;simpa using h
  |cons b r ih=>
   intro n k h;have hb:=b.toNat_lt;have:=ih (n*10+(b.toNat-48)) (k+1) (by rw[Nat.pow_succ];omega);simp only[List.foldl_cons,bE];rw[show k+(r.length+1)=k+1+r.length by omega];exact this
 have:=this s 0 0 aB;simpa[fe]using this
def xF (s:au)(i:Nat)(h:i<=9):fe (s.take i)<=23000000000:=by
 have h1:=Ua (s.take i);have h2:(s.take i).length<=9:=dR;have h3:10^(s.take i).length<=10^9:=Nat.pow_le_pow_right ae h2;omega
def L1 (s:au):∀n:Nat,s.foldl (λn b=>n*10+(b.toNat-48)) n=n*10^s.length+fe s:=by
 unfold fe;induction s with
 |nil=>intro n;simp
 |cons b r ih=>
  intro n;simp only[List.foldl_cons,bE];rw[ih,ih (0*10+(b.toNat-48)),Nat.pow_succ];simp only[Nat.zero_mul,bX,Nat.add_mul];rw[Nat.mul_assoc n 10,Nat.mul_comm 10];omega
def Aj (b:UInt8)(r:au):fe (b::r)=(b.toNat-48)*10^r.length+fe r:=by
 have:=L1 r (0*10+(b.toNat-48));simp only[fe,List.foldl_cons]at this⊢;rw[this];simp
def zU {b:UInt8}{r:au}(h:b9 (λi=>bO (at8 (b::r) i)) 0 (b::r).length=true):bO b.toNat=true/\b9 (λi=>bO (at8 r i)) 0 r.length=true:=by
 rw[bD]at h;refine⟨by simpa[at8]using h 0 ae aB, ?_⟩;rw[bD];intro j _ hj;simpa[at8]using h (j+1) ae dR
def FM:∀(s:au),b9 (λi=>bO (at8 s i)) 0 s.length=true->fe s<10^s.length
 |[],_=>by simp[fe]
 |b::r,h=>by
  obtain⟨h1,h2⟩:=zU h;have:=FM r h2;rw[Aj,bE,Nat.pow_succ];simp only[bO,aC,aV]at h1;have h3:b.toNat-48<=9:=ae;have:=fQ (10^r.length) h3;omega
def T9 {b:UInt8}{r:au}(h:49<=b.toNat):10^r.length<=fe (b::r):=by
 rw[Aj];have:=fQ (10^r.length) (show 1<=b.toNat-48 by omega);omega
def Yb (s:au):ox s=(decide (1<=s.length)&&decide (s.length<=4)&& !(decide (1<s.length)&&decide (at8 s 0=48))&&b9 (λi=>bO (at8 s i)) 0 s.length):=by
 unfold ox;cases hd:b9 (λi=>bO (at8 s i)) 0 s.length with
 |false=>simp
 |true=>
  have hlt:=FM s hd;by_cases h4:s.length<=4
  .have:10^s.length<=10^4:=Nat.pow_le_pow_right ae h4;rw[bA h4,bA (by omega:s.length<=9),bA (by omega:fe s<=9999)];simp
  .rw[bN h4]
   match s,hd,h4 with
   |b::r,hd,h4=>
    by_cases h0:at8 (b::r) 0=48
    .rw[bA h0,bA (by omega:1<(b::r).length)];simp
    .have h1:=(zU hd).1;simp only[bO,aC,aV]at h1;have h2:49<=b.toNat:=by
      simp[at8]at h0;omega
     have h3:=T9 (r:=r) h2;have:10^4<=10^r.length:=Nat.pow_le_pow_right ae (by simp at h4;omega);rw[bN (by omega:¬fe (b::r)<=9999)];simp
def dg (n:Nat):UInt8:=UInt8.ofNat (48+n)
def G1:Nat->Nat->au
 |0,n=>[dg n]
 |f+1,n=>if n<10 then [dg n]else G1 f (n/10)++[dg (n%10)]
def nY (n:Nat):au:=G1 n n
def Q6:∀(f g n:Nat),n<=f->n<=g->G1 f n=G1 g n
 |0,0,n,_,_=>rfl
 |0,g+1,n,h,_=>by
  obtain rfl:n=0:=ae;simp[G1]
 |f+1,0,n,_,h=>by
  obtain rfl:n=0:=ae;simp[G1]
 |f+1,g+1,n,h1,h2=>by
  simp only[G1];split
  .rfl
  .rw[Q6 f g (n/10) ae ae]
def Bx (h:n<10):nY n=[dg n]:=by
 unfold nY;cases n<;>simp[G1,h]
def Bw (h:9<n):nY n=nY (n/10)++[dg (n%10)]:=by
 unfold nY;obtain⟨k,rfl⟩:∃k,n=k+1:=⟨n-1,ae⟩
 simp only[G1];rw[ai ae,Q6 k ((k+1) /10) _ ae ae]
def ij:∀(k n:Nat),n<10^k->0<k->(nY n).length<=k:=by
 intro k;induction k with
 |zero=>intro n _ h;omega
 |succ k ih=>
  intro n h _;by_cases h10:n<10
  .rw[Bx h10];simp
  .rw[Bw ae];have hk:0<k:=by
    rcases Nat.eq_zero_or_pos k with rfl|h0
    .simp at h;omega
    .exact h0
   have:=ih (n/10) (by rw[Nat.pow_succ]at h;omega) hk;simp;omega
def ae9 (h:n<10):((dg n).toNat:Int)=48+n:=by
 have:(48+n)%256=48+n:=Nat.mod_eq_of_lt ae;simp[dg,this]
def fE (b:Int):au->au->List au
 |[],cur=>[cur]
 |c::r,cur=>if(c.toNat:Int)=b then cur::fE b r []else fE b r (cur++[c])
def bd (s:au)(b:Int):List au:=fE b s []
def Q8 (s:au)(i:Nat)(h:i<s.length):s.drop i=s.getD i 0::s.drop (i+1):=by
 rw[fk h];simp[h]
def Ge {s:au}{i fr:Nat}(h:i<s.length)(he:at8 s i=b):fE b (s.drop i) ((s.take i).drop fr)=((s.take i).drop fr)::fE b (s.drop (i+1)) ((s.take (i+1)).drop (i+1)):=by
 rw[Q8 s i h];have h2:(s.take (i+1)).drop (i+1)=[]:=aB;rw[h2];simp only[fE];rw[ak (by simpa[at8]using he)]
def Gf {s:au}{i fr:Nat}(h:i<s.length)(hf:fr<=i)(he:¬at8 s i=b):fE b (s.drop i) ((s.take i).drop fr)=fE b (s.drop (i+1)) ((s.take (i+1)).drop fr):=by
 rw[Q8 s i h,ri s i h,List.drop_append_of_le_length dR];simp only[fE];rw[ai (by simpa[at8]using he)]
def DZ {s:au}{i fr:Nat}(h:s.length<=i):fE b (s.drop i) ((s.take i).drop fr)=[s.drop fr]:=by
 rw[ki h,fj h];rfl
def wo (b:Int):∀(s cur:au),(fE b s cur).length<=s.length+1
 |[],cur=>by simp[fE]
 |c::r,cur=>by
  simp only[fE];split
  .have:=wo b r [];simp;omega
  .have:=wo b r (cur++[c]);simp;omega
def P1 (s:au)(b:Int):(bd s b).length<=s.length+1:=wo b s []
def nr (c:Int):Bool:=jU c ||bO c ||decide (c=45)
def wx (t:au):Bool:=decide (1<=t.length)&&decide (t.length<=8)&&b9 (λi=>nr (at8 t i)) 0 t.length
def cU (t:au):Bool:=b9 (λi=>bO (at8 t i)) 0 t.length&&decide (0<t.length)
def jn (p:Bool)(t:au):Bool:=wx t&& !(p&&cU t&& !ox t)
def sU (s:au)(p:Bool):Bool:=decide ((bd s 46).length<=4)&&b9 (λi=>jn p (bd s 46)[i]!) 0 (bd s 46).length
def D5 (s:au)(p:Bool):Bool:=decide (s=[]) ||sU s p
def Cs (n:Int):Bool:=decide (0<=n)&&decide (n<=9999)
def gQ (v:ca):Bool:=Cs v.major&&Cs v.minor&&Cs v.patch&&D5 v.pre true&&D5 v.build false
def E9 (v:ca):au:=nY v.major.toNat++[46]++nY v.minor.toNat++[46]++nY v.patch.toNat++(if v.pre=[]then []else 45::v.pre)++(if v.build=[]then []else 43::v.build)
def uO (v:ca):au:=if gQ v=true then E9 v else []
def ca.sm (v:ca):Prop:=v.pre.length<=1048576/\v.build.length<=1048576
def or64 (a b:Int):Int:=IntKind.u64.wrap ((BitVec.ofInt 64 a |||BitVec.ofInt 64 b).toNat)
def SM (a b:Int):Int:=IntKind.u64.wrap ((BitVec.ofInt 64 a^^^BitVec.ofInt 64 b).toNat)
def ZU (a:Int)(k:Nat):Int:=IntKind.u64.wrap (a*2^k)
def Ga (a:Int)(k:Nat):Int:=a.fdiv (2^k)
def rot (h:Int)(k:Nat):Int:=or64 (ZU h k) (Ga h (64-k))
def Sv (h:Int)(c:Int):Int:=IntKind.u64.wrap (rot (SM h c) 13*18397679294719823053)
def zy (s:au):Int:=s.foldl (λh c=>Sv h c.toNat) 11400714819323198485
def sumL (s:au):Int:=SM (zy s) (Ga (zy s) 29)
theorem Gj (s:au)(i:Nat)(h:i<s.length):zy (s.take (i+1))=Sv (zy (s.take i)) (at8 s i):=by
 grind [ri,zy,at8]
def Env.at (e:Env):Nat->au
 |0=>e.e0
 |1=>e.e1
 |_=>e.e2
def Env.ld (e:Env){i:Nat}(h:i<3):kT (Env.D e) 3 1 (0+i*1) false=.str (e.at i):=by
 match i,h with
 |0,_=>rfl
 |1,_=>rfl
 |2,_=>rfl
def kD.ld (l:kD){i:Nat}(h:i<3):kT (kD.D l) 4 1 (0+i*1) false=.str (l.env.at i):=by
 match i,h with
 |0,_=>rfl
 |1,_=>rfl
 |2,_=>rfl
def Env.cut (e:Env){i:Nat}(h:i<3):Abs.cut [.str e.e0,.str e.e1,.str e.e2] (i*1) 1 false=.str (e.at i):=by
 match i,h with
 |0,_=>rfl
 |1,_=>rfl
 |2,_=>rfl
def n6 (e:Env):Bool:=b9 (λi=>decide (e.at i=[]) ||gT (e.at i)) 0 3
def zX (l:List au)(i:Nat):Bool:=gT l[i]! && !(decide (0<i)&& !Op.bytesLess l[i-1]! l[i]!)
def Ho (x:dr):Bool:=dn x.name&&gQ x.v&& !(decide (x.shelf≠[])&& !dn x.shelf)&& !(decide (x.shelf=[])&&decide (x.sum≠0))&&decide (x.feats.length<=9)&&b9 (zX x.feats) 0 x.feats.length
def xq (l:List dr)(i:Nat):Bool:=Ho l[i]! && !(decide (0<i)&& !Op.bytesLess l[i-1]!.name l[i]!.name)
def LF (l:kD):Bool:=n6 l.env&&decide (l.lines.length<=48)&&b9 (xq l.lines) 0 l.lines.length
def dr.sm (x:dr):Prop:=x.v.sm/\x.name.length<=1048576/\x.shelf.length<=1048576/\x.feats.length<=1048576/\∀t∈x.feats,t.length<=1048576
def kD.sm (l:kD):Prop:=l.lines.length<=1048576/\(∀x∈l.lines,x.sm)/\∀i,(l.env.at i).length<=1048576
theorem aq [Inhabited α]{l:List α}{i:Nat}(h:i<l.length):l[i]! ∈l:=by
 simp[h]
structure Kp where
 name:au
 v:ca
 deriving Inhabited,DecidableEq
def Kp.D (x:Kp):D:=.agg [.str x.name,.int .i64 x.v.major,.int .i64 x.v.minor,.int .i64 x.v.patch,.str x.v.pre,.str x.v.build]
theorem ZN [Inhabited α][DecidableEq α]{a b:List α}(h:a.length=b.length):decide (a=b)=b9 (λi=>decide (a[i]! =b[i]!)) 0 a.length:=by
 rw[Bool.eq_iff_iff,aV,bD];constructor
 .rintro rfl j _ _;simp
 .intro hj;apply List.ext_getElem h
  grind
theorem dr.same {a b:dr}(e1:a.name=b.name)(e2:a.v=b.v)(e3:a.shelf=b.shelf)(e4:a.sum=b.sum)(e5:a.feats.length=b.feats.length):decide (a=b)=b9 (λi=>decide (a.feats[i]! =b.feats[i]!)) 0 a.feats.length:=by
 rw[<-ZN e5];obtain⟨a1,a2,a3,a4,a5⟩:=a;obtain⟨b1,b2,b3,b4,b5⟩:=b
 grind
def cw (b:au):List au->au
 |[]=>[]
 |[t]=>t
 |t::u::r=>t++b++cw b (u::r)
def vP (b t:au)(r:List au)(h:r≠[]):cw b (t::r)=t++b++cw b r:=by
 cases r with
 |nil=>exact absurd rfl h
 |cons u r=>rfl
def su {α:Type}(q:α->au)(B:Nat):∀l:List α,(∀x∈l,(q x).length<=B)->((l.map q).flatten).length<=l.length*B
 |[],_=>aB
 |a::r,h=>by
  have h1:=h a (.head _);have h2:=su q B r λx hx=>h x (.tail _ hx)
  simp only[List.map_cons,List.flatten_cons,cu,bE,Nat.succ_mul];omega
theorem Ed (v:ca)(h:v.sm):(uO v).length<=2097200:=by
 unfold uO;split
 .rename_i hv;simp only[gQ,aC]at hv;obtain⟨⟨⟨⟨hv1,hv2⟩,hv3⟩,_⟩,_⟩:=hv;simp only[Cs,aC,aV]at hv1 hv2 hv3;have hl1:=ij 4 v.major.toNat ae ae;have hl2:=ij 4 v.minor.toNat ae ae;have hl3:=ij 4 v.patch.toNat ae ae;obtain⟨h1,h2⟩:=h
  grind [E9]
 .simp
def Env.sm (e:Env):=∀i,(e.at i).length<=1048576
def bo (v n:Int):Int:=if n<1 then 0 else if v.tmod n<0 then v.tmod n+n else v.tmod n
def D8 (v n:Int)(h:1<=n):-n<v.tmod n/\v.tmod n<n:=⟨Int.lt_tmod_of_pos v ae,Int.tmod_lt_of_pos v ae⟩
theorem c9 (v n:Int)(h:1<=n):0<=bo v n/\bo v n<n:=by
 have:=D8 v n h
 grind [bo]
def atI (l:List Int)(i:Int):Int:=if i<0\/(l.length:Int)<=i then i.tmod 3 else l[i.toNat]!
structure Gs where
 l:List Int
 i:Int
 deriving Inhabited
def Gs.D (g:Gs):D:=.agg [.sl 1 (g.l.map (D.int .i64)),.int .i64 g.i]
def Gs.val (g:Gs)(n:Int):Int:=bo (atI g.l g.i) n
def Gs.aS (g:Gs):Gs:=⟨g.l,g.i+1⟩
def uI (s:au)(b:UInt8):au×au×Bool:=match s.findIdx? (λc=>c==b)with
 |some k=>(s.take k,s.drop (k+1),true)
 |none=>(s,[],false)
def qE (s p:au):au×Bool:=if p.isPrefixOf s=true then(s.drop p.length,true)else(s,false)
def Wo (s:au)(b:UInt8):(uI s b).1.length<=s.length/\((uI s b).2.2=true->(uI s b).1.length+1<=s.length):=by
 unfold uI;split
 .rename_i k h;have:=List.findIdx?_eq_some_iff_findIdx_eq.1 h;simp only[dQ];omega
 .simp
structure Rdr where
 s:au
 at':Nat
 n:Nat
def Rdr.D (r:Rdr):D:=.agg [.str r.s,.int .i64 (r.at':Nat),.int .i64 (r.n:Nat)]
def Rdr.ln (r:Rdr):au×au×Bool:=uI (r.s.drop r.at') 10
def Rdr.aS (r:Rdr):Rdr:=⟨r.s,if r.ln.2.2=true then r.at'+(r.ln.1.length+1)else r.at',r.n+1⟩
def wq (b:Int):∀(s cur:au),∀t∈fE b s cur,t.length<=cur.length+s.length
 |[],cur,t,h=>by simp only[fE,aD]at h;subst h;simp
 |c::r,cur,t,h=>by
  simp only[fE]at h;split at h
  .rcases bL.1 h with rfl|h
   .simp
   .have:=wq b r [] t h;simp at this⊢;omega
  .have:=wq b r (cur++[c]) t h;simp at this⊢;omega
def P2 (s:au)(b:Int){t:au}(h:t∈bd s b):t.length<=s.length:=by
 have:=wq b s [] t h;simpa using this
def Og (s p:au):(qE s p).1.length<=s.length:=by
 unfold qE;split<;>simp
end Go.Abs
namespace Go.Abs
variable {e:Env} {f:Nat} {r:Rdr} {ls:List dr}
end Go.Abs
namespace Go.Abs
variable{σ:List (Nat×Nat)}{k n L c:Nat}{fx w:Bool}{α:Type}{x:Src}{es:List D}{args:List Src}
section
variable {Y:Ctx}{draw:Bool}{r:List GI}{env rs:List ba}{nx:Nat}{m:List (Nat×bn)}{K:List ba->St->Prop}{g:Option (Nat×Bool)}{f:Bool}
def Y2 {l j:Nat}{sh:List (List Sh)}{d v e:D}{aE8:List D}{m2:List (Nat×bn)}(h:ay Y false r env (⟨true,v⟩::rs) nx m2 K)(hg:GF rs (some (j,w)) true:=by exact⟨_,_,rfl,rfl⟩)(hx:bZ env rs x=⟨true,.ptr l k 0 0⟩:=by exact rfl)(hl:look m l=some (.buf k [d]):=by exact rfl)(hd:d.aT=true:=by exact rfl)(hc:Y.fp n d aE8/\Y.fv n d aE8=v/\Y.fs n d aE8=e)(ha:jj [] sh (iR (bZ env rs) args)=aE8:=by exact rfl)(ho:BJ (bZ env rs) args:=by repeat' first|exact trivial|exact rfl|refine And.intro ?_ ?_|decide)(hn:aM (iR (bZ env rs) args)=true:=by exact rfl)(hm:cX m l (.buf k [e])=m2:=by simp only[cX,cT,Nat.reduceEqDiff,a8,aW,Nat.reduceAdd,reduceCtorEq];exact rfl):ay Y false (⟨.callF n x args sh,some (j,w)⟩::r) env rs nx m K:=
 Y4 rfl rfl hg (λ_=>⟨v,aaV,by simp only[ax.val,hx,aI,hl,iV,(dA _ _ _).1,ha,hc.2.1],m2,by simp only[ax.bU,hx,aI,hl,iV,(dA _ _ _).1,ha,hc.2.2];exact hm,h⟩) (λh=>cj)
def akl {i:ax}{j:Nat}(h:ay Y false r env (⟨false,.any⟩::rs) nx m K)(hM:i.cS=false:=by exact rfl)(hC:i.calm=false:=by exact rfl)(hg:GF rs (some (j,w)) false:=by exact⟨_,_,rfl,rfl⟩):ay Y false (⟨i,some (j,w)⟩::r) env rs nx m K:=
 Y4 hM hC hg (λh=>cj) (λ_=>h)
def r_off {i:ax}{j:Nat}(d:D)(h:ay Y draw r env (⟨false,d⟩::rs) nx m K)(hC:i.pure=true:=by exact rfl)(hg:GF rs (some (j,w)) false:=by exact⟨_,_,rfl,rfl⟩):ay Y draw (⟨i,some (j,w)⟩::r) env rs nx m K:=
 bF hC hg d (λh=>cj) (λh=>cj) (λ_=>h)
theorem dK {aE8:List D}{v:D}{nx':Nat}{m':List (Nat×bn)}(h:ay Y draw r env (⟨true,v⟩::rs) nx' m' K)(hc:∀K':D->St->Prop,K' v ⟨nx'+rs.length,m'⟩->Y.tr n aE8 ⟨nx+rs.length,m⟩ K')(hn:nx<=nx')(ha:iR (bZ env rs) args=aE8:=by exact rfl)(ho:BJ (bZ env rs) args:=by repeat' first|exact trivial|exact rfl|refine And.intro ?_ ?_):ay Y draw (⟨.callM n args,none⟩::r) env rs nx m K:=by
 unfold ay;show True/\(true=true->BJ (Src.ev env rs.reverse) args/\Y.tr n (iR (Src.ev env rs.reverse) args) {nx:=nx+rs.reverse.length,m:=m} _)/\(true=false->_)
 grind [oQ,ay]
def akD {q:α->D}{s:List α}{y z:Src}{fy fz:Bool}{kh km:IntKind}{h' m':Int}(j:Nat)(h:ay Y draw r env (⟨f,.sl k ((s.take j).map q)⟩::rs) nx m K)(hg:GF rs g f:=by exact cH)(hx:bZ env rs x=⟨fx,.sl k (s.map q)⟩:=by exact rfl)(hy:bZ env rs y=⟨fy,.int kh h'⟩:=by exact rfl)(hz:bZ env rs z=⟨fz,.int km m'⟩:=by exact rfl)(kx:f=true->fx=true:=by exact bz)(ky:f=true->fy=true:=by exact bz)(kz:f=true->fz=true:=by exact bz)(hj:f=true->h'=(j:Int))(hb:f=true->(j:Int)<=m'/\m'<=(s.length:Int)):ay Y draw (⟨.slX k x y z,g⟩::r) env rs nx m K:=
 bF rfl hg _ (λhf=>by have h1:=hj hf;have h2:=hb hf;simp only[ax.eG,hx,hy,hz,aZ];exact⟨kx hf,ky hf,kz hf,ae,ae,trivial,h2.2⟩) (λhf=>by simp only[ax.val,hx,hy];rw[hj hf,Int.toNat_natCast,List.map_take]) (λ_=>h)
def Dm [Inhabited α]{i o:Nat}{ag:Bool}{q:α->D}{xs:List α}(v:D)(h:ay Y draw r env (⟨f,v⟩::rs) nx m K)(hg:GF rs g f:=by exact cH)(hx:bZ env rs x=⟨fx,.ref k (xs.map q) i o⟩:=by exact rfl)(kx:f=true->fx=true:=by exact bz)(hi:f=true->i<xs.length:=by exact rV)(hv:f=true->kT (q xs[i]!) k n o ag=v:=by exact λ_=>rfl)(ho:o+n<=k:=by omega):ay Y draw (⟨.ldU n ag x,g⟩::r) env rs nx m K:=
 gB rfl hg _ (λhf=>aa4) (λhf=>aa0) m rfl (λha=>h)
def Pf {i o:Nat}{ag:Bool}(v:D)(h:ay Y draw r env (⟨f,v⟩::rs) nx m K)(hg:GF rs g f:=by exact cH)(hx:bZ env rs x=⟨fx,.ref k es i o⟩:=by exact rfl)(kx:f=true->fx=true:=by exact bz)(hi:f=true->i<es.length:=by intro _;simp only[bE,b8];omega)(hv:f=true->kT (es.getD i .any) k n o ag=v:=by exact λ_=>rfl)(ho:o+n<=k:=by omega):ay Y draw (⟨.ldU n ag x,g⟩::r) env rs nx m K:=
 gB rfl hg _ (λhf=>Qw) (λhf=>Kh) m rfl (λha=>h)
def zj {l o:Nat}{ag:Bool}{d:D}(v:D)(h:ay Y draw r env (⟨f,v⟩::rs) nx m K)(hg:GF rs g f:=by exact cH)(hx:bZ env rs x=⟨fx,.ptr l k 0 o⟩:=by exact rfl)(kx:f=true->fx=true:=by exact bz)(hl:f=true->look m l=some (.buf k [d]):=by exact λ_=>rfl)(hv:f=true->kT d k n o ag=v:=by exact λ_=>rfl)(ho:o+n<=k:=by omega)(hd:f=true->d.aT=false:=by exact λ_=>rfl):ay Y draw (⟨.ldU n ag x,g⟩::r) env rs nx m K:=
 gB rfl hg _ (λhf=>by simp only[ax.eG,hx,LG,ed,hl hf];exact⟨kx hf,⟨⟨trivial,aB⟩,ho⟩,by simp only[aI,hl hf,aM,hd hf];rfl⟩) (λhf=>QB) m rfl (λha=>h)
def Y8 {l o:Nat}{ag:Bool}{d:D}(v:D)(h:ay Y draw r env (⟨f,v⟩::rs) nx m K)(hg:GF rs g f:=by exact cH)(hx:bZ env rs x=⟨fx,.ptr l k 0 o⟩:=by exact rfl)(kx:f=true->fx=true:=by exact bz)(hl:f=true->look m l=some (.buf k [d]):=by exact λ_=>rfl)(hv:f=true->kT d k n o ag=v:=by exact λ_=>rfl)(ho:o+n<=k:=by omega)(hd:4<k:=by omega):ay Y draw (⟨.ldW n ag x,g⟩::r) env rs nx m K:=
 gB rfl hg _ (λhf=>by simp only[ax.eG,hx,LG,ed,hl hf];exact⟨kx hf,⟨⟨trivial,aB⟩,ho⟩,hd⟩) (λhf=>QB) m rfl (λha=>h)
end
def Gs.Yc (g:Gs):g.aS.i=g.i+1:=rfl
def Gs.eQ (g:Gs)(n:Int)(h:1<=n):0<=g.val n/\g.val n<n:=c9 _ _ h
def dflW:au:=[100,101,102,97,117,108,116]
def fW:au:=[102]
def Rw:au:=[109,97,105,110]
def AP:au:=[115,105,100,101]
def cI:List au:=[[97,110,116],[98,101,101],[99,111,119],[100,111,103]]
def bJ:List ca:=[⟨1,0,0,[],[]⟩,⟨1,2,0,[],[]⟩,⟨2,0,0,[97,46,49],[]⟩,⟨2,0,0,[],[]⟩]
def Fq:List au:=[[],[108,105,110,117,120],[112,108,97,110,57]]
def bV (n:Int):Env:=⟨Fq[(bo n 3).toNat]!,[],[]⟩
def nlS:List au->D
 |[]=>.aL
 |a::r=>.sl 1 ((a::r).map D.str)
def dr.N (x:dr):Go.Abs.D:=.agg [.str x.name,.int .i64 x.v.major,.int .i64 x.v.minor,.int .i64 x.v.patch,.str x.v.pre,.str x.v.build,.str x.shelf,.int .u64 x.sum,nlS x.feats]
def dr.F (name:au)(v:ca)(shelf:au)(sum:Int)(fs:Go.Abs.D):Go.Abs.D:=.agg [.str name,.int .i64 v.major,.int .i64 v.minor,.int .i64 v.patch,.str v.pre,.str v.build,.str shelf,.int .u64 sum,fs]
def W3 (l k:Nat)(es:List Go.Abs.D)(a:au)(v:ca)(s:au)(n:Int)(fs:Go.Abs.D):iz l k es (dr.F a v s n fs)=dr.F a v s n (iz l k es fs):=rfl
def W4 (l k:Nat)(es:List Go.Abs.D)(g:Gs):iz l k es (Gs.D g)=Gs.D g:=rfl
mutual
theorem gA (l k:Nat)(es:List D):∀d:D,d.aT=true->iz l k es d=d
 | .agg a,h=>by simp only[iz,jM l k es a (by simpa[D.aT]using h)]
 | .tup a,h=>by simp only[iz,jM l k es a (by simpa[D.aT]using h)]
 | .fn n a,h=>by simp only[iz,jM l k es a (by simpa[D.aT]using h)]
 | .own ..,h=>by simp[D.aT]at h
 | .ptr ..,h=>by simp[D.aT]at h
 | .it ..,h=>by simp[D.aT]at h
 | .any,_| .bool _,_| .int ..,_| .str _,_| .aL,_| .sl ..,_| .ref ..,_| .nilp,_| .nilf,_=>rfl
theorem jM (l k:Nat)(es:List D):∀ds:List D,aM ds=true->lu l k es ds=ds
 |[],_=>rfl
 |d::r,h=>by
  simp only[aM,aC]at h;simp only[lu,gA l k es d h.1,jM l k es r h.2]
end
def nm7:List au:=[[97,110,116],[98,101,101],[99,111,119],[100,111,103],[101,108,107],[65,110,116],[]]
def sh5:List au:=[Rw,AP,[],[101,108,115,101],[45]]
def ft3:List au:=[[103],dflW,fW]
def bu3:List au:=[[],[98,49],[43]]
def hY (l:kD)(pa pw pb:Int):kD:=
 if l.lines=[]then l else
 let k:=(bo pa l.lines.length).toNat
 let x:=l.lines[k]!
 if bo pw 8=0 then⟨l.env,l.lines.set k {x with name:=nm7[(bo pb 7).toNat]!}⟩
 else if bo pw 8=1 then⟨l.env,l.lines.set k {x with v:=bJ[(bo pb 4).toNat]!}⟩
 else if bo pw 8=2 then⟨l.env,l.lines.set k {x with shelf:=sh5[(bo pb 5).toNat]!}⟩
 else if bo pw 8=3 then⟨l.env,l.lines.set k {x with sum:=IntKind.u64.wrap (x.sum+bo pb 3)}⟩
 else if bo pw 8=4 then⟨l.env,l.lines.set k {x with feats:=x.feats++[ft3[(bo pb 3).toNat]!]}⟩
 else if bo pw 8=5 then⟨l.env,l.lines.set k {x with v:={x.v with build:=bu3[(bo pb 3).toNat]!}}⟩
 else if bo pw 8=6 then⟨l.env,l.lines.take k++l.lines.drop (k+1)⟩
 else⟨bV pb,l.lines⟩
def bq (L c:Nat)(ls:List dr)(k j:Nat):D:=if j=k then dr.F ls[j]!.name ls[j]!.v ls[j]!.shelf ls[j]!.sum (.own L 1 0 c)else dr.D ls[j]!
def bq_ne {ls:List dr}{i:Nat}(h:i≠k):((List.range i).map (bq L c ls k))++[dr.D ls[i]!]=(List.range (i+1)).map (bq L c ls k):=by
 rw[List.range_succ,List.map_append];simp[bq,h]
def bq_eq {L0 c0:Nat}{ls:List dr}{i:Nat}(h:i=k):((List.range i).map (bq L0 c0 ls k))++[dr.F ls[i]!.name ls[i]!.v ls[i]!.shelf ls[i]!.sum (.own L 1 0 c)]=(List.range (i+1)).map (bq L c ls k):=by
 rw[List.range_succ,List.map_append];congr 1
 .apply List.map_congr_left;intro j hj;have:j<i:=List.mem_range.1 hj;have hne:j≠k:=ae;simp[bq,hne]
 .simp[bq,h]
theorem W7 {ls:List dr}{fs:List au}(h:k<ls.length):lu L 1 (fs.map D.str) ((List.range ls.length).map (bq L fs.length ls k))=(ls.set k {ls[k]! with feats:=fs}).map dr.D:=by
 have e:∀js:List Nat,lu L 1 (fs.map D.str) (js.map (bq L fs.length ls k))=js.map λj=>if j=k then dr.D {ls[k]! with feats:=fs}else dr.D ls[j]! :=by
  intro js;induction js with
  |nil=>rfl
  |cons j r ih=>
   simp only[List.map_cons,lu,ih];congr 1;by_cases hj:j=k
   .subst hj;simp only[bq,a8,W3];simp only[iz,bX,aZ,aN,fS,a8,cR,br];rfl
   .simp only[bq,ai hj];exact gA _ _ _ _ rfl
 rw[e];apply List.ext_getElem
 .simp
 grind
def fz_bq {ls:List dr}(h:k<ls.length):lu L 1 (ls[k]!.feats.map D.str) ((List.range ls.length).map (bq L ls[k]!.feats.length ls k))=ls.map dr.D:=by
 rw[W7 h];congr 1;apply List.ext_getElem
 .simp
 .intro i h1 h2;by_cases hj:i=k
  .subst hj;simp[h]
  .simp[Ne.symm hj]
def yp [Inhabited α]{q:α->D}{xs:List α}{K o:Nat}{v:D}{x':α}(h:k<xs.length)(hv:pA (q xs[k]!) K n o v=q x'):(xs.map q).set k (pA ((xs.map q).getD k .any) K n o v)=(xs.set k x').map q:=by
 rw[getD_map h,hv,List.map_set]
def Ip {β:Type}(q:α->β)(xs:List α)(k:Nat)(x:α):((xs.set k x).map q).take xs.length=(xs.set k x).map q:=fj aB
def bq_st {L' c':Nat}{ls:List dr}(h:k<ls.length):((List.range ls.length).map (bq L c ls k)).set k (pA (((List.range ls.length).map (bq L c ls k)).getD k .any) 9 1 8 (.own L' 1 0 c'))=(List.range ls.length).map (bq L' c' ls k):=by
 apply List.ext_getElem
 .simp
 .intro i h1 h2;simp at h2;by_cases hj:i=k
  .subst hj;simp only[List.getElem_set_self,List.getElem_map,List.getElem_range,List.getD_eq_getElem?_getD,List.getElem?_map,List.getElem?_range h,Option.map_some,Option.getD_some];simp only[bq,a8];rfl
  .simp only[List.getElem_set_ne (Ne.symm hj),List.getElem_map,List.getElem_range,bq,ai hj]
def ahm {ls:List dr}(h:k<ls.length):kT (bq L c ls k (List.range ls.length)[k]!) 9 1 8 false=.own L 1 0 c:=by
 have:(List.range ls.length)[k]! =k:=by simp[h]
 rw[this];simp only[bq,a8];rfl
def ZH {lo:Nat}{σ:List (Nat×Nat)}{α:Type}{q q':α->D}:∀xs:List α,(∀x,rW lo σ (q x)=some (q' x))->oB lo σ (xs.map q)=some (xs.map q')
 |[],_=>rfl
 |a::r,h=>by simp only[List.map_cons,oB,h a,ZH r h]
def afE {lo:Nat}{L':Nat}{ls:List dr}(h:mN lo σ L=some L')(xs:List Nat):oB lo σ (xs.map (bq L c ls k))=some (xs.map (bq L' c ls k)):=by
 refine ZH xs λj=>?_
 by_cases hj:j=k
 .simp only[bq,ak hj,dr.F,rW,oB,Si,h]
 .simp only[bq,ai hj];rfl
def aiP {L' K:Nat}{ls:List dr}(h:L'≠L)(xs:List Nat):lu L K es (xs.map (bq L' c ls k))=xs.map (bq L' c ls k):=by
 induction xs with
 |nil=>rfl
 |cons j r ih=>
  simp only[List.map_cons,lu,ih];congr 1;by_cases hj:j=k
  .simp only[bq,ak hj,W3];simp only[iz,h,fG,aW]
  .simp only[bq,ai hj];exact gA _ _ _ _ rfl
def aiQ {K:Nat}{p:Prop}[Decidable p]{fs:List au}:lu L K es (if p then fs.map D.str else [])=if p then fs.map D.str else []:=by
 split
 .exact jM _ _ _ _ (bQ (λ_=>rfl) _)
 .rfl
def cut_k {β:Type}(q:α->β)(xs:List α)(k a:Nat)(ha:(xs.take k).length<=a):(((xs.take k).map q).drop 0).take a++((xs.map q).drop (0+(k+1))).take (xs.length-(k+1))=(xs.take k++xs.drop (k+1)).map q:=by
 rw[cR,bX,List.map_append,List.map_drop];congr 1
 .exact fj (by simpa using ha)
 .exact fj aB
theorem Kp.eq (a b:Kp):ik (Kp.D a).cells (Kp.D b).cells=decide (a=b):=by
 obtain⟨n1,⟨a1,a2,a3,a4,a5⟩⟩:=a;obtain⟨n2,⟨b1,b2,b3,b4,b5⟩⟩:=b
 grind [Kp.D,D.cells,ik,tn,Bz]
theorem aiR {l:List au}{B:Nat}(h:∀t∈l,t.length<=B)(i:Nat):(l[i]!).length<=B:=by
 by_cases hi:i<l.length
 .grind
 .simp only[List.getElem!_eq_getElem?_getD,List.getElem?_eq_none (Nat.le_of_not_lt hi),Option.getD_none];exact Nat.zero_le _
structure dr.ok (n:Nat)(x:dr):Prop where
 pre:x.v.pre.length<=3
 build:x.v.build.length<=2
 name:x.name.length<=16
 shelf:x.shelf.length<=16
 nf:x.feats.length<=n
 ft:∀t∈x.feats,t.length<=16
 sum:0<=x.sum/\x.sum<18446744073709551616
structure kD.ok (n:Nat)(l:kD):Prop where
 len:l.lines.length<=4
 lines:∀x∈l.lines,x.ok n
 env:∀i,(l.env.at i).length<=16
theorem kD.ok.sm {l:kD}(h:l.ok n)(hn:n<=1000):l.sm:=by
 refine⟨by have:=h.len;omega,λx hx=>?_,λi=>by have:=h.env i;omega⟩;have k:=h.lines x hx;have k1:=k.pre;have k2:=k.build;have k3:=k.name;have k4:=k.shelf;have k5:=k.nf;exact⟨⟨ae,ae⟩,ae,ae,ae,λt ht=>by have:=k.ft t ht;omega⟩
def Q9 (n:Int)(i:Nat):((bV n).at i).length<=16:=by
 have h:∀t∈Fq,t.length<=16:=aU
 match i with
 |0=>exact aiR h _
 |1=>show([]:au).length<=_;decide
 |_+2=>show([]:au).length<=_;decide
def dr.ok.mono {m:Nat}{x:dr}(h:x.ok n)(hm:n<=m):x.ok m:=⟨h.pre,h.build,h.name,h.shelf,eR h.nf hm,h.ft,h.sum⟩
def lk {α:Type}:List (Nat×α)->Nat->α->α
 |[],_,d=>d
 |(a,b)::r,n,d=>bif Nat.beq a n then b else lk r n d
structure Row where
 key:Nat
 pre:List D->Prop
 val:List D->D
structure RowF where
 pre:D->List D->Prop
 val:D->List D->D
 new:D->List D->D
def Row.no:Row:=⟨0,λ_=>False,λ_=>.any⟩
def RowF.no:RowF:=⟨λ_ _=>False,λ_ _=>.any,λ_ _=>.any⟩
section
variable [cP]
section
variable {P:Program}{ν:List (Nat×Nat)}{bU:List Nat}{Y:Ctx}
theorem RD.re {x x':X}(hw:x'.w=x.w)(hI:x'.I=x.I)(hβ:∀l l',mN 0 σ l=some l'->x'.β l'=x.β l){v:Value}{d d':D}(hv:RD ν x v d)(hd:RnD 0 σ d d'):RD ν x' v d':=by
 rcases hd with⟨rfl,hn⟩|hd|hd
 .exact hv.aT hn (λ_ h=>by rw[hI];exact h) (λ_ _=>by rw[hw])
 .grind [RD.rn]
 grind [RD.nl]
def o9.re {x x':X}{σ:List (Nat×Nat)}(hw:x'.w=x.w)(hI:x'.I=x.I)(hβ:∀l l',mN 0 σ l=some l'->x'.β l'=x.β l){b base tot:Nat}{b0 blk:bn}(o2:o9 ν x b base tot b0)(q3:qv 0 σ b0 blk):o9 ν x' b base tot blk:=by
 cases b0 with
 |iter s p=>
  cases blk with
  |iter s' p'=>simp only[qv]at q3;obtain⟨rfl,rfl⟩:=q3;simp only[o9,hw]at o2⊢;exact o2
  |_=>simp[qv]at q3
 |row s=>
  cases blk with
  |row s'=>simp only[qv]at q3;subst q3;simp only[o9,hw]at o2⊢;exact o2
  |_=>simp[qv]at q3
 |bld o n u=>
  cases blk with
  |bld o' n' u'=>
   simp only[qv]at q3;obtain⟨q3,rfl,rfl⟩:=q3;obtain⟨p1,v,p2,p3⟩:=o2;refine⟨p1,v,by rw[hw];exact p2, ?_⟩;cases o with
   |none=>simp only at q3;subst q3;exact p3
   |some l0=>
    obtain⟨l1,q4,rfl⟩:=q3;obtain⟨g,t,p4,p5,p6⟩:=p3;exact⟨g,t,p4,p5,by rw[hβ l0 l1 q4];exact p6⟩
  |_=>simp[qv]at q3
 |mpb s=>
  cases blk with
  |mpb s'=>
   simp only[qv]at q3;subst q3;obtain⟨p1,es2,cl,p2,p3,p4,p5⟩:=o2;exact⟨p1,es2,cl,by rw[hw];exact p2,p3,p4,λi hi=>(p5 i hi).aT (c8 p1 i) (λ_ h=>by rw[hI];exact h) (λ_ _=>by rw[hw])⟩
  |_=>simp[qv]at q3
 |buf k es=>
  cases blk with
  |iter s' p'=>simp[qv]at q3
  |row s'=>simp[qv]at q3
  |bld o' n' u'=>simp[qv]at q3
  |mpb s'=>simp[qv]at q3
  |buf k' es'=>
   simp only[qv]at q3;obtain⟨rfl,q3⟩:=q3;obtain⟨p1,p2,cc,T,fr,p3,p4,p5,p6⟩:=o2;rw[<-hw]at p3;rcases q3 with⟨rfl,hn⟩|q3|q3
   .exact⟨p1,p2,cc,T,fr,p3,p4,p5,λi hi=>⟨(p6 i hi).1,λj hj=>⟨((p6 i hi).2 j hj).1,RD.re hw hI hβ ((p6 i hi).2 j hj).2 (.inl ⟨rfl,lN (c8 hn i) j⟩)⟩⟩⟩
   .obtain⟨r1,r2⟩:=jX q3;refine⟨p1,ae,cc,T,fr,p3,p4,p5,λi hi=>?_⟩;have hi':i<es.length:=ae;obtain⟨s1,s2⟩:=F6 (r2 i hi');exact⟨s1.trans (p6 i hi').1,λj hj=>⟨((p6 i hi').2 j hj).1,RD.re hw hI hβ ((p6 i hi').2 j hj).2 (.inr (.inl (s2 j (by rw[(p6 i hi').1];exact hj))))⟩⟩
   .obtain⟨r1,r2⟩:=rX q3;refine⟨p1,ae,cc,T,fr,p3,p4,p5,λi hi=>?_⟩;have hi':i<es.length:=ae;obtain⟨s1,s2⟩:=Fe (r2 i hi');exact⟨s1.trans (p6 i hi').1,λj hj=>⟨((p6 i hi').2 j hj).1,RD.re hw hI hβ ((p6 i hi').2 j hj).2 (.inr (.inr (s2 j (by rw[(p6 i hi').1];exact hj))))⟩⟩
theorem Sj {lo:Nat}{l l':Nat}(h0:gU 0 c σ=true)(h:mN 0 σ l=some l'):l'<c/\(l,l')∈σ:=by
 obtain⟨h1,h2⟩:=ym h0 h
 grind
def xz {c:Nat}:∀{σ:List (Nat×Nat)}{a b:Nat},gU 0 c σ=true->(a,b)∈σ->mN 0 σ a=some b
 |[],a,b,_,h=>by cases h
 |(a0,b0)::r,a,b,h0,h=>by
  unfold mN;simp only[gU,aC,List.all_eq_true,cG]at h0;obtain⟨_,_,p4,p5⟩:=h0;rcases bL.1 h with h|h
  .simp only[dk]at h;obtain⟨rfl,rfl⟩:=h;simp
  .have:=(p4 _ h).1;simp only at this;have hne:Nat.beq a0 a=false:=by
    cases hb:Nat.beq a0 a with
    |false=>rfl
    |true=>obtain rfl:=Nat.eq_of_beq_eq_true hb;simp at this
   rw[hne];exact xz p5 h
structure Fr (σi σo:List (Nat×Nat))(q q1:Nat)(m0 m1:List (Nat×bn))(st st':St):Prop where
 oki:gU 0 q σi=true
 oko:gU 0 st'.nx σo=true
 nx:st.nx<=st'.nx
 lt:∀l i,(l,i)∈σi->look st.m l≠none
 io:∀i l,(i,l)∈σo->(l,i)∈σi\/st.nx<=l
 m0:∀i b,look m0 i=some b->∃l b',(l,i)∈σi/\look st.m l=some b'/\qv 0 σi b' b
 m1:∀l b,look st'.m l=some b->(∃i b1,(i,l)∈σo/\look m1 i=some b1/\qv 0 σo b1 b)\/(oc σo l=none/\(∀i,(l,i)∉σi)/\look st.m l=some b)
def acP {fid:Nat}{fn:Func}{af:aj}{K:D->St->Prop}(hΓ:Ok P ν bU Y)(hmix:P.follows .mixedOrders=true)(hf:P.funcs[fid]? =some fn)(hc:compile P ν bU fn=some af){x:X}{args:Array Value}{ds cs:List D}{st:St}{σi:List (Nat×Nat)}{q:Nat}{m0:List (Nat×bn)}(hl:args.size=ds.length)(hargs:∀i,i<ds.length->RD ν x (args.getD i undef) (ds.getD i .any))(hs:fI ν x (look st.m))(hfr:fm st x)(hlen:cs.length=ds.length)(hds:∀i,i<ds.length->RnD 0 σi (ds.getD i .any) (cs.getD i .any))(hnp:cs.length=af.np)(oki:gU 0 q σi=true)(hlt:∀l i,(l,i)∈σi->look st.m l≠none)(hm0:∀i b,look m0 i=some b->∃l b',(l,i)∈σi/\look st.m l=some b'/\qv 0 σi b' b)(hw:dx (Y.at q) af.body (λe env st1=>e.home/\oA st1.m env af.res/\∃(σo:List (Nat×Nat)) (q1:Nat) (m1:List (Nat×bn)) (st':St) (vd':D),Fr σi σo q q1 m0 m1 st st'/\RnD 0 σo (kg af env st1) vd'/\K vd' st'/\∀i,look st1.m i=look m1 i) (fU af cs) ⟨q,m0⟩):
  Calls P fid args x.w fun
   | .returned v,w'=>∃x' d st',K d st'/\x'.w=w'/\Step x x'/\RD ν x' v d/\fI ν x' (look st'.m)/\fm st' x'
   |_,_=>False:=by
 obtain⟨body,c1,c2,c3,c4,c5,c6⟩:=gK hc
 let x0:X:=⟨x.w,x.I,λi=>(oc σi i).bind x.β⟩
 have hx0:∀l i,(l,i)∈σi->x0.β i=x.β l:=λl i h=>by simp only[x0,BB oki h,Option.bind_some]
 have hβ0:∀l i,mN 0 σi l=some i->x0.β i=x.β l:=λl i h=>hx0 l i (Sj (lo:=0) oki h).2
 have hx0':∀i p,x0.β i=some p->∃l,(l,i)∈σi/\x.β l=some p/\i<q:=by
  intro i p h;obtain⟨l,h1,h2⟩:=Option.bind_eq_some_iff.1 (show(oc σi i).bind x.β=some p from h);exact⟨l,mq h1,h2,th oki (mq h1)⟩
 have hs0:fI ν x0 (look m0):=by
  refine⟨λi blk b base tot e1 e2=>?_,λi j b base tot base' tot' e1 e2 e3 e4=>?_,hs.imm,λi b base tot e=>?_,cP.le x _ (λ_ h=>h) (λ_ _=>rfl) hs.gd⟩
  .obtain⟨l,b',h1,h2,h3⟩:=hm0 i blk e1;rw[hx0 l i h1]at e2;obtain⟨o1,o2⟩:=hs.own l b' b base tot h2 e2;exact⟨o1,o9.re (x:=x) (x':=x0) rfl rfl hβ0 o2 h3⟩
  .obtain⟨l,h1,h2,_⟩:=hx0' i _ e3;obtain⟨l',h1',h2',_⟩:=hx0' j _ e4;have:=hs.inj l l' b base tot base' tot' (hlt _ _ h1) (hlt _ _ h1') h2 h2';subst this;have:=xz oki h1;rw[xz oki h1']at this;exact(a7 this).symm
  .obtain⟨l,_,h2,_⟩:=hx0' i _ e;exact hs.ee l b base tot h2
 have hf0:fm ⟨q,m0⟩ x0:=by
  refine⟨λi hi=>?_,λi hi=>?_⟩
  .cases h:x0.β i with
   |none=>rfl
   |some p=>obtain⟨_,_,_,h4⟩:=hx0' i p h;simp only at hi;omega
  .cases h:look m0 i with
   |none=>exact absurd h hi
   |some b=>obtain⟨l,b',h1,_⟩:=hm0 i b h;exact th oki h1
 have hi:=tG (P:=P) (ν:=ν) (bU:=bU) (x:=x0) (ds:=cs) (st:=⟨q,m0⟩) c4 c5 c6 (args:=args) ae hnp (λi hi=>RD.re (x:=x) (x':=x0) rfl rfl hβ0 (hargs i ae) (hds i ae)) hs0 hf0;have hcs:=qD (C:={P,ν,bU,slots:=slotsOf fn,ntmps:=fn.ntmps,vm:=Qc P fn}) (hΓ.at q) (mF fn).1 hmix x0 (λl h=>hf0.β l h) body af.body c2 _ _ _ _ x0 hw hi (.refl _);refine calls_of_wp hf c1 (wp_mono hcs λe a w' hp=>?_);obtain⟨e',x',env',st1,he,hxw,hst,hi',hh,hro,σo,q1,m1,st',vd',hfm,hvd,hK,hlk⟩:=hp;subst hxw;obtain⟨v,r1,r2,r3⟩:=oY hΓ.small hi' c3 hro
 let x2:X:=⟨x'.w,x'.I,λl=>match oc σo l with|some i=>x'.β i|none=>x.β l⟩
 have hx2:∀i l,(i,l)∈σo->x2.β l=x'.β i:=λi l h=>by simp only[x2,BB hfm.oko h]
 have hx2n:∀l,oc σo l=none->x2.β l=x.β l:=λl h=>by simp only[x2,h]
 have hβ2:∀i l,mN 0 σo i=some l->x2.β l=x'.β i:=λi l h=>hx2 i l (Sj (lo:=0) hfm.oko h).2
 have hx0s:∀l i p,(l,i)∈σi->x.β l=some p->x'.β i=some p:=λl i p h e=>hst.β _ _ (by rw[hx0 l i h];exact e)

 have hnew:∀i p,x'.β i=some p->(∃l,(l,i)∈σi/\x.β l=some p)\/x.w.heap.size<=p.1\/∃l p',(∃j,(l,j)∈σi)/\x.β l=some p'/\p'.1=p.1:=by
  intro i p e;rcases hst.newβ i p e with h|h|⟨j,p',h1,h2⟩
  .obtain⟨l,h3,h4,_⟩:=hx0' i p h;exact .inl ⟨l,h3,h4⟩
  .exact .inr (.inl h)
  .obtain⟨l,h3,h4,_⟩:=hx0' j p' h1;exact .inr (.inr ⟨l,p',⟨j,h3⟩,h4,h2⟩)
 have hstep:Step x x2:=by
  refine⟨hst.os,hst.tape,hst.output,hst.size,hst.I,hst.ph,λl p hp=>?_,λb hb hn=>hst.old b hb λi p h e=>?_,λb h=>?_,λl p h=>?_⟩
  .cases h:oc σo l with
   |none=>rw[hx2n l h];exact hp
   |some i=>
    have hm:=mq h;rw[hx2 i l hm];rcases hfm.io i l hm with h2|h2
    .exact hx0s l i p h2 hp
    .rw[hfr.β l h2]at hp;cases hp
  .obtain⟨l,_,h2,_⟩:=hx0' i p h;exact hn l p h2 e
  .rcases hst.newI b h with h|h|⟨i,p,h1,h2⟩
   .exact .inl h
   .exact .inr (.inl h)
   .obtain⟨l,_,h3,_⟩:=hx0' i p h1;exact .inr (.inr ⟨l,p,h3,h2⟩)
  .cases h1:oc σo l with
   |none=>rw[hx2n l h1]at h;exact .inl h
   |some i=>
    have hm:=mq h1;rw[hx2 i l hm]at h;rcases hnew i p h with⟨l',h2,h3⟩|h2|⟨l',p',_,h3,h4⟩
    .exact .inr (.inr ⟨l',p,h3,rfl⟩)
    .exact .inr (.inl h2)
    .exact .inr (.inr ⟨l',p',h3,h4⟩)
 have hsim:fI ν x2 (look st'.m):=by
  refine⟨λl blk b base tot e1 e2=>?_,λl1 l2 b base tot base' tot' e1 e2 e3 e4=>?_,hi'.oJ.imm,λl b base tot e=>?_,cP.le x' _ (λ_ h=>h) (λ_ _=>rfl) hi'.oJ.gd⟩
  .rcases hfm.m1 l blk e1 with⟨i,b1,h1,h2,h3⟩|⟨h1,h2,h3⟩
   .rw[hx2 i l h1]at e2;obtain⟨o1,o2⟩:=hi'.oJ.own i b1 b base tot (by rw[hlk];exact h2) e2;exact⟨o1,o9.re (x:=x') (x':=x2) rfl rfl hβ2 o2 h3⟩
   .rw[hx2n l h1]at e2;obtain⟨o1,o2⟩:=hs.own l blk b base tot h3 e2;have hlt:=hs.ee l b base tot e2;have hno:∀i p,x0.β i=some p->p.1≠b:=by
     rintro i ⟨b',base',tot'⟩ h e;simp only at e;subst e;obtain⟨l',h4,h5,_⟩:=hx0' i _ h;have:=hs.inj l' l b' base' tot' base tot (hfm.lt _ _ h4) (by rw[h3];simp) h5 e2;subst this;exact h2 _ h4
    refine⟨λh=>?_,o2.mono hstep.le (hst.old b hlt hno)⟩;rcases hst.newI b h with h|h|⟨i,p,h4,h5⟩
    .exact o1 h
    .exact absurd hlt (Nat.not_lt.2 h)
    .exact hno i p h4 h5
  .have mix:∀l1 l2 base tot base' tot',(∃i b1,(i,l1)∈σo/\look m1 i=some b1)->oc σo l2=none->(∀i,(l2,i)∉σi)->look st.m l2≠none->x2.β l1=some (b,base,tot)->x2.β l2=some (b,base',tot')->False:=by
    rintro l1 l2 base tot base' tot' ⟨i,b1,h1,h2⟩ h3 h4 h5 e3 e4;rw[hx2 i l1 h1]at e3;rw[hx2n l2 h3]at e4;rcases hnew i _ e3 with⟨l',h6,h7⟩|h6|⟨l',⟨pb,pt,pq⟩,⟨j,h6⟩,h7,h8⟩
    .have:=hs.inj l' l2 b base tot base' tot' (hfm.lt _ _ h6) h5 h7 e4;subst this;exact h4 _ h6
    .have:=hs.ee l2 b base' tot' e4;simp only at h6;omega
    .simp only at h8;subst h8;have:=hs.inj l' l2 pb pt pq base' tot' (hfm.lt _ _ h6) h5 h7 e4;subst this;exact h4 _ h6
   cases f1:look st'.m l1 with
   |none=>exact absurd f1 e1
   |some b1=>
    cases f2:look st'.m l2 with
    |none=>exact absurd f2 e2
    |some b2=>
     rcases hfm.m1 l1 b1 f1 with⟨i,c1,h1,h2,_⟩|⟨h1,h2,h3⟩<;>rcases hfm.m1 l2 b2 f2 with⟨j,c2,k1,k2,_⟩|⟨k1,k2,k3⟩
     .rw[hx2 i l1 h1]at e3;rw[hx2 j l2 k1]at e4;have:=hi'.oJ.inj i j b base tot base' tot' (by rw[hlk,h2];simp) (by rw[hlk,k2];simp) e3 e4;subst this;have:=xz hfm.oko h1;rw[xz hfm.oko k1]at this;exact(a7 this).symm
     .exact(mix l1 l2 base tot base' tot' ⟨i,c1,h1,h2⟩ k1 k2 (by rw[k3];simp) e3 e4).elim
     .exact(mix l2 l1 base' tot' base tot ⟨j,c2,k1,k2⟩ h1 h2 (by rw[h3];simp) e4 e3).elim
     .rw[hx2n l1 h1]at e3;rw[hx2n l2 k1]at e4;exact hs.inj l1 l2 b base tot base' tot' (by rw[h3];simp) (by rw[k3];simp) e3 e4
  .cases h1:oc σo l with
   |none=>rw[hx2n l h1]at e;exact jo (hs.ee l b base tot e) hst.size
   |some i=>
    rw[hx2 i l (mq h1)]at e;exact hi'.oJ.ee i b base tot e
 have hfr2:fm st' x2:=by
  refine⟨λl hl=>?_,λl hl=>?_⟩
  .cases h1:oc σo l with
   |none=>rw[hx2n l h1];exact hfr.β l (by have:=hfm.nx;omega)
   |some i=>have:=th hfm.oko (mq h1);omega
  .cases f1:look st'.m l with
   |none=>exact absurd f1 hl
   |some b1=>
    rcases hfm.m1 l b1 f1 with⟨i,c1,h1,_⟩|⟨_,_,h3⟩
    .exact th hfm.oko h1
    .have:=hfr.m l (by rw[h3];simp);have:=hfm.nx;omega
 have hrd:=RD.re (ν:=ν) (x:=x') (x':=x2) rfl rfl hβ2 r2 hvd;rcases Ex.BI hh with h|h<;>rw[h]at he<;>subst he<;>exact⟨hi'.defers,v,r1,x2,vd',st',hK,rfl,hstep,hrd,hsim,hfr2⟩
end
end
structure RowT where
 tr:List D->St->(D->St->Prop)->Prop
 mu:List D->St->Nat
 mono:∀(ds:List D) (st:St) (K K':D->St->Prop),(∀d st',K d st'->K' d st')->tr ds st K->tr ds st K'
def RowT.no:RowT:=⟨λ_ _ _=>False,λ_ _=>0,λ_ _ _ _ _ h=>h⟩
def uG (af:aj)(Q:D->List (Nat×bn)->Prop):Ex->List ba->St->Prop:=λe env st=>e.home/\oA st.m env af.res/\∃m1,(∀i,look st.m i=look m1 i)/\Q (kg af env st) m1
def ei {af:aj}{Q:D->List (Nat×bn)->Prop}{vd:D}{m1:List (Nat×bn)}{e:Ex}{env:List ba}{st:St}(h1:e.home)(h2:oA st.m env af.res)(h3:kg af env st=vd)(h4:st.m=m1)(h5:Q vd m1):uG af Q e env st:=⟨h1,h2,m1,λi=>by rw[h4],by rw[h3];exact h5⟩
section
variable [cP]{P:Program}{ν:List (Nat×Nat)}{bU:List Nat}{Y:Ctx}
def VG (P:Program)(ν:List (Nat×Nat))(Γ':Ctx)(bU:List Nat)(tr:List D->St->(D->St->Prop)->Prop)(fid:Nat):Prop:=
 ∀(ds:List D) (st:St) (K:D->St->Prop),tr ds st K->Ok P ν bU Γ'->∀(x:X) (args:Array Value),args.size=ds.length->(∀i,i<ds.length->RD ν x (args.getD i undef) (ds.getD i .any))->fI ν x (look st.m)->fm st x->
  jP P x (λv x'=>∃d st',K d st'/\Step x x'/\RD ν x' v d/\fI ν x' (look st'.m)/\fm st' x') ((callFunc fid args).run P x.w)
end
end Go.Abs
