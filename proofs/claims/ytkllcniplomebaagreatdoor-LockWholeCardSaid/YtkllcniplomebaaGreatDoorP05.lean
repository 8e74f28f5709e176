/- A part of the proofs. -/
import Derived.IntWalk
import Derived.KernelRfl
import Derived.Lib.TrimUEq
import Derived.Test.YtkllcniplomebaaGreatDoorP04
set_option linter.all false
set_option maxRecDepth 60000
set_option maxHeartbeats 2000000
namespace Go.Abs
variable{fx fy draw:Bool}{x y z:Src}{m2 m':List (Nat×bm)}{next:List aY->St->Prop}{k n l L lo nx l' j i0:Nat}{α ι:Type}{a b c:Int}{kk k2 k3:IntKind}{σ cm:List (Nat×Nat)}{sh:List (List Sh)}{args:List Src}{r:AC}{env' env:List aY}{ps:List (Nat×Nat×Src)}{ins:List GI}
section
variable {Y:Ctx}{Q Q':Ex->List aY->St->Prop}{st:St}
def Ctx.bN (Z:Ctx):=∀f ds st (K K':D->St->Prop),(∀d st,K d st->K' d st)->Z.tr f ds st K->Z.tr f ds st K'
def iJ {draw:Bool}{K K':List aY->St->Prop}(h:∀vs st,K vs st->K' vs st)(htr:Y.bN):∀(l:List GI) (env vs:List aY) (st:St),eW Y draw l env vs st K->eW Y draw l env vs st K'
 |[],env,vs,st,hh=>h _ _ hh
 |⟨i,g⟩::r,env,vs,st,hh=>by
  cases hcm:i.cM with
  |true=>
   cases i<;>simp only[az.cM]at hcm<;>try(cases hcm;done)
   .exact⟨hh.1,λhf=>⟨(hh.2.1 hf).1,htr _ _ _ _ _ (λd st' ⟨h1,h2⟩=>⟨h1,iJ h htr r _ _ _ h2⟩) (hh.2.1 hf).2⟩,λhf=>iJ h htr r _ _ _ (hh.2.2 hf)⟩
   .rename_i fv args;simp only[eW]at hh⊢;refine⟨hh.1,λhf=>⟨(hh.2.1 hf).1,(hh.2.1 hf).2.1, ?_⟩,λhf=>iJ h htr r _ _ _ (hh.2.2 hf)⟩;have h3:=(hh.2.1 hf).2.2;cases hd:(Src.ev env vs fv).d<;>simp only[hd]at h3⊢;exact⟨h3.1,htr _ _ _ _ _ (λd st' ⟨h1,h2⟩=>⟨h1,iJ h htr r _ _ _ h2⟩) h3.2⟩
   .exact⟨hh.1,λhf=>⟨(hh.2.1 hf).1,(hh.2.1 hf).2.1,λb hb=>iJ h htr r _ _ _ ((hh.2.1 hf).2.2 b hb)⟩,λhf=>iJ h htr r _ _ _ (hh.2.2 hf)⟩
  |false=>
   cases hf:i.lv draw g with
   |true=>
    rw[zy hcm hf]at hh⊢;exact⟨hh.1,λe=>⟨(hh.2.1 e).1,iJ h htr r _ _ _ (hh.2.1 e).2⟩,λe=>iJ h htr r _ _ _ (hh.2.2 e)⟩
   |false=>
    rw[nI hcm hf]at hh⊢;exact⟨hh.1,hh.2.1,λha=>(hh.2.2 ha).imp λ_ h2=>⟨h2.1,iJ h htr r _ _ _ h2.2⟩⟩
def Gh.mono {p q:List aY->St->Prop}(h:∀env st,p env st->q env st):Gh lo p env st->Gh lo q env st
 |⟨e,s,h1,h2⟩=>⟨e,s,h1,h _ _ h2⟩
def Gh.intro {p:List aY->St->Prop}(h:p env st):Gh lo p env st:=⟨env,st,.refl _ _,h⟩
def hZ (htr:Y.bN):∀(a:AC) (Q Q':Ex->List aY->St->Prop) (env:List aY) (st:St),(∀e env st,Q e env st->Q' e env st)->dk Y a Q env st->dk Y a Q' env st
 | .reg draw ins cm,Q,Q',env,st,h,hh=>Gh.mono (λenv st h2=>iJ (λvs st=>h _ _ _) htr _ _ _ _ h2) hh
 | .seq a b,Q,Q',env,st,h,hh=>Gh.mono (λenv st h2=>hZ htr a _ _ env st (λe env st h2=>by
   cases e with
   |normal=>exact hZ htr b Q Q' env st h h2
   |exit id=>exact h _ _ _ h2
   |ret=>exact h _ _ _ h2) h2) hh
 | .cond c a b,Q,Q',env,st,h,hh=>Gh.mono (λenv st h2=>by
  refine⟨h2.1, ?_⟩;have:=h2.2;cases hd:(c.ev env []).d<;>simp only[hd]at this⊢;exact⟨λht=>hZ htr a Q Q' env st h (this.1 ht),λht=>hZ htr b Q Q' env st h (this.2 ht)⟩) hh
 | .block id a,Q,Q',env,st,h,hh=>Gh.mono (λenv st h2=>hZ htr a _ _ env st (λe env st h2=>by
   cases e with
   |normal=>exact h _ _ _ h2
   |exit j=>simp only at h2⊢;split<;>rename_i hj<;>simp only[hj,bo,a8]at h2<;>exact h _ _ _ h2
   |ret=>exact h _ _ _ h2) h2) hh
 | .loop a,Q,Q',env,st,h,hh=>Gh.mono (λenv st h2=>by
  obtain⟨I,μ,h1,h2⟩:=h2;refine⟨I,μ,h1,λenv st hi=>hZ htr a _ _ env st (λe env' st' h3=>?_) (h2 env st hi)⟩;cases e with
  |normal=>exact h3
  |exit id=>exact h _ _ _ h3
  |ret=>exact h _ _ _ h3) hh
 | .exit id,Q,Q',env,st,h,hh=>Gh.mono (λ_ _=>h _ _ _) hh
 | .ret,Q,Q',env,st,h,hh=>Gh.mono (λ_ _=>h _ _ _) hh
 | .skip,Q,Q',env,st,h,hh=>Gh.mono (λ_ _=>h _ _ _) hh
def hY {a:AC}{st':St}(g:aZ Y.lo env st env' st')(h:dk Y a Q env' st'):dk Y a Q env st:=by
 cases a<;>(obtain⟨e2,s2,g2,h2⟩:=h;exact⟨e2,s2,.trans _ _ _ _ _ _ g g2,h2⟩)
def BQ (Y:Ctx)(id:Nat)(r:AC)(Q:Ex->List aY->St->Prop):Ex->List aY->St->Prop:=λe env st=>match e with
 | .normal=>dk Y r Q env st
 | .exit j=>if j=id then dk Y r Q env st else Q (.exit j) env st
 | .ret=>Q .ret env st
def LQ (Y:Ctx)(id:Nat)(r:AC)(next:List aY->St->Prop)(Q:Ex->List aY->St->Prop):Ex->List aY->St->Prop:=λe env st=>match e with
 | .normal=>next env st
 | .exit j=>if j=id then dk Y r Q env st else Q (.exit j) env st
 | .ret=>Q .ret env st
def BQ.normal {id:Nat}(h:dk Y r Q env st):BQ Y id r Q .normal env st:=h
def BQ.out {id:Nat}(h:dk Y r Q env st):BQ Y id r Q (.exit id) env st:=by simp only[BQ,bo];exact h
def BQ.other {id:Nat}(hj:(j==id)=false)(h:Q (.exit j) env st):BQ Y id r Q (.exit j) env st:=by simp only[BQ,ai nG];exact h
def BQ.ret {id:Nat}(h:Q .ret env st):BQ Y id r Q .ret env st:=h
def LQ.normal {id:Nat}(h:next env st):LQ Y id r next Q .normal env st:=h
def LQ.out {id:Nat}(h:dk Y r Q env st):LQ Y id r next Q (.exit id) env st:=by simp only[LQ,bo];exact h
def LQ.other {id:Nat}(hj:(j==id)=false)(h:Q (.exit j) env st):LQ Y id r next Q (.exit j) env st:=by simp only[LQ,ai nG];exact h
def LQ.ret {id:Nat}(h:Q .ret env st):LQ Y id r next Q .ret env st:=h
def cF {a b c:AC}(h:dk Y (.seq a (.seq b c)) Q env st):dk Y (.seq (.seq a b) c) Q env st:=by
 obtain⟨e1,s1,g1,h1⟩:=h;refine⟨e1,s1,g1,e1,s1,.refl _ _, ?_⟩;have:∀(Q1 Q2:Ex->List aY->St->Prop),Q1=Q2->dk Y a Q1 e1 s1->dk Y a Q2 e1 s1:=λ_ _ e h=>e▸h
 refine this _ _ ?_ h1;funext e env st;cases e with
 |normal=>exact propext ⟨λ⟨e2,s2,g2,h2⟩=>hY g2 h2,λh=>⟨_,_,.refl _ _,h⟩⟩
 |exit id=>rfl
 |ret=>rfl
def eB {b:AC}(h:dk Y b Q env st):dk Y (.seq .skip b) Q env st:=.intro (.intro h)
def wp_skip (h:Q .normal env st):dk Y .skip Q env st:=.intro h
def kr {b:AC}(h:Q .ret env st):dk Y (.seq .ret b) Q env st:=.intro (.intro h)
def wp_ret (h:Q .ret env st):dk Y .ret Q env st:=.intro h
def rp {id:Nat}{b:AC}(h:Q (.exit id) env st):dk Y (.seq (.exit id) b) Q env st:=.intro (.intro h)
def wp_exit {id:Nat}(h:Q (.exit id) env st):dk Y (.exit id) Q env st:=.intro h
def kq {id:Nat}{a:AC}(h:dk Y a (BQ Y id r Q) env st)(htr:Y.bN):dk Y (.seq (.block id a) r) Q env st:=by
 refine .intro (.intro (hZ htr a _ _ _ _ (λe env st h=>?_) h));cases e with
 |normal=>exact h
 |exit j=>simp only[BQ]at h⊢;split<;>rename_i hj<;>simp only[hj,bo,a8]at h<;>exact h
 |ret=>exact h
def wp_block {id:Nat}{a:AC}(h:dk Y a (BQ Y id .skip Q) env st)(htr:Y.bN)(hQ:∀e env env' st st',aZ Y.lo env st env' st'->Q e env' st'->Q e env st):dk Y (.block id a) Q env st:=by
 refine .intro (hZ htr a _ _ _ _ (λe env st h=>?_) h);have hs:∀env st,dk Y .skip Q env st->Q .normal env st:=λenv st ⟨e2,s2,g2,h2⟩=>hQ _ _ _ _ _ g2 h2
 cases e with
 |normal=>exact hs _ _ h
 |exit j=>simp only[BQ]at h⊢;split<;>rename_i hj<;>simp only[hj,bo,a8]at h<;>first|exact hs _ _ h|exact h
 |ret=>exact h
def CQ (next:List aY->St->Prop)(Q:Ex->List aY->St->Prop):Ex->List aY->St->Prop:=λe env st=>match e with
 | .normal=>next env st
 | .exit j=>Q (.exit j) env st
 | .ret=>Q .ret env st
def CQ.normal (h:next env st):CQ next Q .normal env st:=h
def CQ.other (h:Q (.exit j) env st):CQ next Q (.exit j) env st:=h
def CQ.ret (h:Q .ret env st):CQ next Q .ret env st:=h
def E2 (id:Nat)(Q:Ex->List aY->St->Prop):Ex->List aY->St->Prop:=λe env st=>match e with
 | .normal=>Q .normal env st
 | .exit j=>if j=id then Q .normal env st else Q (.exit j) env st
 | .ret=>Q .ret env st
def E2.normal {id:Nat}(h:Q .normal env st):E2 id Q .normal env st:=h
def E2.out {id:Nat}(h:Q .normal env st):E2 id Q (.exit id) env st:=by simp only[E2,bo];exact h
theorem E2.other {id:Nat}(hj:(j==id)=false)(h:Q (.exit j) env st):E2 id Q (.exit j) env st:=by grind [E2]
def E2.ret {id:Nat}(h:Q .ret env st):E2 id Q .ret env st:=h
def zK {id:Nat}{a:AC}(h:dk Y a (E2 id Q) env st)(htr:Y.bN):dk Y (.block id a) Q env st:=by
 refine .intro (hZ htr a _ _ _ _ (λe env st h=>?_) h);cases e with
 |normal=>exact h
 |exit j=>simp only[E2]at h⊢;split<;>rename_i hj<;>simp only[hj,bo,a8]at h<;>exact h
 |ret=>exact h
def rm (htr:Y.bN){a b:AC}(F:ι->List aY)(G:ι->List (Nat×bm))(c:Nat)(P:ι->Prop)(h1:dk Y a (CQ (λenv' st'=>∃j,P j/\aZ Y.lo env' st' (F j) ⟨c,G j⟩) Q) env st)(h2:∀i,P i->dk Y b Q (F i) ⟨c,G i⟩):dk Y (.seq a b) Q env st:=by
 refine .intro (hZ htr a _ _ _ _ (λe env st h=>?_) h1);cases e with
 |normal=>obtain⟨j,hj,g⟩:=h;exact hY g (h2 j hj)
 |exit j=>exact h
 |ret=>exact h
def gG (htr:Y.bN){a:AC}{id:Nat}(F:ι->List aY)(G:ι->List (Nat×bm))(c:Nat)(P:ι->Prop)(μ:ι->Nat)(i0:ι)(hP:P i0)(h0:aZ Y.lo env st (F i0) ⟨c,G i0⟩)(hr:∀i,P i->dk Y a (LQ Y id r (λenv' st'=>∃j,P j/\μ j<μ i/\aZ Y.lo env' st' (F j) ⟨c,G j⟩) Q) (F i) ⟨c,G i⟩):dk Y (.seq (.block id (.loop a)) r) Q env st:=by
 let W:List aY->St->Nat->Prop:=λenv st k=>∃i,env=F i/\st=⟨c,G i⟩/\P i/\μ i=k
 have least:∀env st,(∃k,W env st k)->∃k,W env st k/\∀k',W env st k'->k<=k':=by
  intro env st ⟨k,hk⟩;induction k using Nat.strongRecOn with
  |_ k ih=>
   by_cases h:∃k',k'<k/\W env st k'
   .obtain⟨k',h1,h2⟩:=h;exact ih k' h1 h2
   .exact⟨k,hk,λk' hk'=>by
     rcases dZ k' k with h1|h1
     .exact absurd ⟨k',h1,hk'⟩ h
     .exact h1⟩
 open Classical in
 refine .intro (.intro ⟨_,_,h0,λenv st=>∃k,W env st k,λenv st=>if h:∃k,W env st k then Classical.choose (least env st h)else 0,⟨_,i0,rfl,rfl,hP,rfl⟩,λenv st hk=>?_⟩);obtain⟨⟨i,e1,e2,e3,e5⟩,hmin⟩:=Classical.choose_spec (least env st hk);have:=hr i e3;rw[<-e1,<-e2]at this;refine hZ htr a _ _ env st ?_ this
 .intro e env' st' h;cases e with
  |normal=>
   obtain⟨j,b3,b5,g⟩:=h;have hW:W (F j) ⟨c,G j⟩ (μ j):=⟨j,rfl,rfl,b3,rfl⟩;refine⟨F j,⟨c,G j⟩,g,⟨_,hW⟩, ?_⟩;show(if h:∃k,W (F j) ⟨c,G j⟩ k then Classical.choose (least _ _ h)else 0)<(if h:∃k,W env st k then Classical.choose (least env st h)else 0);rw[dif_pos ⟨_,hW⟩,dif_pos hk,<-e5];exact Nat.lt_of_le_of_lt ((Classical.choose_spec (least _ _ ⟨_,hW⟩)).2 _ hW) b5
  |exit j=>simp only[LQ]at h⊢;split<;>rename_i hj<;>simp only[hj,bo,a8]at h<;>exact h
  |ret=>exact h
def wv (id:Nat)(next:List aY->St->Prop)(Q:Ex->List aY->St->Prop):Ex->List aY->St->Prop:=λe env st=>match e with
 | .normal=>next env st
 | .exit j=>if j=id then Q .normal env st else Q (.exit j) env st
 | .ret=>Q .ret env st
def wv.normal {id:Nat}(h:next env st):wv id next Q .normal env st:=h
def wv.out {id:Nat}(h:Q .normal env st):wv id next Q (.exit id) env st:=by simp only[wv,bo];exact h
theorem wv.other {id:Nat}(hj:(j==id)=false)(h:Q (.exit j) env st):wv id next Q (.exit j) env st:=by grind [wv]
def wv.ret {id:Nat}(h:Q .ret env st):wv id next Q .ret env st:=h
def B5 (htr:Y.bN){a:AC}{id:Nat}(F:ι->List aY)(G:ι->List (Nat×bm))(c:Nat)(P:ι->Prop)(μ:ι->Nat)(i0:ι)(hP:P i0)(h0:aZ Y.lo env st (F i0) ⟨c,G i0⟩)(hr:∀i,P i->dk Y a (wv id (λenv' st'=>∃j,P j/\μ j<μ i/\aZ Y.lo env' st' (F j) ⟨c,G j⟩) Q) (F i) ⟨c,G i⟩):dk Y (.block id (.loop a)) Q env st:=by
 let W:List aY->St->Nat->Prop:=λenv st k=>∃i,env=F i/\st=⟨c,G i⟩/\P i/\μ i=k
 have least:∀env st,(∃k,W env st k)->∃k,W env st k/\∀k',W env st k'->k<=k':=by
  intro env st ⟨k,hk⟩;induction k using Nat.strongRecOn with
  |_ k ih=>
   by_cases h:∃k',k'<k/\W env st k'
   .obtain⟨k',h1,h2⟩:=h;exact ih k' h1 h2
   .exact⟨k,hk,λk' hk'=>by
     rcases dZ k' k with h1|h1
     .exact absurd ⟨k',h1,hk'⟩ h
     .exact h1⟩
 open Classical in
 refine .intro ⟨_,_,h0,λenv st=>∃k,W env st k,λenv st=>if h:∃k,W env st k then Classical.choose (least env st h)else 0,⟨_,i0,rfl,rfl,hP,rfl⟩,λenv st hk=>?_⟩;obtain⟨⟨i,e1,e2,e3,e5⟩,hmin⟩:=Classical.choose_spec (least env st hk);have:=hr i e3;rw[<-e1,<-e2]at this;refine hZ htr a _ _ env st ?_ this
 .intro e env' st' h;cases e with
  |normal=>
   obtain⟨j,b3,b5,g⟩:=h;have hW:W (F j) ⟨c,G j⟩ (μ j):=⟨j,rfl,rfl,b3,rfl⟩;refine⟨F j,⟨c,G j⟩,g,⟨_,hW⟩, ?_⟩;show(if h:∃k,W (F j) ⟨c,G j⟩ k then Classical.choose (least _ _ h)else 0)<(if h:∃k,W env st k then Classical.choose (least env st h)else 0);rw[dif_pos ⟨_,hW⟩,dif_pos hk,<-e5];exact Nat.lt_of_le_of_lt ((Classical.choose_spec (least _ _ ⟨_,hW⟩)).2 _ hW) b5
  |exit j=>simp only[wv]at h⊢;split<;>rename_i hj<;>simp only[hj,bo,a8]at h<;>exact h
  |ret=>exact h
def nth:List aY->Nat->aY
 |[],_=>.un
 |a::_,0=>a
 |_::r,n+1=>nth r n
def Dp:∀(l:List aY) (n:Nat),l.getD n .un=nth l n
 |[],n=>by simp[nth]
 |a::_,0=>by simp[nth]
 |_::r,n+1=>by simpa[nth]using Dp r n
def bS (env rs:List aY):Src->aY
 | .s n=>nth env n
 | .l p=>bif Nat.blt p rs.length then nth rs (rs.length-1-p)else .un
 | .c d=>⟨true,d⟩
theorem oI (env rs:List aY):Src.ev env rs.reverse=bS env rs:=by
 funext s;cases s with
 |s n=>exact Dp env n
 |l p=>
  simp only[Src.ev,bS];cases h:Nat.blt p rs.length with
  |true=>
   have:p<rs.length:=by simp[Nat.blt]at h;omega
   rw[cond_true,<-Dp]
   grind
  |false=>
   have:¬p<rs.length:=by intro e;have:Nat.blt p rs.length=true:=by {simp[Nat.blt];omega};rw[this]at h;cases h
   grind
 |c d=>rfl
def aB (Y:Ctx)(draw:Bool)(l:List GI)(env rs:List aY)(nx:Nat)(m:List (Nat×bm))(K:List aY->St->Prop):Prop:=eW Y draw l env rs.reverse ⟨nx,m⟩ K
def WY (env rs:List aY):List (Nat×Nat)->List aY
 |[]=>env
 |(s,p)::r=>WY (env.set s (bS [] rs (.l p))) rs r
theorem OW (rs:List aY):∀(cm:List (Nat×Nat)) (env:List aY),iv env rs.reverse cm=WY env rs cm
 |[],env=>rfl
 |(s,p)::r,env=>by
  simp only[iv,WY];rw[OW rs r,<-congrFun (oI [] rs) (.l p)];rfl
def ax {b:AC}{m:List (Nat×bm)}(h:aB Y draw ins env [] nx m (λvs st'=>dk Y b Q (iv env vs cm) st')):dk Y (.seq (.reg draw ins cm) b) Q env ⟨nx,m⟩:=.intro (.intro h)
def ou {m:List (Nat×bm)}(h:aB Y draw ins env [] nx m (λvs st'=>Q .normal (iv env vs cm) st')):dk Y (.reg draw ins cm) Q env ⟨nx,m⟩:=.intro h
theorem aS {b:AC}{nx':Nat}{m:List (Nat×bm)}{rs fP:List aY}(h:dk Y b Q env' ⟨nx',m⟩)(he:WY env rs cm=env':=by exact rfl)(hn:nx+rs.length=nx':=by exact zL):aB Y draw [] fP rs nx m (λvs st'=>dk Y b Q (iv env vs cm) st'):=by
 grind [aB,eW,OW]
theorem lV {nx':Nat}{m:List (Nat×bm)}{rs fP:List aY}(h:Q .normal env' ⟨nx',m⟩)(he:WY env rs cm=env':=by exact rfl)(hn:nx+rs.length=nx':=by exact zL):aB Y draw [] fP rs nx m (λvs st'=>Q .normal (iv env vs cm) st'):=by
 grind [aB,eW,OW]
def aH {c:Src}{a b:AC}{t:Bool}(h1:t=true->dk Y (.seq a r) Q env st)(h2:t=false->dk Y (.seq b r) Q env st)(hc:bS env [] c=⟨true,.bool t⟩:=by exact rfl):dk Y (.seq (.cond c a b) r) Q env st:=by
 have hc':c.ev env []=⟨true,.bool t⟩:=by rw[<-hc,<-oI];rfl
 refine .intro (.intro ?_);simp only[hc'];refine⟨trivial,λht=>?_,λht=>?_⟩
 .obtain⟨e,s,g,h⟩:=h1 ht;exact hY g h
 .obtain⟨e,s,g,h⟩:=h2 ht;exact hY g h
theorem wp_cond {c:Src}{a b:AC}{t:Bool}(h1:t=true->dk Y a Q env st)(h2:t=false->dk Y b Q env st)(hc:bS env [] c=⟨true,.bool t⟩:=by exact rfl):dk Y (.cond c a b) Q env st:=by
 have hc':c.ev env []=⟨true,.bool t⟩:=by rw[<-hc,<-oI];rfl
 refine .intro ?_
 grind
def aZ.to {c nx':Nat}{m:List (Nat×bm)}(σ:List (Nat×Nat))(hc:nx'=c)(h:ig lo c σ=true)(he:eX lo σ env env')(hm:bn lo c σ m m'):aZ lo env ⟨nx,m⟩ env' ⟨nx',m'⟩:=by
 subst hc;exact .ren σ nx' env env' nx m m' h he hm
theorem bQ {β:Type}(q:α->β)(xs:List α):(xs.map q).take xs.length=xs.map q:=fE aF
def cb {α:Type}{q:α->D}(h:∀x,(q x).aU=true):∀xs:List α,aP (xs.map q)=true
 |[]=>rfl
 |a::r=>by simp only[List.map_cons,aP,h a,cb h r,fR]
def aZ.fz {env2:List aY}{m:List (Nat×bm)}{es:List D}{st2:St}(l:Nat)(hl:look m l=some (.buf k es))(hn:aP es=true)(he:yz l k es env=env')(hm:Bg l k es (dd m l)=m')(h:aZ lo env' ⟨nx,m'⟩ env2 st2):aZ lo env ⟨nx,m⟩ env2 st2:=by
 have:=aZ.VM (lo:=lo) l env ⟨nx,m⟩;simp only[Abs.VM,hl,hn,cond_true,he,hm]at this;exact .trans _ _ _ _ _ _ this h
def bD {a:AC}{m:List (Nat×bm)}{es:List D}(l:Nat)(h:dk Y a Q env' ⟨nx,m'⟩)(hl:look m l=some (.buf k es):=by exact rfl)(hn:aP es=true:=by first|exact rfl|exact cb (λ_=>rfl) _)(he:yz l k es env=env':=by simp only[yz,iX,oL,Bg,Ff,dd,Nat.reduceEqDiff,bo,a8,iP,ee,dE,iA,iB,cL,bh,aT,dM,bQ,reduceCtorEq,bH,b7,Nat.reduceAdd,Nat.reduceLeDiff];exact rfl)(hm:Bg l k es (dd m l)=m':=by simp only[yz,iX,oL,Bg,Ff,dd,Nat.reduceEqDiff,bo,a8,iP,ee,dE,iA,iB,cL,bh,aT,dM,bQ,reduceCtorEq,bH,b7,Nat.reduceAdd,Nat.reduceLeDiff];exact rfl):dk Y a Q env ⟨nx,m⟩:=
 hY (aZ.fz l hl hn he hm (.refl _ _)) h
def WkE.rf:∀e:List aY,WkE e e
 |[]=>trivial
 |_::r=>⟨⟨rfl,.refl _⟩,WkE.rf r⟩
def Rs.nil:Rs [] []:=⟨rfl,λ_=>.refl _⟩
def Rs.cons {x y:D}{a b:List D}(h:E6 x y)(h2:Rs a b):Rs (x::a) (y::b):=⟨by simp[h2.1],λi=>by cases i with
 |zero=>exact h
 |succ i=>simpa using h2.2 i⟩
def Rs.rf (a:List D):Rs a a:=⟨rfl,λ_=>.refl _⟩
def Rs.map {α:Type}{q p:α->D}:∀{xs:List α},(∀x∈xs,E6 (q x) (p x))->Rs (xs.map q) (xs.map p)
 |[],_=>.nil
 |x::r,h=>.cons (h x (.head _)) (Rs.map λy hy=>h y (.tail _ hy))
def E6.ag {a b:List D}(h:Rs a b):E6 (.agg a) (.agg b):=.agg _ _ h.1 h.2
def E6.ss {a b:List D}(h:Rs a b):E6 (.sl k a) (.sl k b):=.sl _ _ _ h.1 h.2
def Rt.nil {m:List (Nat×bm)}:Rt m []:=trivial
def Rt.id {m r:List (Nat×bm)}{b:bm}(h:look m l=some b)(h2:Rt m r):Rt m ((l,b)::r):=⟨⟨b,h,by cases b<;>first|exact⟨rfl,.rf _⟩|exact rfl⟩,h2⟩
def Rt.bf {m r:List (Nat×bm)}{es es':List D}(h:look m l=some (.buf k es))(hw:Rs es es')(h2:Rt m r):Rt m ((l,.buf k es')::r):=⟨⟨_,h,rfl,hw⟩,h2⟩
def EE {a:AC}{m:List (Nat×bm)}(m':List (Nat×bm))(hm:Rt m m')(h:dk Y a Q env ⟨nx,m'⟩):dk Y a Q env ⟨nx,m⟩:=hY (.nz _ _ _ _ _ (WkE.rf _) hm) h
def eX.nil:eX lo σ [] []:=trivial
def eX.un {a:aY}{r s:List aY}(h:eX lo σ r s):eX lo σ (a::r) (.un::s):=⟨.inr rfl,h⟩
def eX.eq {ok:Bool}{d d':D}{r s:List aY}(hd:vZ lo σ d=some d')(h:eX lo σ r s):eX lo σ (⟨ok,d⟩::r) (⟨ok,d'⟩::s):=⟨.inl ⟨rfl,.inr (.inl hd)⟩,h⟩
theorem eX.nl {ok:Bool}{d d':D}{r s:List aY}(hd:d'=d)(hn:d.aU=true)(h:eX lo σ r s):eX lo σ (⟨ok,d⟩::r) (⟨ok,d'⟩::s):=⟨.inl ⟨rfl,.inl ⟨hd,hn⟩⟩,h⟩
def eX.ni {ok:Bool}{d d':D}{r s:List aY}(hd:wx d d')(h:eX lo σ r s):eX lo σ (⟨ok,d⟩::r) (⟨ok,d'⟩::s):=⟨.inl ⟨rfl,.inr (.inr hd)⟩,h⟩
section
variable {c:Nat}{m r:List (Nat×bm)}
def bn.nil:bn lo c σ m []:=trivial
theorem bn.nl {es es':List D}(l:Nat)(hl:nb lo σ l=some l')(hm:look m l=some (.buf k es))(he:es'=es)(hn:aP es=true)(h:bn lo c σ m r):bn lo c σ m ((l',.buf k es')::r):=
 ⟨.inl ⟨l,_,hl,hm,rfl,.inl ⟨he,hn⟩⟩,h⟩
def bn.eq {es es':List D}(l:Nat)(hl:nb lo σ l=some l')(hm:look m l=some (.buf k es))(he:rY lo σ es=some es')(h:bn lo c σ m r):bn lo c σ m ((l',.buf k es')::r):=
 ⟨.inl ⟨l,_,hl,hm,rfl,.inr (.inl he)⟩,h⟩
def bn.ni {es es':List D}(l:Nat)(hl:nb lo σ l=some l')(hm:look m l=some (.buf k es))(he:OD es es')(h:bn lo c σ m r):bn lo c σ m ((l',.buf k es')::r):=
 ⟨.inl ⟨l,_,hl,hm,rfl,.inr (.inr he)⟩,h⟩
def bn.Am {es':List D}(hl:nb lo σ l'=some l')(hm:look m l'=some (.buf k es'))(hn:aP es'=true)(h:bn lo c σ m r):bn lo c σ m ((l',.buf k es')::r):=.nl l' hl hm rfl hn h
def bn.L4 {es' es:List D}(hl:nb lo σ l'=some l')(hm:look m l'=some (.buf k es))(he:rY lo σ es=some es')(h:bn lo c σ m r):bn lo c σ m ((l',.buf k es')::r):=.eq l' hl hm he h
def bn.mt {es':List D}(h1:Nat.ble lo l'=true)(h2:Nat.blt l' c=true)(h3:σ.all (λp=>!Nat.beq p.2 l')=true)(he:es'=[])(h:bn lo c σ m r):bn lo c σ m ((l',.buf k es')::r):=
 ⟨.inr ⟨h1,h2,h3,k,by rw[he]⟩,h⟩
def bn.it {p p':Nat}{s s':List UInt8}(l:Nat)(hl:nb lo σ l=some l')(hm:look m l=some (.iter s p))(hs:s'=s)(hp:p'=p)(h:bn lo c σ m r):bn lo c σ m ((l',.iter s' p')::r):=
 ⟨.inl ⟨l,_,hl,hm,hs,hp⟩,h⟩
def bn.L6 {p p':Nat}{s s':List UInt8}(hl:nb lo σ l'=some l')(hm:look m l'=some (.iter s p))(hs:s'=s)(hp:p'=p)(h:bn lo c σ m r):bn lo c σ m ((l',.iter s' p')::r):=.it l' hl hm hs hp h
def bn.rw {s s':List UInt8}(l:Nat)(hl:nb lo σ l=some l')(hm:look m l=some (.row s))(hs:s'=s)(h:bn lo c σ m r):bn lo c σ m ((l',.row s')::r):=
 ⟨.inl ⟨l,_,hl,hm,hs⟩,h⟩
def bn.bl {l1 l2 n':Nat}{u u':Bool}(l:Nat)(hl:nb lo σ l=some l')(hm:look m l=some (.bld (some l1) n u))(h1:nb lo σ l1=some l2)(hn:n'=n)(hu:u'=u)(h:bn lo c σ m r):bn lo c σ m ((l',.bld (some l2) n' u')::r):=
 ⟨.inl ⟨l,_,hl,hm,⟨l2,h1,rfl⟩,hn,hu⟩,h⟩
def bn.b0 {n':Nat}{u u':Bool}(l:Nat)(hl:nb lo σ l=some l')(hm:look m l=some (.bld none n u))(hn:n'=n)(hu:u'=u)(h:bn lo c σ m r):bn lo c σ m ((l',.bld none n' u')::r):=
 ⟨.inl ⟨l,_,hl,hm,rfl,hn,hu⟩,h⟩
end
mutual
def xC (m:List (Nat×bm)):Sh->D->D
 | .a,d=>match d with
  | .aR=>.sl 0 []
  |d=>d
 | .sl k cs,d=>match d with
  | .aR=>.sl k []
  | .own l k' i c=>.sl k' ((((aL m l).drop i).take c).map λe=>match e with
   | .agg ds=>.agg (xL m cs ds)
   |e=>xH m cs e)
  |d=>d
 | .pt cs,d=>match d with
  | .ptr l k i o=>.ref k ((aL m l).map λe=>match e with
   | .agg ds=>.agg (xL m cs ds)
   |e=>xH m cs e) i o
  |d=>d
 | .kp cs,d=>match d with
  | .own l k' i c=>.sl k' ((((aL m l).drop i).take c).map λe=>match e with
   | .agg ds=>.agg (xL m cs ds)
   |e=>xH m cs e)
  |d=>d
def xH (m:List (Nat×bm)):List Sh->D->D
 |[],d=>d
 |s::_,d=>xC m s d
def xL (m:List (Nat×bm)):List Sh->List D->List D
 |[],ds=>ds
 |s::r,ds=>match ds with
  |[]=>[]
  |d::ds=>xC m s d::xL m r ds
end
def xV (m:List (Nat×bm))(cs:List Sh):D->D
 | .agg ds=>.agg (xL m cs ds)
 |e=>xH m cs e
mutual
def VT (m:List (Nat×bm)):Sh->D->Prop
 | .a,d=>d.aU=true
 | .sl _ cs,d=>match d with
  | .own l k' i c=>ed m l k' (i+c)/\∀e∈((aL m l).drop i).take c,(match e with
   | .agg ds=>xLO m cs ds
   |e=>xHO m cs e)
  |d=>d.aU=true
 | .pt cs,d=>match d with
  | .ptr l k _ _=>ed m l k 0/\∀e∈aL m l,(match e with
   | .agg ds=>xLO m cs ds
   |e=>xHO m cs e)
  |d=>d.aU=true
 | .kp cs,d=>match d with
  | .own l k' i c=>ed m l k' (i+c)/\∀e∈((aL m l).drop i).take c,(match e with
   | .agg ds=>xLO m cs ds
   |e=>xHO m cs e)
  |d=>d.aU=true
def xHO (m:List (Nat×bm)):List Sh->D->Prop
 |[],d=>d.aU=true
 |s::_,d=>VT m s d
def xLO (m:List (Nat×bm)):List Sh->List D->Prop
 |[],ds=>aP ds=true
 |s::r,ds=>match ds with
  |[]=>True
  |d::ds=>VT m s d/\xLO m r ds
end
def xVO (m:List (Nat×bm))(cs:List Sh):D->Prop
 | .agg ds=>xLO m cs ds
 |e=>xHO m cs e
mutual
theorem aaX (m:List (Nat×bm)):∀(s:Sh) (d:D),kR m s d=xC m s d/\(il m s d↔VT m s d)
 | .a,d=>by cases d<;>simp only[kR,xC,il,VT]<;>exact⟨trivial,trivial⟩
 | .sl k cs,d=>by
  cases d<;>simp only[kR,xC,il,VT]<;>first
   |exact⟨trivial,trivial⟩
   |skip
  rename_i l k' i c;exact⟨ar (D.sl k') (List.map_congr_left λe _=>(EF m cs e).1),and_congr_right λ_=>forall_congr' λe=>imp_congr_right λ_=>(EF m cs e).2⟩
 | .pt cs,d=>by
  cases d<;>simp only[kR,xC,il,VT]<;>first
   |exact⟨trivial,trivial⟩
   |skip
  rename_i l k' i c;exact⟨ar (λx=>D.ref k' x i c) (List.map_congr_left λe _=>(EF m cs e).1),and_congr_right λ_=>forall_congr' λe=>imp_congr_right λ_=>(EF m cs e).2⟩
 | .kp cs,d=>by
  cases d<;>simp only[kR,xC,il,VT]<;>first
   |exact⟨trivial,trivial⟩
   |skip
  rename_i l k' i c;exact⟨ar (D.sl k') (List.map_congr_left λe _=>(EF m cs e).1),and_congr_right λ_=>forall_congr' λe=>imp_congr_right λ_=>(EF m cs e).2⟩
theorem EF (m:List (Nat×bm)):∀(cs:List Sh) (d:D),iZ m cs d=(match d with
   | .agg ds=>.agg (xL m cs ds)
   |e=>xH m cs e)/\(gv m cs d↔(match d with
   | .agg ds=>xLO m cs ds
   |e=>xHO m cs e))
 |[],d=>by cases d<;>simp only[iZ,xH,xL,gv,xHO,xLO,D.aU]<;>first|exact⟨trivial,Iff.rfl⟩|exact⟨trivial,trivial⟩
 |s::r,d=>by
  cases d<;>simp only[iZ,xH,gv,xHO]<;>first
   |exact aaX m s _
   |skip
  rename_i ds;exact⟨ar D.agg (Tc m (s::r) ds).1,(Tc m (s::r) ds).2⟩
theorem Tc (m:List (Nat×bm)):∀(cs:List Sh) (ds:List D),nA m cs ds=xL m cs ds/\(ki m cs ds↔xLO m cs ds)
 |[],ds=>by simp only[nA,xL,ki,xLO];exact⟨trivial,trivial⟩
 |s::r,[]=>by simp only[nA,xL,ki,xLO];exact⟨trivial,trivial⟩
 |s::r,d::ds=>by
  simp only[nA,xL,ki,xLO,(aaX m s d).1,(Tc m r ds).1];exact⟨trivial,and_congr (aaX m s d).2 (Tc m r ds).2⟩
end
theorem G3 (m:List (Nat×bm))(cs:List Sh)(d:D):iZ m cs d=xV m cs d/\(gv m cs d↔xVO m cs d):=by
 have:=EF m cs d;cases d<;>exact this
def jf (m:List (Nat×bm)):List (List Sh)->List D->List D
 |_,[]=>[]
 |[],d::r=>xV m [.a] d::jf m [] r
 |s::ss,d::r=>xV m s d::jf m ss r
def iU (m:List (Nat×bm)):List (List Sh)->List D->Prop
 |_,[]=>True
 |[],d::r=>xVO m [.a] d/\iU m [] r
 |s::ss,d::r=>xVO m s d/\iU m ss r
theorem dy (m:List (Nat×bm)):∀(ss:List (List Sh)) (ds:List D),iy m ss ds=jf m ss ds/\(je m ss ds↔iU m ss ds)
 |ss,[]=>by simp[iy,jf,je,iU]
 |[],d::r=>by
  simp only[iy,jf,je,iU,(G3 m [.a] d).1,(dy m [] r).1];exact⟨trivial,and_congr (G3 m _ d).2 (dy m [] r).2⟩
 |s::ss,d::r=>by
  simp only[iy,jf,je,iU,(G3 m s d).1,(dy m ss r).1];exact⟨trivial,and_congr (G3 m _ d).2 (dy m ss r).2⟩
def Rr (a:aj)(d:D):Ex->List aY->St->Prop:=λe env st=>e.home/\oD st.m env a.res/\NI a env st/\aaf a env st=d
def QW (a:aj)(env:List aY)(m:List (Nat×bm)):D:=match a.res with
 |[r]=>xV m (a.rsh.getD 0 []) (IB m env r)
 |rs=>.tup (jf m a.rsh (qZ m env rs))
def EG (a:aj)(env:List aY)(m:List (Nat×bm)):Prop:=match a.res with
 |[r]=>xVO m (a.rsh.getD 0 []) (IB m env r)
 |rs=>iU m a.rsh (qZ m env rs)
theorem QE {a:aj}{d:D}{e:Ex}{m:List (Nat×bm)}(he:e.home)(h1:oD m env a.res)(h2:EG a env m)(h3:QW a env m=d):Rr a d e env ⟨nx,m⟩:=by
 refine⟨he,h1, ?_, ?_⟩
 .unfold NI;unfold EG at h2;split<;>rename_i hr
  .rw[hr]at h2;exact(G3 _ _ _).2.2 h2
  .split at h2
   .rename_i hr2;exact absurd hr2 (hr _)
   .exact(dy _ _ _).2.2 h2
 grind [aaf,QW,G3,dy]
def E5 (a:aj)(k:Nat)(vd sd:D):Ex->List aY->St->Prop:=λe env st=>e.home/\oD st.m env a.res/\(j5 a env st).aU=true/\j5 a env st=vd/\look st.m 0=some (.buf k [sd])/\sd.aU=true
def gO {a:aj}{vd sd:D}{e:Ex}{m:List (Nat×bm)}(he:e.home)(h1:oD m env a.res)(h2:j5 a env ⟨nx,m⟩=vd)(h3:look m 0=some (.buf k [sd]))(hn:vd.aU=true)(hs:sd.aU=true):E5 a k vd sd e env ⟨nx,m⟩:=⟨he,h1,by rw[h2];exact hn,h2,h3,hs⟩
end
section
variable {Y:Ctx}{r:List GI}{rs:List aY}{m:List (Nat×bm)}{K:List aY->St->Prop}{g:Option (Nat×Bool)}{f:Bool}
def at8 (s:List UInt8)(i:Nat):Int:=((s.getD i 0).toNat:Int)
def yF (s:List UInt8)(i:Nat):0<=at8 s i/\at8 s i<256:=by
 have:=(s.getD i 0).toNat_lt;unfold at8;omega
def D.ajJ:D->Bool
 | .str _=>true
 |_=>false
def wrap_i64 (h1:-9223372036854775808<=a)(h2:a<=9223372036854775807):IntKind.i64.wrap a=a:=IntWalk.i64_in _ ae
theorem Ry (a b:List UInt8):(a==b)=decide (a=b):=by
 grind
def getD_map [Inhabited α]{q:α->D}{xs:List α}{i:Nat}(h:i<xs.length):(xs.map q).getD i .any=q xs[i]! :=by
 simp[List.getD,h]
def alz (b:UInt8):(D.int .u8 b.toNat).u8=b:=by simp[D.u8]
def acv (s:List UInt8):D.str ((s.map λb=>D.int .u8 b.toNat).map D.u8)=.str s:=by
 congr 1;rw[List.map_map]
 conv=>rhs;rw[<-List.map_id s]
 apply List.map_congr_left;intro b _;exact alz b
def GF (rs:List aY):Option (Nat×Bool)->Bool->Prop
 |none,f=>f=true
 |some (j,w),f=>∃ok b,bS [] rs (.l j)=⟨ok,.bool b⟩/\(ok&&(b==w))=f
def GF.flag (h:GF rs g f):flag rs.reverse g=f/\yV rs.reverse g:=by
 cases g with
 |none=>exact⟨h.symm,trivial⟩
 |some jw=>
  obtain⟨j,w⟩:=jw;obtain⟨ok,b,h1,h2⟩:=h;have h3:rs.reverse.getD j .un=⟨ok,.bool b⟩:=by rw[<-h1,<-oI];rfl
  simp only[Abs.flag,yV,h3,h2,D.isBool];exact⟨trivial,λ_=>trivial⟩
theorem ZA {i:az}(hM:i.cM=false)(hF:i.lv draw g=false)(hC:g.isSome=true->i.calm=true)(hg:GF rs g f)(d:D)(ho:f=true->i.eL Y (bS env rs) m)(hv:f=true->i.val Y (bS env rs) m (nx+rs.length)=d)(m':List (Nat×bm))(hm:i.bR Y (bS env rs) m (nx+rs.length)=m')(h:(f=true->i.K4 draw (bS env rs))->aB Y draw r env (⟨f,d⟩::rs) nx m' K):aB Y draw (⟨i,g⟩::r) env rs nx m K:=by
 obtain⟨hf,hb⟩:=hg.flag;unfold aB;rw[nI hM hF,oI,hf];refine⟨?_,ho,λha=>⟨d,by simpa using hv, ?_⟩⟩
 .cases g with
  |none=>trivial
  |some jw=>exact⟨hC rfl,hb⟩
 grind [aB]
def hJ {i:az}(hC:i.calm=true)(hg:GF rs g f)(d:D)(ho:f=true->i.eL Y (bS env rs) m)(hv:f=true->i.val Y (bS env rs) m (nx+rs.length)=d)(m':List (Nat×bm))(hm:i.bR Y (bS env rs) m (nx+rs.length)=m')(h:(f=true->i.K4 draw (bS env rs))->aB Y draw r env (⟨f,d⟩::rs) nx m' K):aB Y draw (⟨i,g⟩::r) env rs nx m K:=
 ZA (by cases i<;>first|rfl|cases hC) (by simp[az.lv,hC]) (λ_=>hC) hg d ho hv m' hm h
def bz {i:az}(hC:i.pure=true)(hg:GF rs g f)(d:D)(ho:f=true->i.eL Y (bS env rs) m)(hv:f=true->i.val Y (bS env rs) m (nx+rs.length)=d)(h:(f=true->i.K4 draw (bS env rs))->aB Y draw r env (⟨f,d⟩::rs) nx m K):aB Y draw (⟨i,g⟩::r) env rs nx m K:=
 hJ (UW hC) hg d ho hv m (Zx hC) h
def qV {i:az}(hM:i.cM=false)(d:D)(ho:i.eL Y (bS env rs) m)(hv:i.val Y (bS env rs) m (nx+rs.length)=d)(m':List (Nat×bm))(hm:i.bR Y (bS env rs) m (nx+rs.length)=m')(h:i.K4 draw (bS env rs)->aB Y draw r env (⟨true,d⟩::rs) nx m' K):aB Y draw (⟨i,none⟩::r) env rs nx m K:=
 ZA hM (by simp[az.lv]) (λh=>cw) rfl d (λ_=>ho) (λ_=>hv) m' hm (λha=>h (ha rfl))
theorem ZC {i:az}{w:Bool}(hM:i.cM=false)(hC:i.calm=false)(hg:GF rs (some (j,w)) f)(h1:f=true->∃d,i.eL Y (bS env rs) m/\i.val Y (bS env rs) m (nx+rs.length)=d/\∃m',i.bR Y (bS env rs) m (nx+rs.length)=m'/\aB Y false r env (⟨true,d⟩::rs) nx m' K)(h2:f=false->aB Y false r env (⟨false,.any⟩::rs) nx m K):aB Y false (⟨i,some (j,w)⟩::r) env rs nx m K:=by
 obtain⟨hf,hb⟩:=hg.flag
 grind [aB,zy,az.lv,oI]
def aW {d:D}(h:aB Y draw r env (⟨f,d⟩::rs) nx m K)(hg:GF rs g f:=by exact cz)(hx:bS env rs x=⟨fx,d⟩:=by exact rfl)(kx:f=true->fx=true:=by exact bw):aB Y draw (⟨.mv x,g⟩::r) env rs nx m K:=
 bz rfl hg _ (λhf=>ow) (λhf=>pE) (λha=>h)
def sO {b:Bool}(h:aB Y draw r env (⟨f,.bool (!b)⟩::rs) nx m K)(hg:GF rs g f:=by exact cz)(hx:bS env rs x=⟨fx,.bool b⟩:=by exact rfl)(kx:f=true->fx=true:=by exact bw):aB Y draw (⟨.un .not x,g⟩::r) env rs nx m K:=
 bz rfl hg _ (λhf=>ow) (λhf=>pE) (λha=>h)
def DI {c b:Src}{fc fb t y:Bool}(h:aB Y draw r env (⟨f,.bool (t ||y)⟩::rs) nx m K)(hg:GF rs g f:=by exact cz)(hc:bS env rs c=⟨fc,.bool t⟩:=by exact rfl)(hb:bS env rs b=⟨fb,.bool y⟩:=by exact rfl)(kc:f=true->fc=true:=by exact bw)(kb:f=true->t=false->fb=true:=by intro h1 h2;first|(rw[h2];exact rfl)|(rw[h2,h1];rfl)|(rw[h1,h2];rfl)|simp_all):aB Y draw (⟨.pick c (.c (.bool true)) b,g⟩::r) env rs nx m K:=
 bz rfl hg _ (λhf=>by simp only[az.eL,hc,hb];exact⟨kc hf,λ_=>rfl,λe=>kb hf e⟩) (λhf=>by simp only[az.val,hc,hb];cases t<;>rfl) (λ_=>h)
def xK {c a:Src}{fc fa t y:Bool}(h:aB Y draw r env (⟨f,.bool (t&&y)⟩::rs) nx m K)(hg:GF rs g f:=by exact cz)(hc:bS env rs c=⟨fc,.bool t⟩:=by exact rfl)(ha:bS env rs a=⟨fa,.bool y⟩:=by exact rfl)(kc:f=true->fc=true:=by exact bw)(ka:f=true->t=true->fa=true:=by intro h1 h2;first|(rw[h2];exact rfl)|(rw[h2,h1];rfl)|(rw[h1,h2];rfl)|simp_all):aB Y draw (⟨.pick c a (.c (.bool false)),g⟩::r) env rs nx m K:=
 bz rfl hg _ (λhf=>by simp only[az.eL,hc,ha];exact⟨kc hf,λe=>ka hf e,λ_=>rfl⟩) (λhf=>by simp only[az.val,hc,ha];cases t<;>rfl) (λ_=>h)
def kT (h:aB Y draw r env (⟨f,.int .i64 (a+b)⟩::rs) nx m K)(hg:GF rs g f:=by exact cz)(hx:bS env rs x=⟨fx,.int .i64 a⟩:=by exact rfl)(hy:bS env rs y=⟨fy,.int .i64 b⟩:=by exact rfl)(kx:f=true->fx=true:=by exact bw)(ky:f=true->fy=true:=by exact bw)(hb:f=true->-9223372036854775808<=a+b/\a+b<=9223372036854775807:=by exact IX):aB Y draw (⟨.bin .add x y,g⟩::r) env rs nx m K:=
 bz rfl hg _ (λhf=>gH) (λhf=>Ri) (λha=>h)
def DB {k:IntKind}(v:Int)(h:aB Y draw r env (⟨f,.int k v⟩::rs) nx m K)(hg:GF rs g f:=by exact cz)(hx:bS env rs x=⟨fx,.int k a⟩:=by exact rfl)(hy:bS env rs y=⟨fy,.int k b⟩:=by exact rfl)(kx:f=true->fx=true:=by exact bw)(ky:f=true->fy=true:=by exact bw)(hb:f=true->k.wrap (a+b)=v):aB Y draw (⟨.bin .add x y,g⟩::r) env rs nx m K:=
 bz rfl hg _ (λhf=>gH) (λhf=>pC) (λha=>h)
def xN (h:aB Y draw r env (⟨f,.int .i64 (a-b)⟩::rs) nx m K)(hg:GF rs g f:=by exact cz)(hx:bS env rs x=⟨fx,.int .i64 a⟩:=by exact rfl)(hy:bS env rs y=⟨fy,.int .i64 b⟩:=by exact rfl)(kx:f=true->fx=true:=by exact bw)(ky:f=true->fy=true:=by exact bw)(hb:f=true->-9223372036854775808<=a-b/\a-b<=9223372036854775807:=by exact IX):aB Y draw (⟨.bin .sub x y,g⟩::r) env rs nx m K:=
 bz rfl hg _ (λhf=>gH) (λhf=>Ri) (λha=>h)
def vW {k:IntKind}(v:Int)(h:aB Y draw r env (⟨f,.int k v⟩::rs) nx m K)(hg:GF rs g f:=by exact cz)(hx:bS env rs x=⟨fx,.int k a⟩:=by exact rfl)(hy:bS env rs y=⟨fy,.int k b⟩:=by exact rfl)(kx:f=true->fx=true:=by exact bw)(ky:f=true->fy=true:=by exact bw)(hb:f=true->k.wrap (a-b)=v):aB Y draw (⟨.bin .sub x y,g⟩::r) env rs nx m K:=
 bz rfl hg _ (λhf=>gH) (λhf=>pC) (λha=>h)
def qU (h:aB Y draw r env (⟨f,.int .i64 (a*b)⟩::rs) nx m K)(hg:GF rs g f:=by exact cz)(hx:bS env rs x=⟨fx,.int .i64 a⟩:=by exact rfl)(hy:bS env rs y=⟨fy,.int .i64 b⟩:=by exact rfl)(kx:f=true->fx=true:=by exact bw)(ky:f=true->fy=true:=by exact bw)(hb:f=true->-9223372036854775808<=a*b/\a*b<=9223372036854775807:=by exact IX):aB Y draw (⟨.bin .mul x y,g⟩::r) env rs nx m K:=
 bz rfl hg _ (λhf=>gH) (λhf=>Ri) (λha=>h)
def ZK {k:IntKind}(v:Int)(h:aB Y draw r env (⟨f,.int k v⟩::rs) nx m K)(hg:GF rs g f:=by exact cz)(hx:bS env rs x=⟨fx,.int k a⟩:=by exact rfl)(hy:bS env rs y=⟨fy,.int k b⟩:=by exact rfl)(kx:f=true->fx=true:=by exact bw)(ky:f=true->fy=true:=by exact bw)(hb:f=true->k.wrap (a*b)=v):aB Y draw (⟨.bin .mul x y,g⟩::r) env rs nx m K:=
 bz rfl hg _ (λhf=>gH) (λhf=>pC) (λha=>h)
def r_quo {k:IntKind}(v:Int)(h:aB Y draw r env (⟨f,.int k v⟩::rs) nx m K)(hg:GF rs g f:=by exact cz)(hx:bS env rs x=⟨fx,.int k a⟩:=by exact rfl)(hy:bS env rs y=⟨fy,.int k b⟩:=by exact rfl)(kx:f=true->fx=true:=by exact bw)(ky:f=true->fy=true:=by exact bw)(hn:f=true->b≠0)(hb:f=true->k.wrap (a.tdiv b)=v):aB Y draw (⟨.bin .quo x y,g⟩::r) env rs nx m K:=
 bz rfl hg _ (λhf=>K2) (λhf=>pC) (λha=>h)
def AD {k:IntKind}(v:Int)(h:aB Y draw r env (⟨f,.int k v⟩::rs) nx m K)(hg:GF rs g f:=by exact cz)(hx:bS env rs x=⟨fx,.int k a⟩:=by exact rfl)(hy:bS env rs y=⟨fy,.int k b⟩:=by exact rfl)(kx:f=true->fx=true:=by exact bw)(ky:f=true->fy=true:=by exact bw)(hn:f=true->b≠0)(hb:f=true->a.tmod b=v):aB Y draw (⟨.bin .rem x y,g⟩::r) env rs nx m K:=
 bz rfl hg _ (λhf=>K2) (λhf=>pC) (λha=>h)
def AE {k:IntKind}(v:Int)(h:aB Y draw r env (⟨f,.int k v⟩::rs) nx m K)(hg:GF rs g f:=by exact cz)(hx:bS env rs x=⟨fx,.int k a⟩:=by exact rfl)(hy:bS env rs y=⟨fy,.int k2 b⟩:=by exact rfl)(kx:f=true->fx=true:=by exact bw)(ky:f=true->fy=true:=by exact bw)(hn:f=true->0<=b:=by exact rr)(hb:f=true->k.wrap (a*2^(min b.toNat k.bits))=v):aB Y draw (⟨.bin .shl x y,g⟩::r) env rs nx m K:=
 bz rfl hg _ (λhf=>K2) (λhf=>pC) (λha=>h)
def Gq {k:IntKind}(v:Int)(h:aB Y draw r env (⟨f,.int k v⟩::rs) nx m K)(hg:GF rs g f:=by exact cz)(hx:bS env rs x=⟨fx,.int k a⟩:=by exact rfl)(hy:bS env rs y=⟨fy,.int k2 b⟩:=by exact rfl)(kx:f=true->fx=true:=by exact bw)(ky:f=true->fy=true:=by exact bw)(hn:f=true->0<=b:=by exact rr)(hb:f=true->a.fdiv (2^(min b.toNat k.bits))=v):aB Y draw (⟨.bin .shr x y,g⟩::r) env rs nx m K:=
 bz rfl hg _ (λhf=>K2) (λhf=>pC) (λha=>h)
def vV {k:IntKind}(v:Int)(h:aB Y draw r env (⟨f,.int k v⟩::rs) nx m K)(hg:GF rs g f:=by exact cz)(hx:bS env rs x=⟨fx,.int k a⟩:=by exact rfl)(hy:bS env rs y=⟨fy,.int k b⟩:=by exact rfl)(kx:f=true->fx=true:=by exact bw)(ky:f=true->fy=true:=by exact bw)(hb:f=true->k.wrap (((BitVec.ofInt k.bits a)&&&(BitVec.ofInt k.bits b)).toNat)=v):aB Y draw (⟨.bin .and x y,g⟩::r) env rs nx m K:=
 bz rfl hg _ (λhf=>gH) (λhf=>pC) (λha=>h)
def SD {k:IntKind}(v:Int)(h:aB Y draw r env (⟨f,.int k v⟩::rs) nx m K)(hg:GF rs g f:=by exact cz)(hx:bS env rs x=⟨fx,.int k a⟩:=by exact rfl)(hy:bS env rs y=⟨fy,.int k b⟩:=by exact rfl)(kx:f=true->fx=true:=by exact bw)(ky:f=true->fy=true:=by exact bw)(hb:f=true->k.wrap (((BitVec.ofInt k.bits a) |||(BitVec.ofInt k.bits b)).toNat)=v):aB Y draw (⟨.bin .or x y,g⟩::r) env rs nx m K:=
 bz rfl hg _ (λhf=>gH) (λhf=>pC) (λha=>h)
def Ia {k:IntKind}(v:Int)(h:aB Y draw r env (⟨f,.int k v⟩::rs) nx m K)(hg:GF rs g f:=by exact cz)(hx:bS env rs x=⟨fx,.int k a⟩:=by exact rfl)(hy:bS env rs y=⟨fy,.int k b⟩:=by exact rfl)(kx:f=true->fx=true:=by exact bw)(ky:f=true->fy=true:=by exact bw)(hb:f=true->k.wrap (((BitVec.ofInt k.bits a)^^^(BitVec.ofInt k.bits b)).toNat)=v):aB Y draw (⟨.bin .xor x y,g⟩::r) env rs nx m K:=
 bz rfl hg _ (λhf=>gH) (λhf=>pC) (λha=>h)
def DH {k:IntKind}(h:aB Y draw r env (⟨f,.bool (decide (a<b))⟩::rs) nx m K)(hg:GF rs g f:=by exact cz)(hx:bS env rs x=⟨fx,.int k a⟩:=by exact rfl)(hy:bS env rs y=⟨fy,.int k b⟩:=by exact rfl)(kx:f=true->fx=true:=by exact bw)(ky:f=true->fy=true:=by exact bw):aB Y draw (⟨.bin .lss x y,g⟩::r) env rs nx m K:=
 bz rfl hg _ (λhf=>gH) (λhf=>zT) (λha=>h)
def ZI {k:IntKind}(h:aB Y draw r env (⟨f,.bool (decide (a<=b))⟩::rs) nx m K)(hg:GF rs g f:=by exact cz)(hx:bS env rs x=⟨fx,.int k a⟩:=by exact rfl)(hy:bS env rs y=⟨fy,.int k b⟩:=by exact rfl)(kx:f=true->fx=true:=by exact bw)(ky:f=true->fy=true:=by exact bw):aB Y draw (⟨.bin .leq x y,g⟩::r) env rs nx m K:=
 bz rfl hg _ (λhf=>gH) (λhf=>zT) (λha=>h)
def oa {k:IntKind}(h:aB Y draw r env (⟨f,.bool (decide (b<a))⟩::rs) nx m K)(hg:GF rs g f:=by exact cz)(hx:bS env rs x=⟨fx,.int k a⟩:=by exact rfl)(hy:bS env rs y=⟨fy,.int k b⟩:=by exact rfl)(kx:f=true->fx=true:=by exact bw)(ky:f=true->fy=true:=by exact bw):aB Y draw (⟨.bin .gtr x y,g⟩::r) env rs nx m K:=
 bz rfl hg _ (λhf=>gH) (λhf=>zT) (λha=>h)
def PY {k:IntKind}(h:aB Y draw r env (⟨f,.bool (decide (b<=a))⟩::rs) nx m K)(hg:GF rs g f:=by exact cz)(hx:bS env rs x=⟨fx,.int k a⟩:=by exact rfl)(hy:bS env rs y=⟨fy,.int k b⟩:=by exact rfl)(kx:f=true->fx=true:=by exact bw)(ky:f=true->fy=true:=by exact bw):aB Y draw (⟨.bin .geq x y,g⟩::r) env rs nx m K:=
 bz rfl hg _ (λhf=>gH) (λhf=>zT) (λha=>h)
def zp {k:IntKind}(h:aB Y draw r env (⟨f,.bool (decide (a=b))⟩::rs) nx m K)(hg:GF rs g f:=by exact cz)(hx:bS env rs x=⟨fx,.int k a⟩:=by exact rfl)(hy:bS env rs y=⟨fy,.int k b⟩:=by exact rfl)(kx:f=true->fx=true:=by exact bw)(ky:f=true->fy=true:=by exact bw):aB Y draw (⟨.bin .eql x y,g⟩::r) env rs nx m K:=
 bz rfl hg _ (λhf=>gH) (λhf=>zT) (λha=>h)
def po {k:IntKind}(h:aB Y draw r env (⟨f,.bool (!decide (a=b))⟩::rs) nx m K)(hg:GF rs g f:=by exact cz)(hx:bS env rs x=⟨fx,.int k a⟩:=by exact rfl)(hy:bS env rs y=⟨fy,.int k b⟩:=by exact rfl)(kx:f=true->fx=true:=by exact bw)(ky:f=true->fy=true:=by exact bw):aB Y draw (⟨.bin .neq x y,g⟩::r) env rs nx m K:=
 bz rfl hg _ (λhf=>gH) (λhf=>zT) (λha=>h)
def ak9 {a b:List UInt8}(h:aB Y draw r env (⟨f,.bool (Op.bytesLess a b)⟩::rs) nx m K)(hg:GF rs g f:=by exact cz)(hx:bS env rs x=⟨fx,.str a⟩:=by exact rfl)(hy:bS env rs y=⟨fy,.str b⟩:=by exact rfl)(kx:f=true->fx=true:=by exact bw)(ky:f=true->fy=true:=by exact bw):aB Y draw (⟨.bin .lss x y,g⟩::r) env rs nx m K:=
 bz rfl hg _ (λhf=>gH) (λhf=>zS) (λha=>h)
def ak8 {a b:List UInt8}(h:aB Y draw r env (⟨f,.bool (Op.bytesLess a b ||decide (a=b))⟩::rs) nx m K)(hg:GF rs g f:=by exact cz)(hx:bS env rs x=⟨fx,.str a⟩:=by exact rfl)(hy:bS env rs y=⟨fy,.str b⟩:=by exact rfl)(kx:f=true->fx=true:=by exact bw)(ky:f=true->fy=true:=by exact bw):aB Y draw (⟨.bin .leq x y,g⟩::r) env rs nx m K:=
 bz rfl hg _ (λhf=>gH) (λhf=>zS) (λha=>h)
def ak0 {a b:List UInt8}(h:aB Y draw r env (⟨f,.bool (!(Op.bytesLess a b ||decide (a=b)))⟩::rs) nx m K)(hg:GF rs g f:=by exact cz)(hx:bS env rs x=⟨fx,.str a⟩:=by exact rfl)(hy:bS env rs y=⟨fy,.str b⟩:=by exact rfl)(kx:f=true->fx=true:=by exact bw)(ky:f=true->fy=true:=by exact bw):aB Y draw (⟨.bin .gtr x y,g⟩::r) env rs nx m K:=
 bz rfl hg _ (λhf=>gH) (λhf=>zS) (λha=>h)
def ZD {a b:List UInt8}(h:aB Y draw r env (⟨f,.bool (!Op.bytesLess a b)⟩::rs) nx m K)(hg:GF rs g f:=by exact cz)(hx:bS env rs x=⟨fx,.str a⟩:=by exact rfl)(hy:bS env rs y=⟨fy,.str b⟩:=by exact rfl)(kx:f=true->fx=true:=by exact bw)(ky:f=true->fy=true:=by exact bw):aB Y draw (⟨.bin .geq x y,g⟩::r) env rs nx m K:=
 bz rfl hg _ (λhf=>gH) (λhf=>zS) (λha=>h)
def PX {a b:List UInt8}(h:aB Y draw r env (⟨f,.bool (decide (a=b))⟩::rs) nx m K)(hg:GF rs g f:=by exact cz)(hx:bS env rs x=⟨fx,.str a⟩:=by exact rfl)(hy:bS env rs y=⟨fy,.str b⟩:=by exact rfl)(kx:f=true->fx=true:=by exact bw)(ky:f=true->fy=true:=by exact bw):aB Y draw (⟨.bin .eql x y,g⟩::r) env rs nx m K:=
 bz rfl hg _ (λhf=>gH) (λhf=>zS) (λha=>h)
def ZL {a b:List UInt8}(h:aB Y draw r env (⟨f,.bool (!decide (a=b))⟩::rs) nx m K)(hg:GF rs g f:=by exact cz)(hx:bS env rs x=⟨fx,.str a⟩:=by exact rfl)(hy:bS env rs y=⟨fy,.str b⟩:=by exact rfl)(kx:f=true->fx=true:=by exact bw)(ky:f=true->fy=true:=by exact bw):aB Y draw (⟨.bin .neq x y,g⟩::r) env rs nx m K:=
 bz rfl hg _ (λhf=>gH) (λhf=>zS) (λha=>h)
def zn {a b:List UInt8}(h:aB Y draw r env (⟨f,.str (a++b)⟩::rs) nx m K)(hg:GF rs g f:=by exact cz)(hx:bS env rs x=⟨fx,.str a⟩:=by exact rfl)(hy:bS env rs y=⟨fy,.str b⟩:=by exact rfl)(kx:f=true->fx=true:=by exact bw)(ky:f=true->fy=true:=by exact bw)(hb:f=true->a.length+b.length<=9223372036854775807):aB Y draw (⟨.bin .add x y,g⟩::r) env rs nx m K:=
 bz rfl hg _ (λhf=>by simp[az.eL,hx,hy,kx hf,ky hf,Ba,hb hf]) (λhf=>by simp only[az.val,hx,hy,E9]) (λha=>h)
def r_eqP {ag:Bool}{ks:List CK}{a b:D}{v:Bool}(h:aB Y draw r env (⟨f,.bool (v)⟩::rs) nx m K)(hb:gU a.cells b.cells=v)(hg:GF rs g f:=by exact cz)(hx:bS env rs x=⟨fx,a⟩:=by exact rfl)(hy:bS env rs y=⟨fy,b⟩:=by exact rfl)(kx:f=true->fx=true:=by exact bw)(ky:f=true->fy=true:=by exact bw)(h1:f=true->a.isAgg=ag/\b.isAgg=ag/\fH ks a.cells/\fH ks b.cells:=by exact uM):aB Y draw (⟨.eqA false ag ks x y,g⟩::r) env rs nx m K:=
 bz rfl hg _ (λhf=>abz) (λhf=>by simp only[az.val,hx,hy];rw[hb];rfl) (λha=>h)
def r_eqN {ag:Bool}{ks:List CK}{a b:D}{v:Bool}(h:aB Y draw r env (⟨f,.bool (!v)⟩::rs) nx m K)(hb:gU a.cells b.cells=v)(hg:GF rs g f:=by exact cz)(hx:bS env rs x=⟨fx,a⟩:=by exact rfl)(hy:bS env rs y=⟨fy,b⟩:=by exact rfl)(kx:f=true->fx=true:=by exact bw)(ky:f=true->fy=true:=by exact bw)(h1:f=true->a.isAgg=ag/\b.isAgg=ag/\fH ks a.cells/\fH ks b.cells:=by exact uM):aB Y draw (⟨.eqA true ag ks x y,g⟩::r) env rs nx m K:=
 bz rfl hg _ (λhf=>abz) (λhf=>by simp only[az.val,hx,hy];rw[hb];rfl) (λha=>h)
def m5 {k:IntKind}(v:Int)(h:aB Y draw r env (⟨f,.int k v⟩::rs) nx m K)(hg:GF rs g f:=by exact cz)(hx:bS env rs x=⟨fx,.int k2 a⟩:=by exact rfl)(kx:f=true->fx=true:=by exact bw)(hb:f=true->k.wrap a=v):aB Y draw (⟨.cvi k x,g⟩::r) env rs nx m K:=
 bz rfl hg _ (λhf=>ow) (λhf=>by simp only[az.val,hx];rw[hb hf]) (λha=>h)
def DG {s:List UInt8}(h:(f=true->draw=false->s.length<=9223372036854775807)->aB Y draw r env (⟨f,.int .i64 s.length⟩::rs) nx m K)(hg:GF rs g f:=by exact cz)(hx:bS env rs x=⟨fx,.str s⟩:=by exact rfl)(kx:f=true->fx=true:=by exact bw):aB Y draw (⟨.lenS x,g⟩::r) env rs nx m K:=
 bz rfl hg _ (λhf=>ow) (λhf=>pE) (λha=>h (λhf hd=>Rl))
def P1 {q:α->D}{xs:List α}(h:(f=true->draw=false->xs.length<=9223372036854775807)->aB Y draw r env (⟨f,.int .i64 xs.length⟩::rs) nx m K)(hg:GF rs g f:=by exact cz)(hx:bS env rs x=⟨fx,.sl k (xs.map q)⟩:=by exact rfl)(kx:f=true->fx=true:=by exact bw):aB Y draw (⟨.len x,g⟩::r) env rs nx m K:=
 bz rfl hg _ (λhf=>ow) (λhf=>pE) (λha=>h (λhf hd=>Rl))
def P2 {i:Nat}(h:(f=true->draw=false->n<=9223372036854775807)->aB Y draw r env (⟨f,.int .i64 n⟩::rs) nx m K)(hg:GF rs g f:=by exact cz)(hx:bS env rs x=⟨fx,.own l k i n⟩:=by exact rfl)(kx:f=true->fx=true:=by exact bw):aB Y draw (⟨.len x,g⟩::r) env rs nx m K:=
 bz rfl hg _ (λhf=>ow) (λhf=>pE) (λha=>h (λhf hd=>Rl))
def ak7 (h:aB Y draw r env (⟨f,.int .i64 0⟩::rs) nx m K)(hg:GF rs g f:=by exact cz)(hx:bS env rs x=⟨fx,.aR⟩:=by exact rfl)(kx:f=true->fx=true:=by exact bw):aB Y draw (⟨.len x,g⟩::r) env rs nx m K:=
 bz rfl hg _ (λhf=>ow) (λhf=>pE) (λha=>h)
def P3 {i o:Nat}(h:aB Y draw r env (⟨f,.ptr l k i o⟩::rs) nx m K)(hg:GF rs g f:=by exact cz)(hx:bS env rs x=⟨fx,.ptr l k i o⟩:=by exact rfl)(kx:f=true->fx=true:=by exact bw):aB Y draw (⟨.nilck x,g⟩::r) env rs nx m K:=
 bz rfl hg _ (λhf=>ow) (λhf=>pE) (λha=>h)
def zt {i o:Nat}{es:List D}(h:aB Y draw r env (⟨f,.ref k es i o⟩::rs) nx m K)(hg:GF rs g f:=by exact cz)(hx:bS env rs x=⟨fx,.ref k es i o⟩:=by exact rfl)(kx:f=true->fx=true:=by exact bw):aB Y draw (⟨.nilck x,g⟩::r) env rs nx m K:=
 bz rfl hg _ (λhf=>ow) (λhf=>pE) (λha=>h)
def rM {off i o:Nat}(h:aB Y draw r env (⟨f,.ptr l k i (o+off)⟩::rs) nx m K)(hg:GF rs g f:=by exact cz)(hx:bS env rs x=⟨fx,.ptr l k i o⟩:=by exact rfl)(kx:f=true->fx=true:=by exact bw):aB Y draw (⟨.fa off x,g⟩::r) env rs nx m K:=
 bz rfl hg _ (λhf=>ow) (λhf=>pE) (λha=>h)
def qa {off i o:Nat}{es:List D}(h:aB Y draw r env (⟨f,.ref k es i (o+off)⟩::rs) nx m K)(hg:GF rs g f:=by exact cz)(hx:bS env rs x=⟨fx,.ref k es i o⟩:=by exact rfl)(kx:f=true->fx=true:=by exact bw):aB Y draw (⟨.fa off x,g⟩::r) env rs nx m K:=
 bz rfl hg _ (λhf=>ow) (λhf=>pE) (λha=>h)
def cC {q:α->D}{xs:List α}{i:Int}(j:Nat)(h:aB Y draw r env (⟨f,.ref k (xs.map q) j 0⟩::rs) nx m K)(hg:GF rs g f:=by exact cz)(hx:bS env rs x=⟨fx,.sl k (xs.map q)⟩:=by exact rfl)(hy:bS env rs y=⟨fy,.int kk i⟩:=by exact rfl)(kx:f=true->fx=true:=by exact bw)(ky:f=true->fy=true:=by exact bw)(hj:f=true->i=(j:Int):=by exact tf)(hb:f=true->j<xs.length:=by exact rr):aB Y draw (⟨.ia k x y,g⟩::r) env rs nx m K:=
 bz rfl hg _ (λhf=>by simp only[az.eL,hx,hy,bh];exact⟨kx hf,ky hf,trivial,KO,Rh⟩) (λhf=>E1) (λha=>h)
def DC {i:Int}(j:Nat)(h:aB Y draw r env (⟨f,.ptr l k (i0+j) 0⟩::rs) nx m K)(hg:GF rs g f:=by exact cz)(hx:bS env rs x=⟨fx,.own l k i0 n⟩:=by exact rfl)(hy:bS env rs y=⟨fy,.int kk i⟩:=by exact rfl)(kx:f=true->fx=true:=by exact bw)(ky:f=true->fy=true:=by exact bw)(hj:f=true->i=(j:Int):=by exact tf)(hb:f=true->j<n:=by exact rr):aB Y draw (⟨.ia k x y,g⟩::r) env rs nx m K:=
 bz rfl hg _ (λhf=>by simp only[az.eL,hx,hy];exact⟨kx hf,ky hf,trivial,KO,Rh⟩) (λhf=>E1) (λha=>h)
def DE {k2 o:Nat}{i:Int}(j:Nat)(h:aB Y draw r env (⟨f,.ptr l k2 i0 (o+j*k)⟩::rs) nx m K)(hg:GF rs g f:=by exact cz)(hx:bS env rs x=⟨fx,.ptr l k2 i0 o⟩:=by exact rfl)(hy:bS env rs y=⟨fy,.int kk i⟩:=by exact rfl)(kx:f=true->fx=true:=by exact bw)(ky:f=true->fy=true:=by exact bw)(hj:f=true->i=(j:Int):=by exact tf)(hb:f=true->j<n:=by exact rr):aB Y draw (⟨.iaP n k x y,g⟩::r) env rs nx m K:=
 bz rfl hg _ (λhf=>Ra) (λhf=>E1) (λha=>h)
def PZ {k2 o:Nat}{es:List D}{i:Int}(j:Nat)(h:aB Y draw r env (⟨f,.ref k2 es i0 (o+j*k)⟩::rs) nx m K)(hg:GF rs g f:=by exact cz)(hx:bS env rs x=⟨fx,.ref k2 es i0 o⟩:=by exact rfl)(hy:bS env rs y=⟨fy,.int kk i⟩:=by exact rfl)(kx:f=true->fx=true:=by exact bw)(ky:f=true->fy=true:=by exact bw)(hj:f=true->i=(j:Int):=by first|exact λ_=>rfl|(intro _;omega))(hb:f=true->j<n:=by intro _;omega):aB Y draw (⟨.iaP n k x y,g⟩::r) env rs nx m K:=
 bz rfl hg _ (λhf=>Ra) (λhf=>E1) (λha=>h)
def AB {s:List UInt8}{i:Int}(j:Nat)(h:aB Y draw r env (⟨f,.int .u8 (at8 s j)⟩::rs) nx m K)(hg:GF rs g f:=by exact cz)(hx:bS env rs x=⟨fx,.str s⟩:=by exact rfl)(hy:bS env rs y=⟨fy,.int kk i⟩:=by exact rfl)(kx:f=true->fx=true:=by exact bw)(ky:f=true->fy=true:=by exact bw)(hj:f=true->i=(j:Int):=by exact tf)(hb:f=true->j<s.length:=by exact rr):aB Y draw (⟨.ixS x y,g⟩::r) env rs nx m K:=
 bz rfl hg _ (λhf=>Ra) (λhf=>E1) (λha=>h)
def af8 {ag:Bool}{cs:List D}{i:Int}(j:Nat)(v:D)(h:aB Y draw r env (⟨f,v⟩::rs) nx m K)(hg:GF rs g f:=by exact cz)(hx:bS env rs x=⟨fx,.agg cs⟩:=by exact rfl)(hy:bS env rs y=⟨fy,.int kk i⟩:=by exact rfl)(kx:f=true->fx=true:=by exact bw)(ky:f=true->fy=true:=by exact bw)(hj:f=true->i=(j:Int):=by exact tf)(hb:f=true->j<n:=by exact rr)(hl:cs.length=n*k:=by exact rfl)(h1:ag=false->k=1:=by intro h;first|exact rfl|cases h)(hv:f=true->cut cs (j*k) k ag=v):aB Y draw (⟨.ixA n k ag x y,g⟩::r) env rs nx m K:=
 bz rfl hg _ (λhf=>by simp only[az.eL,hx,hy];exact⟨kx hf,ky hf,h1,KO,Rh,hl⟩) (λhf=>by simp only[az.val,hx,hy];rw[<-hv hf,hj hf];rfl) (λha=>h)
def ak1 {q:α->D}{xs:List α}{i:Int}(h:aB Y draw r env (⟨f,.ref k (xs.map q) i.toNat 0⟩::rs) nx m K)(hg:GF rs g f:=by exact cz)(hx:bS env rs x=⟨fx,.sl k (xs.map q)⟩:=by exact rfl)(hy:bS env rs y=⟨fy,.int kk i⟩:=by exact rfl)(kx:f=true->fx=true:=by exact bw)(ky:f=true->fy=true:=by exact bw)(hb:f=true->0<=i/\i<(xs.length:Nat):=by exact IX):aB Y draw (⟨.ia k x y,g⟩::r) env rs nx m K:=
 bz rfl hg _ (λhf=>by simp only[az.eL,hx,hy,bh];exact⟨kx hf,ky hf,trivial,(hb hf).1,(hb hf).2⟩) (λhf=>by simp only[az.val,hx,hy]<;>rfl) (λha=>h)
def ak2 {i:Int}(h:aB Y draw r env (⟨f,.ptr l k (i0+i.toNat) 0⟩::rs) nx m K)(hg:GF rs g f:=by exact cz)(hx:bS env rs x=⟨fx,.own l k i0 n⟩:=by exact rfl)(hy:bS env rs y=⟨fy,.int kk i⟩:=by exact rfl)(kx:f=true->fx=true:=by exact bw)(ky:f=true->fy=true:=by exact bw)(hb:f=true->0<=i/\i<(n:Nat):=by exact IX):aB Y draw (⟨.ia k x y,g⟩::r) env rs nx m K:=
 bz rfl hg _ (λhf=>by simp only[az.eL,hx,hy,bh];exact⟨kx hf,ky hf,trivial,(hb hf).1,(hb hf).2⟩) (λhf=>by simp only[az.val,hx,hy]<;>rfl) (λha=>h)
def ZF {s:List UInt8}{i:Int}(h:aB Y draw r env (⟨f,.int .u8 (at8 s i.toNat)⟩::rs) nx m K)(hg:GF rs g f:=by exact cz)(hx:bS env rs x=⟨fx,.str s⟩:=by exact rfl)(hy:bS env rs y=⟨fy,.int kk i⟩:=by exact rfl)(kx:f=true->fx=true:=by exact bw)(ky:f=true->fy=true:=by exact bw)(hb:f=true->0<=i/\i<(s.length:Nat):=by exact IX):aB Y draw (⟨.ixS x y,g⟩::r) env rs nx m K:=
 bz rfl hg _ (λhf=>by simp only[az.eL,hx,hy,bh];exact⟨kx hf,ky hf,(hb hf).1,(hb hf).2⟩) (λhf=>by simp only[az.val,hx,hy]<;>rfl) (λha=>h)
def M5 {s:List UInt8}(i:Nat)(h:aB Y draw r env (⟨f,.str (s.drop i)⟩::rs) nx m K)(hg:GF rs g f:=by exact cz)(hx:bS env rs x=⟨fx,.str s⟩:=by exact rfl)(hy:bS env rs y=⟨fy,.int k2 a⟩:=by exact rfl)(kx:f=true->fx=true:=by exact bw)(ky:f=true->fy=true:=by exact bw)(hi:f=true->a=(i:Int):=by exact tf)(hb:f=true->i<=s.length:=by exact rr):aB Y draw (⟨.slS x (some y) none,g⟩::r) env rs nx m K:=
 bz rfl hg _ (λhf=>by simp only[az.eL,MF,dO,hx,hy];have:=hb hf;have:=hi hf;refine⟨kx hf,ky hf,trivial, ?_⟩;simp only[nq,ef,ee,dE,Int.ofNat_eq_natCast];omega) (λhf=>by simp only[az.val,dO,ef,hx,hy];rw[hi hf];simp) (λha=>h)
def DJ {q:α->D}{s:List α}(i:Nat)(h:aB Y draw r env (⟨f,.sl k ((s.drop i).map q)⟩::rs) nx m K)(hg:GF rs g f:=by exact cz)(hx:bS env rs x=⟨fx,.sl k (s.map q)⟩:=by exact rfl)(hy:bS env rs y=⟨fy,.int k2 a⟩:=by exact rfl)(kx:f=true->fx=true:=by exact bw)(ky:f=true->fy=true:=by exact bw)(hi:f=true->a=(i:Int):=by exact tf)(hb:f=true->i<=s.length:=by exact rr):aB Y draw (⟨.slA k x (some y) none,g⟩::r) env rs nx m K:=
 bz rfl hg _ (λhf=>by simp only[az.eL,MF,dO,hx,hy,bh];have:=hb hf;have:=hi hf;refine⟨kx hf,ky hf,trivial,trivial, ?_⟩;simp only[nq,ef,ee,dE,Int.ofNat_eq_natCast];omega) (λhf=>by simp only[az.val,dO,ef,hx,hy];rw[hi hf];first|(simp only[List.take_length,Int.toNat_natCast,List.map_drop];done)|simp[List.map_drop,List.map_take]) (λha=>h)
def M3 (i:Nat)(h:aB Y draw r env (⟨f,.own l k (i0+i) (n-i)⟩::rs) nx m K)(hg:GF rs g f:=by exact cz)(hx:bS env rs x=⟨fx,.own l k i0 n⟩:=by exact rfl)(hy:bS env rs y=⟨fy,.int k2 a⟩:=by exact rfl)(kx:f=true->fx=true:=by exact bw)(ky:f=true->fy=true:=by exact bw)(hi:f=true->a=(i:Int):=by exact tf)(hb:f=true->i<=n:=by exact rr):aB Y draw (⟨.slA k x (some y) none,g⟩::r) env rs nx m K:=
 bz rfl hg _ (λhf=>by simp only[az.eL,MF,dO,hx,hy];have:=hb hf;have:=hi hf;refine⟨kx hf,ky hf,trivial,trivial, ?_⟩;simp only[nq,ef,ee,dE,Int.ofNat_eq_natCast];omega) (λhf=>by simp only[az.val,dO,ef,hx,hy];rw[hi hf];simp) (λha=>h)
def M4 {fz:Bool}{s:List UInt8}(j:Nat)(h:aB Y draw r env (⟨f,.str (s.take j)⟩::rs) nx m K)(hg:GF rs g f:=by exact cz)(hx:bS env rs x=⟨fx,.str s⟩:=by exact rfl)(hz:bS env rs z=⟨fz,.int k3 c⟩:=by exact rfl)(kx:f=true->fx=true:=by exact bw)(kz:f=true->fz=true:=by exact bw)(hj:f=true->c=(j:Int):=by exact tf)(hb:f=true->j<=s.length:=by exact rr):aB Y draw (⟨.slS x none (some z),g⟩::r) env rs nx m K:=
 bz rfl hg _ (λhf=>by simp only[az.eL,MF,dO,hx,hz];have:=hb hf;have:=hj hf;refine⟨kx hf,trivial,kz hf, ?_⟩;simp only[nq,ef,ee,dE,Int.ofNat_eq_natCast];omega) (λhf=>by simp only[az.val,dO,ef,hx,hz];rw[hj hf];simp) (λha=>h)
def ZN {fz:Bool}{q:α->D}{s:List α}(j:Nat)(h:aB Y draw r env (⟨f,.sl k ((s.take j).map q)⟩::rs) nx m K)(hg:GF rs g f:=by exact cz)(hx:bS env rs x=⟨fx,.sl k (s.map q)⟩:=by exact rfl)(hz:bS env rs z=⟨fz,.int k3 c⟩:=by exact rfl)(kx:f=true->fx=true:=by exact bw)(kz:f=true->fz=true:=by exact bw)(hj:f=true->c=(j:Int):=by exact tf)(hb:f=true->j<=s.length:=by exact rr):aB Y draw (⟨.slA k x none (some z),g⟩::r) env rs nx m K:=
 bz rfl hg _ (λhf=>by simp only[az.eL,MF,dO,hx,hz,bh];have:=hb hf;have:=hj hf;refine⟨kx hf,trivial,kz hf,trivial, ?_⟩;simp only[nq,ef,ee,dE,Int.ofNat_eq_natCast];omega) (λhf=>by simp only[az.val,dO,ef,hx,hz];rw[hj hf];first|(simp only[List.take_length,Int.toNat_natCast,List.map_drop];done)|simp[List.map_drop,List.map_take]) (λha=>h)
def ZP {fz:Bool}(j:Nat)(h:aB Y draw r env (⟨f,.own l k i0 j⟩::rs) nx m K)(hg:GF rs g f:=by exact cz)(hx:bS env rs x=⟨fx,.own l k i0 n⟩:=by exact rfl)(hz:bS env rs z=⟨fz,.int k3 c⟩:=by exact rfl)(kx:f=true->fx=true:=by exact bw)(kz:f=true->fz=true:=by exact bw)(hj:f=true->c=(j:Int):=by exact tf)(hb:f=true->j<=n:=by exact rr):aB Y draw (⟨.slA k x none (some z),g⟩::r) env rs nx m K:=
 bz rfl hg _ (λhf=>by simp only[az.eL,MF,dO,hx,hz];have:=hb hf;have:=hj hf;refine⟨kx hf,trivial,kz hf,trivial, ?_⟩;simp only[nq,ef,ee,dE,Int.ofNat_eq_natCast];omega) (λhf=>by simp only[az.val,dO,ef,hx,hz];rw[hj hf];simp) (λha=>h)
def ZR {fz:Bool}{s:List UInt8}(i:Nat)(j:Nat)(h:aB Y draw r env (⟨f,.str ((s.take j).drop i)⟩::rs) nx m K)(hg:GF rs g f:=by exact cz)(hx:bS env rs x=⟨fx,.str s⟩:=by exact rfl)(hy:bS env rs y=⟨fy,.int k2 a⟩:=by exact rfl)(hz:bS env rs z=⟨fz,.int k3 c⟩:=by exact rfl)(kx:f=true->fx=true:=by exact bw)(ky:f=true->fy=true:=by exact bw)(kz:f=true->fz=true:=by exact bw)(hi:f=true->a=(i:Int):=by exact tf)(hj:f=true->c=(j:Int):=by exact tf)(hb:f=true->i<=j/\j<=s.length:=by exact IX):aB Y draw (⟨.slS x (some y) (some z),g⟩::r) env rs nx m K:=
 bz rfl hg _ (λhf=>by simp only[az.eL,MF,dO,hx,hy,hz];have:=hb hf;have:=hi hf;have:=hj hf;refine⟨kx hf,ky hf,kz hf, ?_⟩;simp only[nq,ef,ee,dE,Int.ofNat_eq_natCast];omega) (λhf=>by simp only[az.val,dO,ef,hx,hy,hz];rw[hi hf,hj hf];simp) (λha=>h)
def ZO {fz:Bool}{q:α->D}{s:List α}(i:Nat)(j:Nat)(h:aB Y draw r env (⟨f,.sl k (((s.take j).drop i).map q)⟩::rs) nx m K)(hg:GF rs g f:=by exact cz)(hx:bS env rs x=⟨fx,.sl k (s.map q)⟩:=by exact rfl)(hy:bS env rs y=⟨fy,.int k2 a⟩:=by exact rfl)(hz:bS env rs z=⟨fz,.int k3 c⟩:=by exact rfl)(kx:f=true->fx=true:=by exact bw)(ky:f=true->fy=true:=by exact bw)(kz:f=true->fz=true:=by exact bw)(hi:f=true->a=(i:Int):=by exact tf)(hj:f=true->c=(j:Int):=by exact tf)(hb:f=true->i<=j/\j<=s.length:=by exact IX):aB Y draw (⟨.slA k x (some y) (some z),g⟩::r) env rs nx m K:=
 bz rfl hg _ (λhf=>by simp only[az.eL,MF,dO,hx,hy,hz,bh];have:=hb hf;have:=hi hf;have:=hj hf;refine⟨kx hf,ky hf,kz hf,trivial, ?_⟩;simp only[nq,ef,ee,dE,Int.ofNat_eq_natCast];omega) (λhf=>by simp only[az.val,dO,ef,hx,hy,hz];rw[hi hf,hj hf];first|(simp only[List.take_length,Int.toNat_natCast,List.map_drop];done)|simp[List.map_drop,List.map_take]) (λha=>h)
def ZQ {fz:Bool}(i:Nat)(j:Nat)(h:aB Y draw r env (⟨f,.own l k (i0+i) (j-i)⟩::rs) nx m K)(hg:GF rs g f:=by exact cz)(hx:bS env rs x=⟨fx,.own l k i0 n⟩:=by exact rfl)(hy:bS env rs y=⟨fy,.int k2 a⟩:=by exact rfl)(hz:bS env rs z=⟨fz,.int k3 c⟩:=by exact rfl)(kx:f=true->fx=true:=by exact bw)(ky:f=true->fy=true:=by exact bw)(kz:f=true->fz=true:=by exact bw)(hi:f=true->a=(i:Int):=by exact tf)(hj:f=true->c=(j:Int):=by exact tf)(hb:f=true->i<=j/\j<=n:=by exact IX):aB Y draw (⟨.slA k x (some y) (some z),g⟩::r) env rs nx m K:=
 bz rfl hg _ (λhf=>by simp only[az.eL,MF,dO,hx,hy,hz];have:=hb hf;have:=hi hf;have:=hj hf;refine⟨kx hf,ky hf,kz hf,trivial, ?_⟩;simp only[nq,ef,ee,dE,Int.ofNat_eq_natCast];omega) (λhf=>by simp only[az.val,dO,ef,hx,hy,hz];rw[hi hf,hj hf];simp) (λha=>h)
def gw {i:Nat}{ds:List D}(v:D)(h:aB Y draw r env (⟨f,v⟩::rs) nx m K)(hg:GF rs g f:=by exact cz)(hx:bS env rs x=⟨fx,.tup ds⟩:=by exact rfl)(kx:f=true->fx=true:=by exact bw)(hv:f=true->ds.getD i .any=v:=by exact λ_=>rfl)(hb:f=true->i<ds.length:=by intro _;simp only[bH,b7];omega):aB Y draw (⟨.ext x i,g⟩::r) env rs nx m K:=
 bz rfl hg _ (λhf=>by simp only[az.eL,hx];exact⟨kx hf,hb hf⟩) (λhf=>by simp only[az.val,hx];exact hv hf) (λha=>h)
def cq {z:List D}(v:List D)(h:aB Y draw r env (⟨f,.agg v⟩::rs) nx m K)(hg:GF rs g f:=by exact cz)(hv:f=true->Cz (bS env rs) z ps=v:=by exact λ_=>rfl)(ho:f=true->Af (bS env rs) z.length ps:=by exact uM):aB Y draw (⟨.build z ps,g⟩::r) env rs nx m K:=
 bz rfl hg _ (λhf=>ho hf) (λhf=>by simp only[az.val];rw[hv hf]) (λ_=>h)
def aV {z:List D}(d:D)(h:aB Y draw r env (⟨f,d⟩::rs) nx m K)(hg:GF rs g f:=by exact cz)(hv:f=true->D.agg (Cz (bS env rs) z ps)=d:=by exact λ_=>rfl)(ho:f=true->Af (bS env rs) z.length ps:=by exact uM):aB Y draw (⟨.build z ps,g⟩::r) env rs nx m K:=
 bz rfl hg _ (λhf=>ho hf) (λhf=>by simp only[az.val];exact hv hf) (λ_=>h)
def ajT {e:D}{o:Nat}{ag:Bool}(h:e.isAgg=ag):kN e n n o ag=e:=by simp[kN,h]
def iF {ag:Bool}{d:D}(h:aB Y draw r env (⟨f,d⟩::rs) nx m K)(hg:GF rs g f:=by exact cz)(hx:bS env rs x=⟨fx,.ptr l n 0 0⟩:=by exact rfl)(kx:f=true->fx=true:=by exact bw)(hl:f=true->look m l=some (.buf n [d]):=by exact λ_=>rfl)(ha:f=true->d.isAgg=ag:=by exact λ_=>rfl):aB Y draw (⟨.ld n ag x,g⟩::r) env rs nx m K:=
 hJ rfl hg _ (λhf=>by simp only[az.eL,hx,Mg,ed,hl hf];exact⟨kx hf,⟨trivial,aF⟩,ae⟩) (λhf=>by simp only[az.val,hx,Mh,aL,hl hf,iR];exact ajT (ha hf)) m rfl (λha=>h)
def lz {o:Nat}{ag:Bool}{d:D}(v:D)(h:aB Y draw r env (⟨f,v⟩::rs) nx m K)(hg:GF rs g f:=by exact cz)(hx:bS env rs x=⟨fx,.ptr l k 0 o⟩:=by exact rfl)(kx:f=true->fx=true:=by exact bw)(hl:f=true->look m l=some (.buf k [d]):=by exact λ_=>rfl)(hv:f=true->kN d k n o ag=v:=by exact λ_=>rfl)(ho:o+n<=k:=by omega):aB Y draw (⟨.ld n ag x,g⟩::r) env rs nx m K:=
 hJ rfl hg _ (λhf=>by simp only[az.eL,hx,Mg,ed,hl hf];exact⟨kx hf,⟨trivial,aF⟩,ho⟩) (λhf=>Rk) m rfl (λha=>h)
def uZ [Inhabited α]{i o:Nat}{ag:Bool}{q:α->D}{xs:List α}(v:D)(h:aB Y draw r env (⟨f,v⟩::rs) nx m K)(hg:GF rs g f:=by exact cz)(hx:bS env rs x=⟨fx,.ptr l k i o⟩:=by exact rfl)(kx:f=true->fx=true:=by exact bw)(hl:f=true->look m l=some (.buf k (xs.map q)):=by exact λ_=>rfl)(hi:f=true->i<xs.length:=by exact rr)(hv:f=true->kN (q xs[i]!) k n o ag=v:=by exact λ_=>rfl)(ho:o+n<=k:=by omega):aB Y draw (⟨.ld n ag x,g⟩::r) env rs nx m K:=
 hJ rfl hg _ (λhf=>by simp only[az.eL,hx,Mg,ed,hl hf,bh];exact⟨kx hf,⟨trivial,by have:=hi hf;omega⟩,ho⟩) (λhf=>by simp only[az.val,hx,Mh,aL,hl hf];rw[getD_map (hi hf)];exact hv hf) m rfl (λha=>h)
def dm [Inhabited α]{i o:Nat}{ag:Bool}{q:α->D}{xs:List α}(v:D)(h:aB Y draw r env (⟨f,v⟩::rs) nx m K)(hg:GF rs g f:=by exact cz)(hx:bS env rs x=⟨fx,.ref k (xs.map q) i o⟩:=by exact rfl)(kx:f=true->fx=true:=by exact bw)(hi:f=true->i<xs.length:=by exact rr)(hv:f=true->kN (q xs[i]!) k n o ag=v:=by exact λ_=>rfl)(ho:o+n<=k:=by omega):aB Y draw (⟨.ld n ag x,g⟩::r) env rs nx m K:=
 hJ rfl hg _ (λhf=>Re) (λhf=>Rd) m rfl (λha=>h)
def ZG {i o:Nat}{ag:Bool}{es:List D}(v:D)(h:aB Y draw r env (⟨f,v⟩::rs) nx m K)(hg:GF rs g f:=by exact cz)(hx:bS env rs x=⟨fx,.ref k es i o⟩:=by exact rfl)(kx:f=true->fx=true:=by exact bw)(hi:f=true->i<es.length:=by intro _;simp only[bH,b7];omega)(hv:f=true->kN (es.getD i .any) k n o ag=v:=by exact λ_=>rfl)(ho:o+n<=k:=by omega):aB Y draw (⟨.ld n ag x,g⟩::r) env rs nx m K:=
 hJ rfl hg _ (λhf=>Rf) (λhf=>KL) m rfl (λha=>h)
def Ib [Inhabited α]{i o:Nat}{ag:Bool}{q:α->D}{xs:List α}(v:D)(h:aB Y draw r env (⟨f,v⟩::rs) nx m K)(hg:GF rs g f:=by exact cz)(hx:bS env rs x=⟨fx,.ref k (xs.map q) i o⟩:=by exact rfl)(kx:f=true->fx=true:=by exact bw)(hi:f=true->i<xs.length:=by exact rr)(hv:f=true->kN (q xs[i]!) k n o ag=v:=by exact λ_=>rfl)(ho:o+n<=k:=by omega):aB Y draw (⟨.ldI n ag x,g⟩::r) env rs nx m K:=
 bz rfl hg _ (λhf=>Re) (λhf=>Rd) (λha=>h)
def qT {i o:Nat}{ag:Bool}{es:List D}(v:D)(h:aB Y draw r env (⟨f,v⟩::rs) nx m K)(hg:GF rs g f:=by exact cz)(hx:bS env rs x=⟨fx,.ref k es i o⟩:=by exact rfl)(kx:f=true->fx=true:=by exact bw)(hi:f=true->i<es.length:=by intro _;simp only[bH,b7];omega)(hv:f=true->kN (es.getD i .any) k n o ag=v:=by exact λ_=>rfl)(ho:o+n<=k:=by omega):aB Y draw (⟨.ldI n ag x,g⟩::r) env rs nx m K:=
 bz rfl hg _ (λhf=>Rf) (λhf=>KL) (λha=>h)
def p9 {d:D}(h:aB Y draw r env (⟨f,.ptr L k 0 0⟩::rs) nx m2 K)(hg:GF rs g f:=by exact cz)(hx:bS env rs x=⟨fx,d⟩:=by exact rfl)(kx:f=true->fx=true:=by exact bw)(hc:d.cells.length=k:=by exact rfl)(hL:nx+rs.length=L:=by exact zL)(hm:dh m L (.buf k [d])=m2:=by simp only[dh,dd,Nat.reduceEqDiff,bo,a8,Nat.reduceAdd,reduceCtorEq];exact rfl):aB Y draw (⟨.box k x,g⟩::r) env rs nx m K:=
 hJ rfl hg _ (λhf=>by simp only[az.eL,hx];exact⟨kx hf,hc⟩) (λhf=>by simp only[az.val,hx,hL]) _ (by simp only[az.bR,hx,hL];exact hm) (λ_=>h)
def r_mkB (h:aB Y draw r env (⟨f,.ptr L 2 0 0⟩::rs) nx m2 K)(hg:GF rs g f:=by exact cz)(hL:nx+rs.length=L:=by exact zL)(hm:dh m L (.bld none 0 false)=m2:=by simp only[dh,dd,Nat.reduceEqDiff,bo,a8,Nat.reduceAdd,reduceCtorEq];exact rfl):aB Y draw (⟨.mkB,g⟩::r) env rs nx m K:=
 hJ rfl hg _ (λ_=>trivial) (λhf=>by simp only[az.val,hL]) _ (by simp only[az.bR,hL];exact hm) (λ_=>h)
def ZM {s:List UInt8}(h:aB Y draw r env (⟨f,.own L 1 0 s.length⟩::rs) nx m2 K)(hg:GF rs g f:=by exact cz)(hx:bS env rs x=⟨fx,.str s⟩:=by exact rfl)(kx:f=true->fx=true:=by exact bw)(hL:nx+rs.length=L:=by exact zL)(hm:dh m L (.buf 1 (s.map λb=>.int .u8 b.toNat))=m2:=by simp only[dh,dd,Nat.reduceEqDiff,bo,a8,Nat.reduceAdd,reduceCtorEq];exact rfl):aB Y draw (⟨.s2b x,g⟩::r) env rs nx m K:=
 hJ rfl hg _ (λhf=>by simp only[az.eL,hx];exact⟨kx hf,trivial⟩) (λhf=>by simp only[az.val,hx,hL]) _ (by simp only[az.bR,hx,hL];exact hm) (λ_=>h)
def r_rng {s:List UInt8}(h:aB Y draw r env (⟨f,.it L⟩::rs) nx m2 K)(hg:GF rs g f:=by exact cz)(hx:bS env rs x=⟨fx,.str s⟩:=by exact rfl)(kx:f=true->fx=true:=by exact bw)(hL:nx+rs.length=L:=by exact zL)(hm:dh m L (.iter s 0)=m2:=by simp only[dh,dd,Nat.reduceEqDiff,bo,a8,Nat.reduceAdd,reduceCtorEq];exact rfl):aB Y draw (⟨.rng x,g⟩::r) env rs nx m K:=
 hJ rfl hg _ (λhf=>by simp only[az.eL,hx];exact⟨kx hf,trivial⟩) (λhf=>by simp only[az.val,hx,hL]) _ (by simp only[az.bR,hx,hL];exact hm) (λ_=>h)
def bj {z:D}{ps:List (Nat×Src)}(es:List D)(h:aB Y draw r env (⟨f,.own L k 0 n⟩::rs) nx m2 K)(hg:GF rs g f:=by exact cz)(he:mc (bS env rs) (List.replicate n z) ps=es:=by exact rfl)(ho:f=true->qF (bS env rs) k n ps:=by exact uM)(hz:z.cells.length=k:=by exact rfl)(hL:nx+rs.length=L:=by exact zL)(hm:dh m L (.buf k es)=m2:=by simp only[dh,dd,Nat.reduceEqDiff,bo,a8,Nat.reduceAdd,reduceCtorEq];exact rfl):aB Y draw (⟨.bsl k z n ps,g⟩::r) env rs nx m K:=
 hJ rfl hg _ (λhf=>⟨hz,ho hf⟩) (λhf=>by simp only[az.val,hL]) _ (by simp only[az.bR,he,hL];exact hm) (λ_=>h)
def af9 {z:D}{k1:IntKind}(n:Nat)(h:aB Y draw r env (⟨true,.own L k 0 n⟩::rs) nx m2 K)(hx:bS env rs x=⟨true,.int k1 a⟩:=by exact rfl)(hy:bS env rs y=⟨true,.int k2 c⟩:=by exact rfl)(hn:a=(n:Int):=by first|exact rfl|omega)(hc:a<=c/\c<=1073741824:=by constructor<;>omega)(hz:z.cells.length=k:=by exact rfl)(hL:nx+rs.length=L:=by exact zL)(hm:dh m L (.buf k (List.replicate n z))=m2:=by simp only[dh,dd,Nat.reduceEqDiff,bo,a8,Nat.reduceAdd,reduceCtorEq];exact rfl):aB Y draw (⟨.mks k z x y,none⟩::r) env rs nx m K:=
 qV rfl _ (by simp only[az.eL,hx,hy];exact⟨trivial,trivial,hz,ae,hc.1,hc.2⟩) (by simp only[az.val,hx,hL,D.nat,hn];rfl) _ (by simp only[az.bR,hx,hL,D.nat,hn];exact hm) (λ_=>h)
def br {o:Nat}{d v:D}(e:D)(h:aB Y draw r env (⟨true,.any⟩::rs) nx m2 K)(hx:bS env rs x=⟨true,.ptr l k 0 o⟩:=by exact rfl)(hy:bS env rs y=⟨true,v⟩:=by exact rfl)(hl:look m l=some (.buf k [d]):=by exact rfl)(hc:v.cells.length=n:=by exact rfl)(he:rj d k n o v=e:=by exact rfl)(ho:o+n<=k:=by omega)(hm:dh m l (.buf k [e])=m2:=by simp only[dh,dd,Nat.reduceEqDiff,bo,a8,Nat.reduceAdd,reduceCtorEq];exact rfl):aB Y draw (⟨.st n x y,none⟩::r) env rs nx m K:=
 qV rfl _ (by simp only[az.eL,hx,hy,ed,hl];exact⟨trivial,trivial,hc,⟨trivial,aF⟩,ho⟩) rfl _ (by simp only[az.bR,hx,hy,aL,hl,iR,List.set_cons_zero,he];exact hm) (λ_=>h)
def aga {o:Nat}{qs:List Src}{d v:D}(e:D)(h:aB Y draw r env (⟨true,.any⟩::rs) nx m2 K)(hx:bS env rs x=⟨true,.ptr l k 0 o⟩:=by exact rfl)(hy:bS env rs y=⟨true,v⟩:=by exact rfl)(hl:look m l=some (.buf k [d]):=by exact rfl)(hc:v.cells.length=n:=by exact rfl)(he:rj d k n o v=e:=by exact rfl)(ho:o+n<=k:=by omega)(hw:k<=4:=by omega)(hm:dh m l (.buf k [e])=m2:=by simp only[dh,dd,Nat.reduceEqDiff,bo,a8,Nat.reduceAdd,reduceCtorEq];exact rfl):aB Y draw (⟨.stU n x y qs,none⟩::r) env rs nx m K:=
 qV rfl _ (by simp only[az.eL,hx,hy,ed,hl];exact⟨trivial,trivial,hc,⟨trivial,aF⟩,ho,.inl hw⟩) rfl _ (by simp only[az.bR,hx,hy,aL,hl,iR,List.set_cons_zero,he];exact hm) (λ_=>h)
def AF {i o:Nat}{v:D}{es:List D}(es2:List D)(h:aB Y draw r env (⟨true,.any⟩::rs) nx m2 K)(hx:bS env rs x=⟨true,.ptr l k i o⟩:=by exact rfl)(hy:bS env rs y=⟨true,v⟩:=by exact rfl)(hl:look m l=some (.buf k es):=by exact rfl)(hi:i<es.length)(hc:v.cells.length=n:=by exact rfl)(he:es.set i (rj (es.getD i .any) k n o v)=es2)(ho:o+n<=k:=by omega)(hm:dh m l (.buf k es2)=m2:=by simp only[dh,dd,Nat.reduceEqDiff,bo,a8,Nat.reduceAdd,reduceCtorEq];exact rfl):aB Y draw (⟨.st n x y,none⟩::r) env rs nx m K:=
 qV rfl _ (by simp only[az.eL,hx,hy,ed,hl];exact⟨trivial,trivial,hc,⟨trivial,ae⟩,ho⟩) rfl _ (by simp only[az.bR,hx,hy,aL,hl,he];exact hm) (λ_=>h)
def nk (m:List (Nat×bm))(k:Nat)(d:D)(ys:List D):Prop:=Cu m k d/\qw m d=ys
def nk.sl {es:List D}:nk m k (.sl k es) es:=⟨rfl,rfl⟩
def nk.aR:nk m k .aR []:=⟨trivial,rfl⟩
def nk.own {i:Nat}{es:List D}(hl:look m l=some (.buf k es))(hb:i+n<=es.length):nk m k (.own l k i n) ((es.drop i).take n):=⟨⟨rfl,by simp only[ed,hl];exact⟨trivial,hb⟩⟩,by simp only[qw,aL,hl]⟩
def nk.all {es:List D}(hl:look m l=some (.buf k es))(hb:n=es.length):nk m k (.own l k 0 n) es:=by
 have:=nk.own (i:=0) (n:=n) hl ae;simpa[hb]using this
def nk.str {s:List UInt8}:nk m 1 (.str s) (s.map λb=>.int .u8 b.toNat):=⟨rfl,rfl⟩
def zo {d:D}{ys:List D}(h:aB Y draw r env (⟨true,.own L k 0 n⟩::rs) nx m2 K)(hx:bS env rs x=⟨true,.aR⟩:=by exact rfl)(hy:bS env rs y=⟨true,d⟩:=by exact rfl)(he:nk m k d ys)(hn:ys.length=n)(hb:n<=1073741824:=by omega)(hL:nx+rs.length=L:=by exact zL)(hm:dh m L (.buf k ys)=m2:=by simp only[dh,dd,Nat.reduceEqDiff,bo,a8,Nat.reduceAdd,reduceCtorEq];exact rfl):aB Y draw (⟨.app k x y,none⟩::r) env rs nx m K:=
 qV rfl _ (by simp only[az.eL,hx,hy,he.2,hn];exact⟨trivial,trivial,he.1,hb⟩) (by simp only[az.val,hx,hy,he.2,hn,hL]) _ (by simp only[az.bR,hx,hy,he.2,hL];exact hm) (λ_=>h)
def BZ {d:D}{ys:List D}(h:aB Y draw r env (⟨f,.own L k 0 n⟩::rs) nx m2 K)(hg:GF rs g f:=by exact cz)(hy:bS env rs y=⟨fy,d⟩:=by exact rfl)(ky:f=true->fy=true:=by exact bw)(he:nk m k d ys)(hn:ys.length=n)(hb:n<=1073741824:=by omega)(hL:nx+rs.length=L:=by exact zL)(hm:dh m L (.buf k ys)=m2:=by simp only[dh,dd,Nat.reduceEqDiff,bo,a8,Nat.reduceAdd,reduceCtorEq];exact rfl):aB Y draw (⟨.appN k y,g⟩::r) env rs nx m K:=
 hJ rfl hg _ (λhf=>by simp only[az.eL,hy,he.2,hn];exact⟨ky hf,he.1,hb⟩) (λhf=>by simp only[az.val,hy,he.2,hn,hL]) _ (by simp only[az.bR,hy,he.2,hL];exact hm) (λ_=>h)
def xM {i a:Nat}{d:D}{xs ys:List D}(zs:List D)(h:aB Y draw r env (⟨true,.own L k 0 n⟩::rs) nx m2 K)(hx:bS env rs x=⟨true,.own l k i a⟩:=by exact rfl)(hy:bS env rs y=⟨true,d⟩:=by exact rfl)(hl:look m l=some (.buf k xs):=by exact rfl)(ha:i+a<=xs.length)(he:nk m k d ys)(hz:(xs.drop i).take a++ys=zs)(hn:a+ys.length=n)(hb:n<=1073741824:=by omega)(hL:nx+rs.length=L:=by exact zL)(hm:dh (dd m l) L (.buf k zs)=m2:=by simp only[dh,dd,Nat.reduceEqDiff,bo,a8,Nat.reduceAdd,reduceCtorEq];exact rfl):aB Y draw (⟨.app k x y,none⟩::r) env rs nx m K:=
 qV rfl _ (by simp only[az.eL,hx,hy,he.2,ed,hl,hn];exact⟨trivial,trivial,he.1,trivial,⟨trivial,ha⟩,hb⟩) (by simp only[az.val,hx,hy,he.2,hn,hL]) _ (by simp only[az.bR,hx,hy,he.2,aL,hl,hz,hL];exact hm) (λ_=>h)
def cR {q:α->D}{xs:List α}{e:α}{ly:Nat}(h:aB Y draw r env (⟨true,.own L k 0 (xs++[e]).length⟩::rs) nx m2 K)(hx:bS env rs x=⟨true,.own l k 0 xs.length⟩:=by exact rfl)(hy:bS env rs y=⟨true,.own ly k 0 1⟩:=by exact rfl)(hl:look m l=some (.buf k (xs.map q)):=by exact rfl)(he:look m ly=some (.buf k [q e]):=by exact rfl)(hb:xs.length+1<=1073741824:=by omega)(hL:nx+rs.length=L:=by exact zL)(hm:dh (dd m l) L (.buf k ((xs++[e]).map q))=m2:=by simp only[dh,dd,Nat.reduceEqDiff,bo,a8,Nat.reduceAdd,reduceCtorEq];exact rfl):aB Y draw (⟨.app k x y,none⟩::r) env rs nx m K:=
 xM (zs:=(xs++[e]).map q) (hx:=hx) (hy:=hy) (hl:=hl) (ha:=aF) (he:=nk.all (es:=[q e]) he rfl) (hz:=by rw[dM,fE aF];simp) (hn:=aF) (hb:=eJ) (hL:=hL) (hm:=hm) (h:=h)
def pn {q:α->D}{xs ys:List α}{d:D}(h:aB Y draw r env (⟨true,.own L k 0 (xs++ys).length⟩::rs) nx m2 K)(hx:bS env rs x=⟨true,.own l k 0 xs.length⟩:=by exact rfl)(hy:bS env rs y=⟨true,d⟩:=by exact rfl)(hl:look m l=some (.buf k (xs.map q)):=by exact rfl)(he:nk m k d (ys.map q))(hb:xs.length+ys.length<=1073741824:=by omega)(hL:nx+rs.length=L:=by exact zL)(hm:dh (dd m l) L (.buf k ((xs++ys).map q))=m2:=by simp only[dh,dd,Nat.reduceEqDiff,bo,a8,Nat.reduceAdd,reduceCtorEq];exact rfl):aB Y draw (⟨.app k x y,none⟩::r) env rs nx m K:=
 xM (zs:=(xs++ys).map q) (hx:=hx) (hy:=hy) (hl:=hl) (ha:=aF) (he:=he) (hz:=by rw[dM,fE aF];simp) (hn:=aF) (hb:=eJ) (hL:=hL) (hm:=hm) (h:=h)
def M1 {d:D}{ys:List D}(s:List UInt8)(h:aB Y draw r env (⟨f,.str s⟩::rs) nx m K)(hg:GF rs g f:=by exact cz)(hx:bS env rs x=⟨fx,d⟩:=by exact rfl)(kx:f=true->fx=true:=by exact bw)(he:f=true->nk m 1 d ys)(hs:f=true->ys=s.map λb=>.int .u8 b.toNat)(hd:d.ajJ=false:=by exact rfl):aB Y draw (⟨.b2s x,g⟩::r) env rs nx m K:=
 hJ rfl hg _ (λhf=>by
  simp only[az.eL,hx,(he hf).2,hs hf];refine⟨kx hf,(by cases d<;>first|trivial|(cases hd)),(he hf).1,λe hm=>?_⟩;obtain⟨b,_,rfl⟩:=ch.1 hm;have:=b.toNat_lt;exact⟨rfl,ae,ae⟩) (λhf=>by simp only[az.val,hx,(he hf).2,hs hf];rw[acv]) m rfl (λ_=>h)
def Ie {pos:Nat}{s:List UInt8}(c w:Nat)(h:aB Y draw r env (⟨true,.tup [.bool true,.int .i64 pos,.int .i32 c]⟩::rs) nx m2 K)(hx:bS env rs x=⟨true,.it l⟩:=by exact rfl)(hl:look m l=some (.iter s pos):=by exact rfl)(hp:pos<s.length)(hc:yM s pos=(c,w))(hm:dh m l (.iter s (pos+w))=m2:=by simp only[dh,dd,Nat.reduceEqDiff,bo,a8,Nat.reduceAdd,reduceCtorEq];exact rfl):aB Y draw (⟨.aI x,none⟩::r) env rs nx m K:=
 qV rfl _ (by simp only[az.eL,hx,hl];exact⟨trivial,trivial⟩) (by simp only[az.val,hx,hl,hc,hp,decide_true,cond_true]) _ (by simp only[az.bR,hx,hl,hc,hp,decide_true,cond_true];exact hm) (λ_=>h)
def Ic {pos:Nat}{s:List UInt8}(h:aB Y draw r env (⟨true,.tup [.bool false]⟩::rs) nx m K)(hx:bS env rs x=⟨true,.it l⟩:=by exact rfl)(hl:look m l=some (.iter s pos):=by exact rfl)(hp:¬pos<s.length):aB Y draw (⟨.aI x,none⟩::r) env rs nx m K:=
 qV rfl _ (by simp only[az.eL,hx,hl];exact⟨trivial,trivial⟩) (by simp only[az.val,hx,hl,hp,decide_false,cond_false]) _ (by simp only[az.bR,hx,hl,hp,decide_false,cond_false]) (λ_=>h)
def aD {aFY:List D}{v:D}(h:aB Y draw r env (⟨f,v⟩::rs) nx m K)(hg:GF rs g f:=by exact cz)(hc:Y.pre n aFY/\Y.val n aFY=v)(ha:f=true->jf m sh (iL (bS env rs) args)=aFY:=by exact λ_=>rfl)(ho:f=true->BW (bS env rs) args:=by exact uM)(hp:f=true->iU m sh (iL (bS env rs) args):=by exact uM)(hk:f=true->qB (iL (bS env rs) args) v=true:=by exact λ_=>rfl):aB Y draw (⟨.call n args sh,g⟩::r) env rs nx m K:=
 hJ rfl hg _ (λhf=>by simp only[az.eL,(dy _ _ _).1,ha hf,hc.2];exact⟨ho hf,(dy _ _ _).2.2 (hp hf),hc.1,hk hf⟩) (λhf=>by simp only[az.val,(dy _ _ _).1,ha hf,hc.2]) m rfl (λ_=>h)
def bX {aFY:List D}{v:D}(h:aB Y draw r env (⟨f,v⟩::rs) nx m K)(hg:GF rs g f:=by exact cz)(hc:f=true->Y.pre n aFY/\Y.val n aFY=v)(ha:f=true->jf m sh (iL (bS env rs) args)=aFY:=by exact λ_=>rfl)(ho:f=true->BW (bS env rs) args:=by exact uM)(hp:f=true->iU m sh (iL (bS env rs) args):=by exact uM)(hk:f=true->qB (iL (bS env rs) args) v=true:=by exact λ_=>rfl):aB Y draw (⟨.call n args sh,g⟩::r) env rs nx m K:=
 hJ rfl hg _ (λhf=>by simp only[az.eL,(dy _ _ _).1,ha hf,(hc hf).2];exact⟨ho hf,(dy _ _ _).2.2 (hp hf),(hc hf).1,hk hf⟩) (λhf=>by simp only[az.val,(dy _ _ _).1,ha hf,(hc hf).2]) m rfl (λ_=>h)
def B0 {caps:List D}{aFY:List D}{v:D}(h:aB Y draw r env (⟨f,v⟩::rs) nx m K)(hg:GF rs g f:=by exact cz)(hx:bS env rs x=⟨fx,.fn n caps⟩:=by exact rfl)(kx:f=true->fx=true:=by exact bw)(hb:n<1000000:=by decide)(hc:f=true->Y.pre n aFY/\Y.val n aFY=v)(ha:f=true->jf m sh (iL (bS env rs) args++caps)=aFY:=by exact λ_=>rfl)(ho:f=true->BW (bS env rs) args:=by exact uM)(hp:f=true->iU m sh (iL (bS env rs) args++caps):=by exact uM)(hk:f=true->qB (iL (bS env rs) args++caps) v=true:=by exact λ_=>rfl):aB Y draw (⟨.callv x args sh,g⟩::r) env rs nx m K:=
 hJ rfl hg _ (λhf=>by simp only[az.eL,hx,(dy _ _ _).1,ha hf,(hc hf).2];exact⟨kx hf,ho hf,hb,(dy _ _ _).2.2 (hp hf),(hc hf).1,hk hf⟩) (λhf=>by simp only[az.val,hx,(dy _ _ _).1,ha hf,(hc hf).2]) m rfl (λ_=>h)
def ZJ {caps:List Src}(cs:List D)(h:aB Y draw r env (⟨f,.fn n cs⟩::rs) nx m K)(hg:GF rs g f:=by exact cz)(hc:f=true->iL (bS env rs) caps=cs:=by exact λ_=>rfl)(ho:f=true->BW (bS env rs) caps:=by exact uM):aB Y draw (⟨.mkf n caps,g⟩::r) env rs nx m K:=
 bz rfl hg _ (λhf=>ho hf) (λhf=>by simp only[az.val,hc hf]) (λ_=>h)
def cN {d v e:D}{aFY:List D}(h:aB Y draw r env (⟨true,v⟩::rs) nx m2 K)(hx:bS env rs x=⟨true,.ptr l k 0 0⟩:=by exact rfl)(hl:look m l=some (.buf k [d]):=by exact rfl)(hd:d.aU=true:=by exact rfl)(hc:Y.fp n d aFY/\Y.fv n d aFY=v/\Y.fs n d aFY=e)(ha:jf [] sh (iL (bS env rs) args)=aFY:=by exact rfl)(ho:BW (bS env rs) args:=by repeat' first|exact trivial|exact rfl|refine And.intro ?_ ?_|decide)(hn:aP (iL (bS env rs) args)=true:=by exact rfl)(hm:dh m l (.buf k [e])=m2:=by simp only[dh,dd,Nat.reduceEqDiff,bo,a8,Nat.reduceAdd,reduceCtorEq];exact rfl):aB Y draw (⟨.callF n x args sh,none⟩::r) env rs nx m K:=
 qV rfl _ abo (by simp only[az.val,hx,aL,hl,iR,(dy _ _ _).1,ha,hc.2.1]) _ (by simp only[az.bR,hx,aL,hl,iR,(dy _ _ _).1,ha,hc.2.2];exact hm) (λ_=>h)
end
abbrev av:=List UInt8
variable(t:av){nm:av}
structure bO where
 major:Int
 minor:Int
 patch:Int
 pre:av
 build:av
 deriving Inhabited,DecidableEq
def bO.D (v:bO):D:=.agg [.int .i64 v.major,.int .i64 v.minor,.int .i64 v.patch,.str v.pre,.str v.build]
structure ea where
 name:av
 v:bO
 shelf:av
 sum:Int
 feats:List av
 deriving Inhabited,DecidableEq
def ea.D (x:ea):D:=.agg [.str x.name,.int .i64 x.v.major,.int .i64 x.v.minor,.int .i64 x.v.patch,.str x.v.pre,.str x.v.build,.str x.shelf,.int .u64 x.sum,.sl 1 (x.feats.map D.str)]
structure Env where
 e0:av
 e1:av
 e2:av
 deriving Inhabited,DecidableEq
def Env.D (e:Env):D:=.agg [.str e.e0,.str e.e1,.str e.e2]
structure jE where
 env:Env
 lines:List ea
 deriving Inhabited,DecidableEq
def jE.D (l:jE):D:=.agg [.str l.env.e0,.str l.env.e1,.str l.env.e2,.sl 9 (l.lines.map ea.D)]
theorem tt (a b:List UInt8):eqD (.str a) (.str b)=decide (a=b):=Ry a b
theorem BM (k k2:IntKind)(a b:Int):eqD (.int k a) (.int k2 b)=decide (a=b):=rfl
theorem bO.eq (a b:bO):gU (bO.D a).cells (bO.D b).cells=decide (a=b):=by
 obtain⟨a1,a2,a3,a4,a5⟩:=a;obtain⟨b1,b2,b3,b4,b5⟩:=b
 grind [bO.D,D.cells,gU,tt,BM]
theorem Env.eq (a b:Env):gU (Env.D a).cells (Env.D b).cells=decide (a=b):=by
 obtain⟨a1,a2,a3⟩:=a;obtain⟨b1,b2,b3⟩:=b
 grind [Env.D,D.cells,gU,tt,BM]
theorem bO.inj {a b:bO}(h:bO.D a=bO.D b):a=b:=by
 obtain⟨a1,a2,a3,a4,a5⟩:=a;obtain⟨b1,b2,b3,b4,b5⟩:=b
 grind [bO.D]
theorem Env.inj {a b:Env}(h:Env.D a=Env.D b):a=b:=by
 obtain⟨a1,a2,a3⟩:=a;obtain⟨b1,b2,b3⟩:=b
 grind [Env.D]
theorem map_inj {α:Type}{q:α->D}(hq:∀a b,q a=q b->a=b):∀{xs ys:List α},xs.map q=ys.map q->xs=ys
 |[],[],_=>rfl
 |[],_::_,h=>by simp at h
 |_::_,[],h=>by simp at h
 |a::r,b::s,h=>by
  simp only[List.map_cons,th]at h;rw[hq a b h.1,map_inj hq h.2]
theorem str_inj (a b:List UInt8)(h:D.str a=D.str b):a=b:=by simpa using h
theorem ea.inj {a b:ea}(h:ea.D a=ea.D b):a=b:=by
 obtain⟨a1,⟨v1,v2,v3,v4,v5⟩,a2,a3,a4⟩:=a;obtain⟨b1,⟨w1,w2,w3,w4,w5⟩,b2,b3,b4⟩:=b
 grind [ea.D,map_inj,str_inj]
theorem jE.inj {a b:jE}(h:jE.D a=jE.D b):a=b:=by
 obtain⟨⟨a1,a2,a3⟩,a4⟩:=a;obtain⟨⟨b1,b2,b3⟩,b4⟩:=b
 grind [jE.D,map_inj,ea.inj]
def allI (p:Nat->Bool):Nat->Nat->Bool
 |_,0=>true
 |i,k+1=>p i&&allI p (i+1) k
def bI (p:Nat->Bool)(i n:Nat):Bool:=allI p i (n-i)
def ay {p:Nat->Bool}{i:Nat}(h:i<n):bI p i n=(p i&&bI p (i+1) n):=by
 unfold bI;rw[show n-i=(n-(i+1))+1 by omega];rfl
def bA {p:Nat->Bool}{i:Nat}(h:n<=i):bI p i n=true:=by
 unfold bI;rw[show n-i=0 by omega];rfl
theorem Ls {p:Nat->Bool}:∀{k i:Nat},allI p i k=true↔∀j,i<=j->j<i+k->p j=true
 |0,i=>by simp[allI];intro j h1 h2;omega
 |k+1,i=>by
  simp only[allI,aK,Ls (k:=k)]
  grind
theorem bG {p:Nat->Bool}{i:Nat}:bI p i n=true↔∀j,i<=j->j<n->p j=true:=by
 grind [bI,Ls]
def ba {a a' b b':D}(h1:a=a')(h2:b=b'):D.tup [a,b]=D.tup [a',b']:=by rw[h1,h2]
def oT {a a' b b' c c':D}(h1:a=a')(h2:b=b')(h3:c=c'):D.tup [a,b,c]=D.tup [a',b',c']:=by rw[h1,h2,h3]
def ld8 (s:av)(i:Nat):kN (D.int .u8 (s[i]!).toNat) 1 1 0 false=.int .u8 (at8 s i):=by
 simp only[kN,D.isAgg,at8];simp;rfl
theorem wU (s:av)(pos:Nat)(h:pos<s.length):∃c w,yM s pos=(c,w)/\1<=w/\((w=1/\(c:Int)=at8 s pos/\c<128)\/(128<=c/\128<=at8 s pos)):=by
 refine⟨(yM s pos).1,(yM s pos).2,rfl, ?_⟩;have e:yM s pos=Lib.decodeN (s.length-pos) (s.getD pos 0).toNat (s.getD (pos+1) 0).toNat (s.getD (pos+2) 0).toNat (s.getD (pos+3) 0).toNat:=Lib.decode_N ⟨⟨s⟩⟩ pos;rw[e];unfold at8;generalize (s.getD pos 0).toNat=b0;generalize (s.getD (pos+1) 0).toNat=b1;generalize (s.getD (pos+2) 0).toNat=b2;generalize (s.getD (pos+3) 0).toNat=b3;generalize s.length-pos=n;by_cases hb:b0<128
 .unfold Lib.decodeN;rw[ak hb];exact⟨aT _,.inl ⟨rfl,rfl,hb⟩⟩
 .unfold Lib.decodeN
  grind
def lX {q:α->D}{xs:List α}{m:List (Nat×bm)}(hq:∀x,xV m [.a] (q x)=q x)(hl:look m l=some (.buf 1 (xs.map q))):xV m [.sl 1 [.a]] (.own l 1 0 xs.length)=.sl 1 (xs.map q):=by
 show D.sl 1 _=_;simp only[aL,hl,dM,bQ,List.map_map];congr 1;apply List.map_congr_left;intro x _;have:=hq x;simp only[Function.comp];generalize q x=d at this;cases d<;>exact this
theorem jT {q:α->D}{xs:List α}{m:List (Nat×bm)}(hq:∀x,xVO m [.a] (q x))(hl:look m l=some (.buf 1 (xs.map q))):xVO m [.sl 1 [.a]] (.own l 1 0 xs.length):=by
 grind [xVO,xHO,VT,ed,aL,bQ]
def jN (c:Int):Bool:=decide (97<=c)&&decide (c<=122)
def bE (c:Int):Bool:=decide (48<=c)&&decide (c<=57)
def GY (c:Int):Bool:=jN c ||bE c ||decide (c=95)
def gC (s:av):Bool:=decide (1<=s.length)&&decide (s.length<=12)&&bI (λi=>GY (at8 s i)) 0 s.length
def nch (s:av)(i:Nat):Bool:=(jN (at8 s i) ||bE (at8 s i) ||decide (at8 s i=45))&& !(decide (at8 s i=45)&&decide (at8 s (i-1)=45))
def dc (s:av):Bool:=decide (1<=s.length)&&decide (s.length<=16)&&jN (at8 s 0)&& !decide (at8 s (s.length-1)=45)&&bI (nch s) 1 s.length
def pk (s:av)(i:Nat):Bool:=jN (at8 s i) ||(bE (at8 s i)&& !decide (i=0)) ||(decide (at8 s i=45)&& !decide (i=0)&& !decide (i=s.length-1)&& !decide (at8 s (i-1)=45))
def aeb (s:av)(h1:1<=s.length)(h2:s.length<=16):dc s=bI (pk s) 0 s.length:=by
 rw[Bool.eq_iff_iff];simp only[dc,bg h1,bg h2,ez,aK,cg,b8,bG];constructor
 .rintro⟨⟨h3,h4⟩,h5⟩ j _ hj;rcases Nat.eq_zero_or_pos j with rfl|hp
  .simp[pk,h3]
  .have:=h5 j hp hj;simp only[nch,aK,cW,cg,ew,aX,b8]at this;simp only[pk,aK,cW,cg,aX,b8];rcases this with⟨(h6|h6)|h6,h7⟩
   .exact Or.inl (Or.inl h6)
   .exact Or.inl (Or.inr ⟨h6,ae⟩)
   .refine Or.inr ⟨⟨⟨h6,ae⟩, ?_⟩, ?_⟩
    .rintro rfl;exact h4 h6
    .rcases h7 with h7|h7
     .exact absurd h6 h7
     .exact h7
 .intro h;have h0:=h 0 ae ae;have hlow:jN (at8 s 0)=true:=by simpa[pk]using h0
  refine⟨⟨hlow, ?_⟩,λj hj1 hj2=>?_⟩
  .intro he;have hl:=h (s.length-1) ae ae;rcases Nat.eq_or_lt_of_le h1 with e|e
   .rw[<-e]at he;simp only[Nat.sub_self]at he;simp only[jN,aK,aX]at hlow;omega
   .simp only[pk,he,jN,bE]at hl;simp at hl
  .have:=h j ae hj2;simp only[pk,aK,cW,cg,aX,b8]at this;simp only[nch,aK,cW,cg,ew,aX,b8];rcases this with(h6|h6)|h6
   .refine⟨Or.inl (Or.inl h6),Or.inl ?_⟩;simp only[jN,aK,aX]at h6;omega
   .refine⟨Or.inl (Or.inr h6.1),Or.inl ?_⟩;have:=h6.1;simp only[bE,aK,aX]at this;omega
   .exact⟨Or.inr h6.1.1.1,Or.inr h6.2⟩
def e8 (s:av):Nat:=s.foldl (λn b=>n*10+(b.toNat-48)) 0
def j0 (s:av):Bool:=decide (1<=s.length)&&decide (s.length<=9)&& !(decide (1<s.length)&&decide (at8 s 0=48))&&bI (λi=>bE (at8 s i)) 0 s.length&&decide (e8 s<=9999)
def gM (s:av):Int:=if j0 s=true then(e8 s:Int)else 0
theorem kX (s:av)(i:Nat)(h:i<s.length):s.take (i+1)=s.take i++[s.getD i 0]:=by
 rw[List.take_succ];simp[h]
def Ax (s:av)(i:Nat)(h:i<s.length):e8 (s.take (i+1))=e8 (s.take i)*10+((at8 s i).toNat-48):=by
 rw[kX s i h];simp[e8,List.foldl_append,at8]
def UI (s:av):e8 s+23<=23*10^s.length:=by
 have:∀(s:av) (n k:Nat),n+23<=23*10^k->s.foldl (λn b=>n*10+(b.toNat-48)) n+23<=23*10^(k+s.length):=by
  intro s;induction s with
  |nil=>intro n k h;simpa using h
  |cons b r ih=>
   intro n k h;have hb:=b.toNat_lt;have:=ih (n*10+(b.toNat-48)) (k+1) (by rw[Nat.pow_succ];omega);simp only[List.foldl_cons,bH];rw[show k+(r.length+1)=k+1+r.length by omega];exact this
 have:=this s 0 0 aF;simpa[e8]using this
def xw (s:av)(i:Nat)(h:i<=9):e8 (s.take i)<=23000000000:=by
 have h1:=UI (s.take i);have h2:(s.take i).length<=9:=eJ;have h3:10^(s.take i).length<=10^9:=Nat.pow_le_pow_right ae h2;omega
def MC (s:av):∀n:Nat,s.foldl (λn b=>n*10+(b.toNat-48)) n=n*10^s.length+e8 s:=by
 unfold e8;induction s with
 |nil=>intro n;simp
 |cons b r ih=>
  intro n;simp only[List.foldl_cons,bH];rw[ih,ih (0*10+(b.toNat-48)),Nat.pow_succ];simp only[Nat.zero_mul,cL,Nat.add_mul];rw[Nat.mul_assoc n 10,Nat.mul_comm 10];omega
def Aw (b:UInt8)(r:av):e8 (b::r)=(b.toNat-48)*10^r.length+e8 r:=by
 have:=MC r (0*10+(b.toNat-48));simp only[e8,List.foldl_cons]at this⊢;rw[this];simp
def Ab {b:UInt8}{r:av}(h:bI (λi=>bE (at8 (b::r) i)) 0 (b::r).length=true):bE b.toNat=true/\bI (λi=>bE (at8 r i)) 0 r.length=true:=by
 rw[bG]at h;refine⟨by simpa[at8]using h 0 ae aF, ?_⟩;rw[bG];intro j _ hj;simpa[at8]using h (j+1) ae eJ
def Gg:∀(s:av),bI (λi=>bE (at8 s i)) 0 s.length=true->e8 s<10^s.length
 |[],_=>by simp[e8]
 |b::r,h=>by
  obtain⟨h1,h2⟩:=Ab h;have:=Gg r h2;rw[Aw,bH,Nat.pow_succ];simp only[bE,aK,aX]at h1;have h3:b.toNat-48<=9:=ae;have:=fL (10^r.length) h3;omega
def UH {b:UInt8}{r:av}(h:49<=b.toNat):10^r.length<=e8 (b::r):=by
 rw[Aw];have:=fL (10^r.length) (show 1<=b.toNat-48 by omega);omega
def YS (s:av):j0 s=(decide (1<=s.length)&&decide (s.length<=4)&& !(decide (1<s.length)&&decide (at8 s 0=48))&&bI (λi=>bE (at8 s i)) 0 s.length):=by
 unfold j0;cases hd:bI (λi=>bE (at8 s i)) 0 s.length with
 |false=>simp
 |true=>
  have hlt:=Gg s hd;by_cases h4:s.length<=4
  .have:10^s.length<=10^4:=Nat.pow_le_pow_right ae h4;rw[bg h4,bg (by omega:s.length<=9),bg (by omega:e8 s<=9999)];simp
  .rw[bB h4]
   match s,hd,h4 with
   |b::r,hd,h4=>
    by_cases h0:at8 (b::r) 0=48
    .rw[bg h0,bg (by omega:1<(b::r).length)];simp
    .have h1:=(Ab hd).1;simp only[bE,aK,aX]at h1;have h2:49<=b.toNat:=by
      simp[at8]at h0;omega
     have h3:=UH (r:=r) h2;have:10^4<=10^r.length:=Nat.pow_le_pow_right ae (by simp at h4;omega);rw[bB (by omega:¬e8 (b::r)<=9999)];simp
def dg (n:Nat):UInt8:=UInt8.ofNat (48+n)
def Ho:Nat->Nat->av
 |0,n=>[dg n]
 |f+1,n=>if n<10 then [dg n]else Ho f (n/10)++[dg (n%10)]
def nO (n:Nat):av:=Ho n n
def RN:∀(f g n:Nat),n<=f->n<=g->Ho f n=Ho g n
 |0,0,n,_,_=>rfl
 |0,g+1,n,h,_=>by
  obtain rfl:n=0:=ae;simp[Ho]
 |f+1,0,n,_,h=>by
  obtain rfl:n=0:=ae;simp[Ho]
 |f+1,g+1,n,h1,h2=>by
  simp only[Ho];split
  .rfl
  .rw[RN f g (n/10) ae ae]
def BJ (h:n<10):nO n=[dg n]:=by
 unfold nO;cases n<;>simp[Ho,h]
def BI (h:9<n):nO n=nO (n/10)++[dg (n%10)]:=by
 unfold nO;obtain⟨k,rfl⟩:∃k,n=k+1:=⟨n-1,ae⟩
 simp only[Ho];rw[ai ae,RN k ((k+1) /10) _ ae ae]
def gT:∀(k n:Nat),n<10^k->0<k->(nO n).length<=k:=by
 intro k;induction k with
 |zero=>intro n _ h;omega
 |succ k ih=>
  intro n h _;by_cases h10:n<10
  .rw[BJ h10];simp
  .rw[BI ae];have hk:0<k:=by
    rcases Nat.eq_zero_or_pos k with rfl|h0
    .simp at h;omega
    .exact h0
   have:=ih (n/10) (by rw[Nat.pow_succ]at h;omega) hk;simp;omega
def afJ (h:n<10):((dg n).toNat:Int)=48+n:=by
 have:(48+n)%256=48+n:=Nat.mod_eq_of_lt ae;simp[dg,this]
def fD (b:Int):av->av->List av
 |[],cur=>[cur]
 |c::r,cur=>if(c.toNat:Int)=b then cur::fD b r []else fD b r (cur++[c])
def aQ (s:av)(b:Int):List av:=fD b s []
def BK (s:av)(i:Nat)(h:i<s.length):s.drop i=s.getD i 0::s.drop (i+1):=by
 rw[fh h];simp[h]
def GK {s:av}{i fr:Nat}(h:i<s.length)(he:at8 s i=b):fD b (s.drop i) ((s.take i).drop fr)=((s.take i).drop fr)::fD b (s.drop (i+1)) ((s.take (i+1)).drop (i+1)):=by
 rw[BK s i h];have h2:(s.take (i+1)).drop (i+1)=[]:=aF;rw[h2];simp only[fD];rw[ak (by simpa[at8]using he)]
def GL {s:av}{i fr:Nat}(h:i<s.length)(hf:fr<=i)(he:¬at8 s i=b):fD b (s.drop i) ((s.take i).drop fr)=fD b (s.drop (i+1)) ((s.take (i+1)).drop fr):=by
 rw[BK s i h,kX s i h,List.drop_append_of_le_length eJ];simp only[fD];rw[ai (by simpa[at8]using he)]
def Eh {s:av}{i fr:Nat}(h:s.length<=i):fD b (s.drop i) ((s.take i).drop fr)=[s.drop fr]:=by
 rw[j7 h,fE h];rfl
def wg (b:Int):∀(s cur:av),(fD b s cur).length<=s.length+1
 |[],cur=>by simp[fD]
 |c::r,cur=>by
  simp only[fD];split
  .have:=wg b r [];simp;omega
  .have:=wg b r (cur++[c]);simp;omega
def og (s:av)(b:Int):(aQ s b).length<=s.length+1:=wg b s []
def lS (s:av)(b:Int)(i:Nat):av×av:=match(s.drop i).findIdx? (λc=>decide ((c.toNat:Int)=b))with
 |some k=>(s.drop (i+k+1),s.take (i+k))
 |none=>([],s)
def jU (s:av)(b:Int):av×av:=lS s b 0
def OJ {s:av}{i:Nat}(h:i<s.length)(he:at8 s i=b):lS s b i=(s.drop (i+1),s.take i):=by
 unfold lS;rw[BK s i h,List.findIdx?_cons];simp only[at8]at he;rw[ak (by simpa using he)];rfl
def OK {s:av}{i:Nat}(h:i<s.length)(he:¬at8 s i=b):lS s b i=lS s b (i+1):=by
 unfold lS;rw[BK s i h,List.findIdx?_cons];simp only[at8]at he;simp only[he,decide_false,ib,a8];cases(s.drop (i+1)).findIdx? (λc=>decide ((c.toNat:Int)=b))with
 |none=>rfl
 |some k=>simp only[Option.map_some];rw[show i+(k+1)=i+1+k by omega]
def Lw {s:av}{i:Nat}(h:s.length<=i):lS s b i=([],s):=by
 unfold lS;rw[j7 h];rfl
def nd (c:Int):Bool:=jN c ||bE c ||decide (c=45)
def wm:Bool:=decide (1<=t.length)&&decide (t.length<=8)&&bI (λi=>nd (at8 t i)) 0 t.length
def cO:Bool:=bI (λi=>bE (at8 t i)) 0 t.length&&decide (0<t.length)
def ji (p:Bool)(t:av):Bool:=wm t&& !(p&&cO t&& !j0 t)
def sY (s:av)(p:Bool):Bool:=decide ((aQ s 46).length<=4)&&bI (λi=>ji p (aQ s 46)[i]!) 0 (aQ s 46).length
def Eo (s:av)(p:Bool):Bool:=decide (s=[]) ||sY s p
def CL (n:Int):Bool:=decide (0<=n)&&decide (n<=9999)
def fT (v:bO):Bool:=CL v.major&&CL v.minor&&CL v.patch&&Eo v.pre true&&Eo v.build false
def FD (v:bO):av:=nO v.major.toNat++[46]++nO v.minor.toNat++[46]++nO v.patch.toNat++(if v.pre=[]then []else 45::v.pre)++(if v.build=[]then []else 43::v.build)
def oq (v:bO):av:=if fT v=true then FD v else []
def bO.sm (v:bO):Prop:=v.pre.length<=1048576/\v.build.length<=1048576
def or64 (a b:Int):Int:=IntKind.u64.wrap ((BitVec.ofInt 64 a |||BitVec.ofInt 64 b).toNat)
def Te (a b:Int):Int:=IntKind.u64.wrap ((BitVec.ofInt 64 a^^^BitVec.ofInt 64 b).toNat)
def GC (a:Int)(k:Nat):Int:=IntKind.u64.wrap (a*2^k)
def vw (a:Int)(k:Nat):Int:=a.fdiv (2^k)
def rot (h:Int)(k:Nat):Int:=or64 (GC h k) (vw h (64-k))
def S0 (h:Int)(c:Int):Int:=IntKind.u64.wrap (rot (Te h c) 13*18397679294719823053)
def zG (s:av):Int:=s.foldl (λh c=>S0 h c.toNat) 11400714819323198485
def En (s:av):Int:=Te (zG s) (vw (zG s) 29)
theorem GO (s:av)(i:Nat)(h:i<s.length):zG (s.take (i+1))=S0 (zG (s.take i)) (at8 s i):=by
 grind [kX,zG,at8]
def nib (n:Int)(i:Nat):Nat:=(BitVec.ofInt 64 (vw n (4*i))&&&15#64).toNat
def PL (n:Int)(i:Nat):nib n i<16:=by
 unfold nib;rw[BitVec.toNat_and];exact Nat.lt_of_le_of_lt Nat.and_le_right a7
def MB (n:Int)(i:Nat):IntKind.u64.wrap ((BitVec.ofInt 64 (vw n (4*i))&&&BitVec.ofInt 64 15).toNat)=(nib n i:Nat):=by
 have h:=PL n i;unfold nib at h⊢;have e:BitVec.ofInt 64 15=15#64:=a7;rw[e,IntKind.wrap_u64];omega
def L1 (k:Nat):UInt8:=([48,49,50,51,52,53,54,55,56,57,97,98,99,100,101,102]:av).getD k 0
def jA (n:Int):av:=(List.range 16).map λj=>L1 (nib n (15-j))
theorem ju (n:Int):(jA n).length=16:=by simp[jA]
def QN (n:Int)(k:Nat)(h:k<=16):((jA n).take k).length=k:=by simp[ju];omega
theorem QM (n:Int)(k:Nat)(h:k<16):(jA n).take (k+1)=(jA n).take k++[([48,49,50,51,52,53,54,55,56,57,97,98,99,100,101,102]:av).getD (nib n (15-k)) 0]:=by
 grind [kX,ju,jA,L1]
def adB (k:Nat)(h:k<10):((L1 k).toNat:Int)=48+k:=by
 have:∀k:Fin 10,((L1 k.1).toNat:Int)=48+k.1:=a7
 exact this ⟨k,h⟩
def adA (k:Nat)(h:10<=k)(h2:k<16):((L1 k).toNat:Int)=87+k:=by
 have:∀k:Fin 16,10<=k.1->((L1 k.1).toNat:Int)=87+k.1:=a7
 exact this ⟨k,h2⟩ h
def yn (n:Int)(i:Nat):av:=List.replicate (16-i) 0++(jA n).drop (16-i)
theorem tL (n:Int)(i:Nat):(yn n i).length=16:=by simp[yn,ju]
def VB (n:Int):yn n 16=jA n:=by simp[yn]
theorem VC (n:Int)(i:Nat)(h:i<16):yn n (i+1)=(yn n i).set (15-i) (L1 (nib n i)):=by
 apply List.ext_getElem
 .simp[tL]
 grind [tL,yn,jA]
def Hw (c:Int):Bool:=bE c ||(decide (97<=c)&&decide (c<=102))
def XT (c:Int):Int:=if bE c=true then c-48 else c-87
def xQ (n c:Int):Int:=or64 (GC n 4) (XT c)
def xO (s:av):Int:=s.foldl (λn c=>xQ n c.toNat) 0
theorem DM (s:av)(i:Nat)(h:i<s.length):xO (s.take (i+1))=xQ (xO (s.take i)) (at8 s i):=by
 grind [kX,xO,at8]
def m6 (s:av):Bool:=decide (s.length=16)&&bI (λi=>Hw (at8 s i)) 0 s.length
def xP (s:av):Int:=if m6 s=true then xO s else 0
def Env.at (e:Env):Nat->av
 |0=>e.e0
 |1=>e.e1
 |_=>e.e2
def Env.ld (e:Env){i:Nat}(h:i<3):kN (Env.D e) 3 1 (0+i*1) false=.str (e.at i):=by
 match i,h with
 |0,_=>rfl
 |1,_=>rfl
 |2,_=>rfl
def jE.ld (l:jE){i:Nat}(h:i<3):kN (jE.D l) 4 1 (0+i*1) false=.str (l.env.at i):=by
 match i,h with
 |0,_=>rfl
 |1,_=>rfl
 |2,_=>rfl
def Env.cut (e:Env){i:Nat}(h:i<3):Abs.cut [.str e.e0,.str e.e1,.str e.e2] (i*1) 1 false=.str (e.at i):=by
 match i,h with
 |0,_=>rfl
 |1,_=>rfl
 |2,_=>rfl
def pd (e:Env):Bool:=bI (λi=>decide (e.at i=[]) ||gC (e.at i)) 0 3
def Ad (l:List av)(i:Nat):Bool:=gC l[i]! && !(decide (0<i)&& !Op.bytesLess l[i-1]! l[i]!)
def Da (x:ea):Bool:=dc x.name&&fT x.v&& !(decide (x.shelf≠[])&& !dc x.shelf)&& !(decide (x.shelf=[])&&decide (x.sum≠0))&&decide (x.feats.length<=9)&&bI (Ad x.feats) 0 x.feats.length
def xe (l:List ea)(i:Nat):Bool:=Da l[i]! && !(decide (0<i)&& !Op.bytesLess l[i-1]!.name l[i]!.name)
def Mf (l:jE):Bool:=pd l.env&&decide (l.lines.length<=48)&&bI (xe l.lines) 0 l.lines.length
def ea.sm (x:ea):Prop:=x.v.sm/\x.name.length<=1048576/\x.shelf.length<=1048576/\x.feats.length<=1048576/\∀t∈x.feats,t.length<=1048576
def jE.sm (l:jE):Prop:=l.lines.length<=1048576/\(∀x∈l.lines,x.sm)/\∀i,(l.env.at i).length<=1048576
theorem aq [Inhabited α]{l:List α}{i:Nat}(h:i<l.length):l[i]! ∈l:=by
 simp[h]
structure Kp where
 name:av
 v:bO
 deriving Inhabited,DecidableEq
def Kp.D (x:Kp):D:=.agg [.str x.name,.int .i64 x.v.major,.int .i64 x.v.minor,.int .i64 x.v.patch,.str x.v.pre,.str x.v.build]
def ph (l:List ea):List Kp:=(l.filter λx=>decide (x.shelf≠[])).map λx=>⟨x.name,x.v⟩
def me (l:List ea)(nm:av)(i:Nat):Int:=match(l.drop i).findIdx? (λx=>decide (x.name=nm))with
 |some k=>((i+k:Nat):Int)
 |none=>-1
theorem LP {l:List ea}{i:Nat}(h:i<l.length)(he:l[i]!.name=nm):me l nm i=(i:Nat):=by
 unfold me;rw[fh h,List.findIdx?_cons]
 grind
theorem LR {l:List ea}{i:Nat}(h:i<l.length)(he:¬l[i]!.name=nm):me l nm i=me l nm (i+1):=by
 unfold me;have:¬l[i].name=nm:=by simpa[h]using he
 rw[fh h,List.findIdx?_cons]
 grind
def FV {l:List ea}{i:Nat}(h:l.length<=i):me l nm i=-1:=by
 unfold me;rw[j7 h];rfl
theorem Ea [Inhabited α][DecidableEq α]{a b:List α}(h:a.length=b.length):decide (a=b)=bI (λi=>decide (a[i]! =b[i]!)) 0 a.length:=by
 rw[Bool.eq_iff_iff,aX,bG];constructor
 .rintro rfl j _ _;simp
 .intro hj;apply List.ext_getElem h
  grind
theorem ea.same {a b:ea}(e1:a.name=b.name)(e2:a.v=b.v)(e3:a.shelf=b.shelf)(e4:a.sum=b.sum)(e5:a.feats.length=b.feats.length):decide (a=b)=bI (λi=>decide (a.feats[i]! =b.feats[i]!)) 0 a.feats.length:=by
 rw[<-Ea e5];obtain⟨a1,a2,a3,a4,a5⟩:=a;obtain⟨b1,b2,b3,b4,b5⟩:=b
 grind
def sk (s:av):av:=if s=[]then [45]else s
def gA (s:av):av:=if s=[45]then []else s
def yR (l:List av):av:=(l.map λt=>32::t).flatten
def Mm (x:ea):av:=x.name++[32]++oq x.v++[32]++sk x.shelf++[32]++jA x.sum++yR x.feats
def CR (e:Env):Nat->av
 |0=>[108,105,110,99,104,112,105,110,32,108,111,99,107,10,112,108,97,116,102,111,114,109]
 |i+1=>CR e i++[32]++sk (e.at i)
def F0 (e:Env):av:=CR e 3++[10]
def qJ (l:List ea):av:=(l.map λx=>Mm x++[10]).flatten
def uR (l:jE):av:=F0 l.env++qJ l.lines
def Fi (l:jE):av:=uR l++[115,117,109,32]++jA (En (uR l))++[10]
def prS (l:jE):av:=if Mf l=true/\(Fi l).length<=8192 then Fi l else []
def prE (l:jE):Int:=if Mf l=true then(if(Fi l).length<=8192 then 0 else 32)else 34
def b6 (b:av):List av->av
 |[]=>[]
 |[t]=>t
 |t::u::r=>t++b++b6 b (u::r)
theorem nX (b t:av)(r:List av)(h:r≠[]):b6 b (t::r)=t++b++b6 b r:=by
 cases r with
 |nil=>exact absurd rfl h
 |cons u r=>rfl
theorem An:∀(t:av) (l:List av),b6 [32] (t::l)=t++yR l
 |t,[]=>by simp[b6,yR]
 |t,u::r=>by
  rw[nX _ _ _ aF,An u r];simp[yR]
theorem Ur (x:ea):b6 [32] ([x.name,oq x.v,sk x.shelf,jA x.sum]++x.feats)=Mm x:=by
 grind [nX,An,Mm]
def Mj (l:List ea)(i:Nat)(h:i<l.length):qJ (l.take (i+1))=qJ (l.take i)++(Mm l[i]! ++[10]):=by
 rw[List.take_add_one,List.getElem?_eq_getElem h];unfold qJ;rw[List.map_append,List.flatten_append];simp[h]
def mg {α:Type}(q:α->av)(B:Nat):∀l:List α,(∀x∈l,(q x).length<=B)->((l.map q).flatten).length<=l.length*B
 |[],_=>aF
 |a::r,h=>by
  have h1:=h a (.head _);have h2:=mg q B r λx hx=>h x (.tail _ hx)
  simp only[List.map_cons,List.flatten_cons,bV,bH,Nat.succ_mul];omega
theorem tp (s:av):(sk s).length<=s.length+1:=by
 unfold sk;split<;>simp
theorem ta (v:bO)(h:v.sm):(oq v).length<=2097200:=by
 unfold oq;split
 .rename_i hv;simp only[fT,aK]at hv;obtain⟨⟨⟨⟨hv1,hv2⟩,hv3⟩,_⟩,_⟩:=hv;simp only[CL,aK,aX]at hv1 hv2 hv3;have hl1:=gT 4 v.major.toNat ae ae;have hl2:=gT 4 v.minor.toNat ae ae;have hl3:=gT 4 v.patch.toNat ae ae;obtain⟨h1,h2⟩:=h
  grind [FD]
 .simp
theorem O2 (l:List av)(h1:l.length<=1048576)(h2:∀t∈l,t.length<=1048576):(yR l).length<=1099512676352:=by
 have:=mg (λt=>(32::t:av)) 1048577 l (λt ht=>by have:=h2 t ht;simp;omega)
 grind [yR]
theorem Mn (x:ea)(h:x.sm):(Mm x).length<=1099600000000:=by
 obtain⟨h1,h2,h3,h4,h5⟩:=h
 grind [ta,O2,tp,ju,Mm]
theorem Pq (l:List ea)(h1:l.length<=1048576)(h2:∀x∈l,x.sm):(qJ l).length<=1153100000000000000:=by
 have:=mg (λx=>Mm x++[10]) 1099600000001 l (λx hx=>by have:=Mn x (h2 x hx);simp;omega)
 grind [qJ]
def Env.sm (e:Env):=∀i,(e.at i).length<=1048576
theorem FZ (e:Env)(h:e.sm):∀i,(CR e i).length<=22+i*1048578
 |0=>by simp[CR]
 |i+1=>by
  have:=FZ e h i;have h2:=tp (e.at i);have h3:=h i
  grind [CR]
theorem Ag (l:List ea)(i:Nat)(h:i<l.length):ph (l.take (i+1))=ph (l.take i)++(if l[i]!.shelf=[]then []else [⟨l[i]!.name,l[i]!.v⟩]):=by
 rw[List.take_add_one]
 grind [ph]
theorem Uo (l:List ea):(ph l).length<=l.length:=by
 grind [ph]
def kP (v n:Int):Int:=if n<1 then 0 else if v.tmod n<0 then v.tmod n+n else v.tmod n
def Es (v n:Int)(h:1<=n):-n<v.tmod n/\v.tmod n<n:=⟨Int.lt_tmod_of_pos v ae,Int.tmod_lt_of_pos v ae⟩
theorem kQ (v n:Int)(h:1<=n):0<=kP v n/\kP v n<n:=by
 have:=Es v n h
 grind [kP]
def atI (l:List Int)(i:Int):Int:=if i<0\/(l.length:Int)<=i then i.tmod 3 else l[i.toNat]!
structure Gs where
 l:List Int
 i:Int
 deriving Inhabited
def Gs.D (g:Gs):D:=.agg [.sl 1 (g.l.map (D.int .i64)),.int .i64 g.i]
def Gs.val (g:Gs)(n:Int):Int:=kP (atI g.l g.i) n
def Gs.aI (g:Gs):Gs:=⟨g.l,g.i+1⟩
def o9 (s:av)(b:UInt8):av×av×Bool:=match s.findIdx? (λc=>c==b)with
 |some k=>(s.take k,s.drop (k+1),true)
 |none=>(s,[],false)
def dp (s p:av):av×Bool:=if p.isPrefixOf s=true then(s.drop p.length,true)else(s,false)
def sj (s:av)(b:UInt8):(o9 s b).1.length<=s.length/\((o9 s b).2.2=true->(o9 s b).1.length+1<=s.length):=by
 unfold o9;split
 .rename_i k h;have:=List.findIdx?_eq_some_iff_findIdx_eq.1 h;simp only[ey];omega
 .simp
structure oY where
 s:av
 at':Nat
 n:Nat
def oY.D (r:oY):D:=.agg [.str r.s,.int .i64 (r.at':Nat),.int .i64 (r.n:Nat)]
def oY.ln (r:oY):av×av×Bool:=o9 (r.s.drop r.at') 10
def oY.aI (r:oY):oY:=⟨r.s,if r.ln.2.2=true then r.at'+(r.ln.1.length+1)else r.at',r.n+1⟩
def By:bO:=⟨0,0,0,[],[]⟩
def uL (s:av):Option bO:=
 let a:=jU s 43
 let b:=jU a.2 45
 let l:=aQ b.2 46
 if l.length=3/\j0 l[0]! =true/\j0 l[1]! =true/\j0 l[2]! =true then
  let v:bO:=⟨gM l[0]!,gM l[1]!,gM l[2]!,b.1,a.1⟩
  if fT v=true/\oq v=s then some v else none
 else none
def nArr (l:List av)(i:Nat):D:=.agg [.int .i64 (if 0<i then gM l[0]! else 0),.int .i64 (if 1<i then gM l[1]! else 0),.int .i64 (if 2<i then gM l[2]! else 0)]
def YF (l:List av)(i:Nat)(h:i<3):rj (nArr l i) 3 1 (0+i*1) (.int .i64 (gM l[i]!))=nArr l (i+1):=by
 match i,h with
 |0,_=>rfl
 |1,_=>rfl
 |2,_=>rfl
theorem oF (s:av)(b:Int):(jU s b).1.length<=s.length/\(jU s b).2.length<=s.length:=by
 grind [jU,lS]
def wh (b:Int):∀(s cur:av),∀t∈fD b s cur,t.length<=cur.length+s.length
 |[],cur,t,h=>by simp only[fD,aJ]at h;subst h;simp
 |c::r,cur,t,h=>by
  simp only[fD]at h;split at h
  .rcases bU.1 h with rfl|h
   .simp
   .have:=wh b r [] t h;simp at this⊢;omega
  .have:=wh b r (cur++[c]) t h;simp at this⊢;omega
def we (s:av)(b:Int){t:av}(h:t∈aQ s b):t.length<=s.length:=by
 have:=wh b s [] t h;simpa using this
def ri (s:av)(b:Int){i:Nat}(h:i<(aQ s b).length):((aQ s b)[i]!).length<=s.length:=we s b (aq h)
def Ps:ea:=⟨(aQ t 32)[0]!,(uL (aQ t 32)[1]!).getD By,gA (aQ t 32)[2]!,xP (aQ t 32)[3]!,(aQ t 32).drop 4⟩
def lkdZ:ea:=⟨[],By,[],0,[]⟩
def Uu:Bool:=decide (4<=(aQ t 32).length)&& !decide ((aQ t 32)[2]! =[])
def Fk:ea:=if Uu t=true then Ps t else lkdZ
def Ml:Bool:=Uu t&&(uL (aQ t 32)[1]!).isSome&&m6 (aQ t 32)[3]! &&Da (Ps t)
def Xk:Env:=⟨[],[],[]⟩
def envX:Env:=⟨gA (aQ t 32)[1]!,gA (aQ t 32)[2]!,gA (aQ t 32)[3]!⟩
def LL:Bool:=decide ((aQ t 32).length=4)&&decide ((aQ t 32)[0]! =[112,108,97,116,102,111,114,109])&&bI (λi=>!decide ((aQ t 32)[i+1]! =[])) 0 3
def Bd:Env:=if LL t=true then envX t else Xk
def LK:Bool:=LL t&&pd (envX t)
def j6:av:=[115,117,109,32]
def qI:jE:=⟨Xk,[]⟩
def Em (ls:List ea)(t:av)(ended:Bool):Bool:=!ended ||!Ml t ||decide (48<=ls.length) ||(decide (0<ls.length)&& !Op.bytesLess ls[ls.length-1]!.name (Fk t).name)
def iO (e:Env):Nat->oY->List ea->jE×Int×Int
 |0,_,_=>(qI,0,0)
 |f+1,r,ls=>
  if(dp r.ln.1 j6).2=true/\r.ln.2.2=true/\(dp r.ln.1 j6).1.contains 32=false then
   if m6 (dp r.ln.1 j6).1=false then(qI,2,(r.aI.n:Nat))
   else if r.aI.at'<r.s.length then(qI,2,(r.aI.n:Nat)+1)
   else if xP (dp r.ln.1 j6).1≠En (r.s.take r.at')then(qI,13,0)
   else(⟨e,ls⟩,0,0)
  else if Em ls r.ln.1 r.ln.2.2=true then(qI,2,(r.aI.n:Nat))
  else iO e f r.aI (ls++[Fk r.ln.1])
def XI:av:=[108,105,110,99,104,112,105,110,32,108,111,99,107]
def gZ (s:av):jE×Int×Int:=
 if 8192<s.length then(qI,32,0)else
 let r0:oY:=⟨s,0,0⟩
 if r0.ln.2.2=false\/r0.ln.1≠XI then(qI,2,1)else
 let r1:=r0.aI
 if r1.ln.2.2=false\/LK r1.ln.1=false then(qI,2,2)else
 iO (Bd r1.ln.1) (s.length+1) r1.aI []
theorem oY.PM (r:oY)(h:r.at'<=r.s.length):r.aI.at'<=r.aI.s.length/\(r.ln.2.2=true->r.at'<r.aI.at'):=by
 have hc:=(sj (r.s.drop r.at') 10).2;simp only[iQ]at hc;show(if(o9 (r.s.drop r.at') 10).2.2=true then r.at'+((o9 (r.s.drop r.at') 10).1.length+1)else r.at')<=r.s.length/\((o9 (r.s.drop r.at') 10).2.2=true->r.at'<(if(o9 (r.s.drop r.at') 10).2.2=true then r.at'+((o9 (r.s.drop r.at') 10).1.length+1)else r.at'))
 grind
def QS (s:av):Int:=if(uL s).isSome=true then 0 else 5
def Xg (l:List av)(i:Nat):D:=.agg [.str (if 0<i then gA l[1]! else []),.str (if 1<i then gA l[2]! else []),.str (if 2<i then gA l[3]! else [])]
def Xh (l:List av)(i:Nat)(h:i<3):rj (Xg l i) 3 1 (0+i*1) (.str (gA l[i+1]!))=Xg l (i+1):=by
 match i,h with
 |0,_=>rfl
 |1,_=>rfl
 |2,_=>rfl
theorem W6 (l:List av)(i:Nat)(h:i+1<l.length):(l.drop 1)[i]! =l[i+1]! :=by
 grind
def ae8 {s:av}(h:s.length<=1048576):((uL s).getD By).sm:=by
 have h0:By.sm:=⟨by simp[By],by simp[By]⟩;cases hq:uL s with
 |none=>exact h0
 |some v=>
  simp only[Option.getD_some];simp only[uL]at hq;split at hq
  .split at hq
   .obtain rfl:=bc hq;have h1:=oF s 43;have h2:=oF (jU s 43).2 45;exact⟨jH,jH⟩
   .cases hq
  .cases hq
def Oc (s:av):(gA s).length<=s.length:=by
 unfold gA;split<;>simp
def adW {t:av}(h:t.length<=8192)(h4:4<=(aQ t 32).length):(Ps t).sm:=by
 have hl:=og t 32;refine⟨ae8 (dN (ri t 32 ae) ae),dN (ri t 32 ae) ae,dN (Oc _) (dN (ri t 32 ae) ae),by simp only[Ps,iQ];omega,λx hx=>?_⟩;exact dN (we t 32 (List.mem_of_mem_drop hx)) ae
def aaM (s:av):decide (QS s=0)=(uL s).isSome:=by
 unfold QS;cases(uL s)<;>simp
def Cs (s p:av):(dp s p).1.length<=s.length:=by
 unfold dp;split<;>simp
end Go.Abs
namespace Go.Abs
theorem Dt {r:oY}(h:((dp r.ln.1 j6).2&&r.ln.2.2&& !(dp r.ln.1 j6).1.contains 32)=false):¬((dp r.ln.1 j6).2=true/\r.ln.2.2=true/\(dp r.ln.1 j6).1.contains 32=false):=by
 grind
variable {e:Env} {f:Nat} {r:oY} {ls:List ea}
theorem MP (h:((dp r.ln.1 j6).2&&r.ln.2.2&& !(dp r.ln.1 j6).1.contains 32)=true)(h2:m6 (dp r.ln.1 j6).1=false):iO e (f+1) r ls=(qI,2,((r.aI.n:Nat):Int)):=by
 unfold iO
 grind
theorem MQ (h:((dp r.ln.1 j6).2&&r.ln.2.2&& !(dp r.ln.1 j6).1.contains 32)=true)(h2:m6 (dp r.ln.1 j6).1=true)(h3:r.aI.at'<r.s.length):iO e (f+1) r ls=(qI,2,((r.aI.n:Nat):Int)+1):=by
 unfold iO
 grind
theorem MR (h:((dp r.ln.1 j6).2&&r.ln.2.2&& !(dp r.ln.1 j6).1.contains 32)=true)(h2:m6 (dp r.ln.1 j6).1=true)(h3:¬r.aI.at'<r.s.length)(h4:xP (dp r.ln.1 j6).1≠En (r.s.take r.at')):iO e (f+1) r ls=(qI,13,0):=by
 unfold iO
 grind
theorem MS (h:((dp r.ln.1 j6).2&&r.ln.2.2&& !(dp r.ln.1 j6).1.contains 32)=true)(h2:m6 (dp r.ln.1 j6).1=true)(h3:¬r.aI.at'<r.s.length)(h4:xP (dp r.ln.1 j6).1=En (r.s.take r.at')):iO e (f+1) r ls=(⟨e,ls⟩,0,0):=by
 unfold iO
 grind
def MO (h:((dp r.ln.1 j6).2&&r.ln.2.2&& !(dp r.ln.1 j6).1.contains 32)=false)(h2:Em ls r.ln.1 r.ln.2.2=true):iO e (f+1) r ls=(qI,2,((r.aI.n:Nat):Int)):=by
 rw[iO,ai (Dt h),ak h2]
theorem MN (h:((dp r.ln.1 j6).2&&r.ln.2.2&& !(dp r.ln.1 j6).1.contains 32)=false)(h2:Em ls r.ln.1 r.ln.2.2=false):iO e (f+1) r ls=iO e f r.aI (ls++[Fk r.ln.1]):=by
 grind [iO,Dt]
end Go.Abs
namespace Go.Abs
variable{fx w:Bool}{x:Src}{n k:Nat}{args:List Src}
theorem N0 (ls:List ea)(t:av)(e:Bool):(!e ||!Ml t ||decide ((48:Int)<=(ls.length:Int)) ||(decide ((0:Int)<(ls.length:Int))&& !Op.bytesLess ls[0+(ls.length-1)]!.name (Fk t).name))=Em ls t e:=by
 grind [Em]
theorem N1 {ls:List ea}{t:av}{e:Bool}(h:Em ls t e=false):e=true/\ls.length<48/\Ml t=true/\(0<ls.length->Op.bytesLess ls[ls.length-1]!.name (Fk t).name=true):=by
 grind [Em]
section
variable {Y:Ctx}{draw:Bool}{r:List GI}{env rs:List aY}{nx:Nat}{m:List (Nat×bm)}{K:List aY->St->Prop}{g:Option (Nat×Bool)}{f:Bool}
def ZB {l j:Nat}{sh:List (List Sh)}{d v e:D}{aFY:List D}{m2:List (Nat×bm)}(h:aB Y false r env (⟨true,v⟩::rs) nx m2 K)(hg:GF rs (some (j,w)) true:=by exact⟨_,_,rfl,rfl⟩)(hx:bS env rs x=⟨true,.ptr l k 0 0⟩:=by exact rfl)(hl:look m l=some (.buf k [d]):=by exact rfl)(hd:d.aU=true:=by exact rfl)(hc:Y.fp n d aFY/\Y.fv n d aFY=v/\Y.fs n d aFY=e)(ha:jf [] sh (iL (bS env rs) args)=aFY:=by exact rfl)(ho:BW (bS env rs) args:=by repeat' first|exact trivial|exact rfl|refine And.intro ?_ ?_|decide)(hn:aP (iL (bS env rs) args)=true:=by exact rfl)(hm:dh m l (.buf k [e])=m2:=by simp only[dh,dd,Nat.reduceEqDiff,bo,a8,Nat.reduceAdd,reduceCtorEq];exact rfl):aB Y false (⟨.callF n x args sh,some (j,w)⟩::r) env rs nx m K:=
 ZC rfl rfl hg (λ_=>⟨v,abo,by simp only[az.val,hx,aL,hl,iR,(dy _ _ _).1,ha,hc.2.1],m2,by simp only[az.bR,hx,aL,hl,iR,(dy _ _ _).1,ha,hc.2.2];exact hm,h⟩) (λh=>cw)
def akW {i:az}{j:Nat}(h:aB Y false r env (⟨false,.any⟩::rs) nx m K)(hM:i.cM=false:=by exact rfl)(hC:i.calm=false:=by exact rfl)(hg:GF rs (some (j,w)) false:=by exact⟨_,_,rfl,rfl⟩):aB Y false (⟨i,some (j,w)⟩::r) env rs nx m K:=
 ZC hM hC hg (λh=>cw) (λ_=>h)
def r_off {i:az}{j:Nat}(d:D)(h:aB Y draw r env (⟨false,d⟩::rs) nx m K)(hC:i.pure=true:=by exact rfl)(hg:GF rs (some (j,w)) false:=by exact⟨_,_,rfl,rfl⟩):aB Y draw (⟨i,some (j,w)⟩::r) env rs nx m K:=
 bz hC hg d (λh=>cw) (λh=>cw) (λ_=>h)
theorem dS {aFY:List D}{v:D}{nx':Nat}{m':List (Nat×bm)}(h:aB Y draw r env (⟨true,v⟩::rs) nx' m' K)(hc:∀K':D->St->Prop,K' v ⟨nx'+rs.length,m'⟩->Y.tr n aFY ⟨nx+rs.length,m⟩ K')(hn:nx<=nx')(ha:iL (bS env rs) args=aFY:=by exact rfl)(ho:BW (bS env rs) args:=by repeat' first|exact trivial|exact rfl|refine And.intro ?_ ?_):aB Y draw (⟨.callM n args,none⟩::r) env rs nx m K:=by
 unfold aB;show True/\(true=true->BW (Src.ev env rs.reverse) args/\Y.tr n (iL (Src.ev env rs.reverse) args) {nx:=nx+rs.reverse.length,m:=m} _)/\(true=false->_)
 grind [oI,aB]
def ala {α:Type}{q:α->D}{s:List α}{y z:Src}{fy fz:Bool}{kh km:IntKind}{h' m':Int}(j:Nat)(h:aB Y draw r env (⟨f,.sl k ((s.take j).map q)⟩::rs) nx m K)(hg:GF rs g f:=by exact cz)(hx:bS env rs x=⟨fx,.sl k (s.map q)⟩:=by exact rfl)(hy:bS env rs y=⟨fy,.int kh h'⟩:=by exact rfl)(hz:bS env rs z=⟨fz,.int km m'⟩:=by exact rfl)(kx:f=true->fx=true:=by exact bw)(ky:f=true->fy=true:=by exact bw)(kz:f=true->fz=true:=by exact bw)(hj:f=true->h'=(j:Int))(hb:f=true->(j:Int)<=m'/\m'<=(s.length:Int)):aB Y draw (⟨.slX k x y z,g⟩::r) env rs nx m K:=
 bz rfl hg _ (λhf=>by have h1:=hj hf;have h2:=hb hf;simp only[az.eL,hx,hy,hz,bh];exact⟨kx hf,ky hf,kz hf,ae,ae,trivial,h2.2⟩) (λhf=>by simp only[az.val,hx,hy];rw[hj hf,Int.toNat_natCast,List.map_take]) (λ_=>h)
def DF {α:Type}[Inhabited α]{i o:Nat}{ag:Bool}{q:α->D}{xs:List α}(v:D)(h:aB Y draw r env (⟨f,v⟩::rs) nx m K)(hg:GF rs g f:=by exact cz)(hx:bS env rs x=⟨fx,.ref k (xs.map q) i o⟩:=by exact rfl)(kx:f=true->fx=true:=by exact bw)(hi:f=true->i<xs.length:=by exact rr)(hv:f=true->kN (q xs[i]!) k n o ag=v:=by exact λ_=>rfl)(ho:o+n<=k:=by omega):aB Y draw (⟨.ldU n ag x,g⟩::r) env rs nx m K:=
 hJ rfl hg _ (λhf=>Re) (λhf=>Rd) m rfl (λha=>h)
def P0 {i o:Nat}{ag:Bool}{es:List D}(v:D)(h:aB Y draw r env (⟨f,v⟩::rs) nx m K)(hg:GF rs g f:=by exact cz)(hx:bS env rs x=⟨fx,.ref k es i o⟩:=by exact rfl)(kx:f=true->fx=true:=by exact bw)(hi:f=true->i<es.length:=by intro _;simp only[bH,b7];omega)(hv:f=true->kN (es.getD i .any) k n o ag=v:=by exact λ_=>rfl)(ho:o+n<=k:=by omega):aB Y draw (⟨.ldU n ag x,g⟩::r) env rs nx m K:=
 hJ rfl hg _ (λhf=>Rf) (λhf=>KL) m rfl (λha=>h)
def zq {l o:Nat}{ag:Bool}{d:D}(v:D)(h:aB Y draw r env (⟨f,v⟩::rs) nx m K)(hg:GF rs g f:=by exact cz)(hx:bS env rs x=⟨fx,.ptr l k 0 o⟩:=by exact rfl)(kx:f=true->fx=true:=by exact bw)(hl:f=true->look m l=some (.buf k [d]):=by exact λ_=>rfl)(hv:f=true->kN d k n o ag=v:=by exact λ_=>rfl)(ho:o+n<=k:=by omega)(hd:f=true->d.aU=false:=by exact λ_=>rfl):aB Y draw (⟨.ldU n ag x,g⟩::r) env rs nx m K:=
 hJ rfl hg _ (λhf=>by simp only[az.eL,hx,Mg,ed,hl hf];exact⟨kx hf,⟨⟨trivial,aF⟩,ho⟩,by simp only[aL,hl hf,aP,hd hf];rfl⟩) (λhf=>Rk) m rfl (λha=>h)
def ZH {l o:Nat}{ag:Bool}{d:D}(v:D)(h:aB Y draw r env (⟨f,v⟩::rs) nx m K)(hg:GF rs g f:=by exact cz)(hx:bS env rs x=⟨fx,.ptr l k 0 o⟩:=by exact rfl)(kx:f=true->fx=true:=by exact bw)(hl:f=true->look m l=some (.buf k [d]):=by exact λ_=>rfl)(hv:f=true->kN d k n o ag=v:=by exact λ_=>rfl)(ho:o+n<=k:=by omega)(hd:4<k:=by omega):aB Y draw (⟨.ldW n ag x,g⟩::r) env rs nx m K:=
 hJ rfl hg _ (λhf=>by simp only[az.eL,hx,Mg,ed,hl hf];exact⟨kx hf,⟨⟨trivial,aF⟩,ho⟩,hd⟩) (λhf=>Rk) m rfl (λha=>h)
end
def Gs.YT (g:Gs):g.aI.i=g.i+1:=rfl
def Gs.eP (g:Gs)(n:Int)(h:1<=n):0<=g.val n/\g.val n<n:=kQ _ _ h
def dflW:av:=[100,101,102,97,117,108,116]
def fW:av:=[102]
def F9:av:=[109,97,105,110]
def Ef:av:=[115,105,100,101]
def cB:List av:=[[97,110,116],[98,101,101],[99,111,119],[100,111,103]]
def bT:List bO:=[⟨1,0,0,[],[]⟩,⟨1,2,0,[],[]⟩,⟨2,0,0,[97,46,49],[]⟩,⟨2,0,0,[],[]⟩]
def LM:List av:=[[],[108,105,110,117,120],[112,108,97,110,57]]
def TZ (n:Int):Env:=⟨LM[(kP n 3).toNat]!,[],[]⟩
def nlS:List av->D
 |[]=>.aR
 |a::r=>.sl 1 ((a::r).map D.str)
def ea.N (x:ea):Go.Abs.D:=.agg [.str x.name,.int .i64 x.v.major,.int .i64 x.v.minor,.int .i64 x.v.patch,.str x.v.pre,.str x.v.build,.str x.shelf,.int .u64 x.sum,nlS x.feats]
def ea.F (name:av)(v:bO)(shelf:av)(sum:Int)(fs:Go.Abs.D):Go.Abs.D:=.agg [.str name,.int .i64 v.major,.int .i64 v.minor,.int .i64 v.patch,.str v.pre,.str v.build,.str shelf,.int .u64 sum,fs]
def fzD_F (l k:Nat)(es:List Go.Abs.D)(a:av)(v:bO)(s:av)(n:Int)(fs:Go.Abs.D):iX l k es (ea.F a v s n fs)=ea.F a v s n (iX l k es fs):=rfl
def XM (l k:Nat)(es:List Go.Abs.D)(g:Gs):iX l k es (Gs.D g)=Gs.D g:=rfl
mutual
theorem gV (l k:Nat)(es:List D):∀d:D,d.aU=true->iX l k es d=d
 | .agg a,h=>by simp only[iX,kJ l k es a (by simpa[D.aU]using h)]
 | .tup a,h=>by simp only[iX,kJ l k es a (by simpa[D.aU]using h)]
 | .fn n a,h=>by simp only[iX,kJ l k es a (by simpa[D.aU]using h)]
 | .own ..,h=>by simp[D.aU]at h
 | .ptr ..,h=>by simp[D.aU]at h
 | .it ..,h=>by simp[D.aU]at h
 | .any,_| .bool _,_| .int ..,_| .str _,_| .aR,_| .sl ..,_| .ref ..,_| .nilp,_| .nilf,_=>rfl
theorem kJ (l k:Nat)(es:List D):∀ds:List D,aP ds=true->oL l k es ds=ds
 |[],_=>rfl
 |d::r,h=>by
  simp only[aP,aK]at h;simp only[oL,gV l k es d h.1,kJ l k es r h.2]
end
def bq (L c:Nat)(ls:List ea)(k j:Nat):D:=if j=k then ea.F ls[j]!.name ls[j]!.v ls[j]!.shelf ls[j]!.sum (.own L 1 0 c)else ea.D ls[j]!
def E8:jE:=⟨⟨[],[],[]⟩,[⟨[97,110,116],⟨1,0,0,[],[]⟩,F9,5,[dflW]⟩]⟩
def awF:av:=XI++[10]++[112,108,97,116,102,111,114,109,32,45,32,45,32,45,10]++[97,110,116,32,49,46,48,46,48,32,109,97,105,110,32,48,48,48,48,48,48,48,48,48,48,48,48,48,48,48,53,32,100,101,102,97,117,108,116,10]
def acr:uR E8=awF:=by rfl
def ahR:Mf E8=true:=by rfl
def acs:me E8.lines [97,110,116] 0=0:=by rfl
def WC:prS E8=Fi E8:=by rfl
def ahS:prE E8=0:=by rfl
def WB:gZ (Fi E8)=(E8,0,0):=uN
theorem Kp.eq (a b:Kp):gU (Kp.D a).cells (Kp.D b).cells=decide (a=b):=by
 obtain⟨n1,⟨a1,a2,a3,a4,a5⟩⟩:=a;obtain⟨n2,⟨b1,b2,b3,b4,b5⟩⟩:=b
 grind [Kp.D,D.cells,gU,tt,BM]
theorem aev (l:jE):(prS l).length<=8192:=by
 grind [prS]
def aw_p:gZ (prS E8)=(E8,0,0):=by rw[WC];exact WB
def afG:E8.sm:=by
 refine⟨a7, ?_, ?_⟩
 .intro x hx;simp only[E8,aJ]at hx;subst hx;exact⟨⟨a7,a7⟩,a7,a7,a7,a7⟩
 .intro i
  match i with
  |0=>decide
  |1=>decide
  |_+2=>show([]:av).length<=_;decide
def acu:prS E8=awF++[115,117,109,32]++jA (En awF)++[10]:=by rw[WC];unfold Fi;rw[acr]
theorem ajt {l:List av}{B:Nat}(h:∀t∈l,t.length<=B)(i:Nat):(l[i]!).length<=B:=by
 by_cases hi:i<l.length
 .grind
 .simp only[List.getElem!_eq_getElem?_getD,List.getElem?_eq_none (Nat.le_of_not_lt hi),Option.getD_none];exact Nat.zero_le _
structure ea.ok (n:Nat)(x:ea):Prop where
 pre:x.v.pre.length<=3
 build:x.v.build.length<=2
 name:x.name.length<=16
 shelf:x.shelf.length<=16
 nf:x.feats.length<=n
 ft:∀t∈x.feats,t.length<=16
 sum:0<=x.sum/\x.sum<18446744073709551616
structure jE.ok (n:Nat)(l:jE):Prop where
 len:l.lines.length<=4
 lines:∀x∈l.lines,x.ok n
 env:∀i,(l.env.at i).length<=16
theorem jE.ok.sm {l:jE}(h:l.ok n)(hn:n<=1000):l.sm:=by
 refine⟨by have:=h.len;omega,λx hx=>?_,λi=>by have:=h.env i;omega⟩;have k:=h.lines x hx;have k1:=k.pre;have k2:=k.build;have k3:=k.name;have k4:=k.shelf;have k5:=k.nf;exact⟨⟨ae,ae⟩,ae,ae,ae,λt ht=>by have:=k.ft t ht;omega⟩
def adh (n:Int)(i:Nat):((TZ n).at i).length<=16:=by
 have h:∀t∈LM,t.length<=16:=a7
 match i with
 |0=>exact ajt h _
 |1=>show([]:av).length<=_;decide
 |_+2=>show([]:av).length<=_;decide
def ea.ok.mono {m:Nat}{x:ea}(h:x.ok n)(hm:n<=m):x.ok m:=⟨h.pre,h.build,h.name,h.shelf,dN h.nf hm,h.ft,h.sum⟩
def lk {α:Type}:List (Nat×α)->Nat->α->α
 |[],_,d=>d
 |(a,b)::r,n,d=>bif Nat.beq a n then b else lk r n d
structure Row where
 key:Nat
 pre:List D->Prop
 val:List D->D
structure RowF where
 pre:D->List D->Prop
 val:D->List D->D
 new:D->List D->D
def Row.no:Row:=⟨0,λ_=>False,λ_=>.any⟩
def RowF.no:RowF:=⟨λ_ _=>False,λ_ _=>.any,λ_ _=>.any⟩
end Go.Abs
