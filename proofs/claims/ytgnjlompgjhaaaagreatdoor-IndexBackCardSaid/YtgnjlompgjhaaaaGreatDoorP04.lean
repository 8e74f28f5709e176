/- A part of the proofs. -/
import Derived.IntWalk
import Derived.KernelRfl
import Derived.Lib.TrimUEq
import Derived.Test.YtgnjlompgjhaaaaGreatDoorP03
set_option linter.all false
set_option maxRecDepth 4000
namespace Go.Abs
section
section
variable {Y:Ctx} {Q Q':Ex->List bW->St->Prop} {env:List bW} {st:St}
def Ctx.cd (Y:Ctx):Prop:=∀f ds st (K K':D->St->Prop),(∀d st,K d st->K' d st)->Y.tr f ds st K->Y.tr f ds st K'
def lR {draw:Bool}{K K':List bW->St->Prop}(h:∀vs st,K vs st->K' vs st)(htr:Y.cd):∀(l:List GI) (env vs:List bW) (st:St),iz Y draw l env vs st K->iz Y draw l env vs st K'
 |[],env,vs,st,hh=>h _ _ hh
 |⟨i,g⟩::r,env,vs,st,hh=>by
  cases hcm:i.dM with
  |true=>
   cases i<;>simp only[aN.dM]at hcm<;>try(cases hcm;done)
   .exact⟨hh.1,fun hf=>⟨(hh.2.1 hf).1,htr _ _ _ _ _ (fun d st' ⟨h1,h2⟩=>⟨h1,lR h htr r _ _ _ h2⟩) (hh.2.1 hf).2⟩,fun hf=>lR h htr r _ _ _ (hh.2.2 hf)⟩
   .rename_i fv args;simp only[iz]at hh⊢;refine⟨hh.1,hh.2.1,hh.2.2.1, ?_⟩;have h3:=hh.2.2.2;cases hd:(Src.ev env vs fv).d<;>simp only[hd]at h3⊢;exact htr _ _ _ _ _ (fun d st' ⟨h1,h2⟩=>⟨h1,lR h htr r _ _ _ h2⟩) h3
  |false=>
   cases hf:i.uC draw g with
   |true=>
    rw[Cs hcm hf]at hh⊢;exact⟨hh.1,fun e=>⟨(hh.2.1 e).1,lR h htr r _ _ _ (hh.2.1 e).2⟩,fun e=>lR h htr r _ _ _ (hh.2.2 e)⟩
   |false=>
    rw[nF hcm hf]at hh⊢;exact⟨hh.1,hh.2.1,fun ha=>(hh.2.2 ha).imp fun _ h2=>⟨h2.1,lR h htr r _ _ _ h2.2⟩⟩
def Gh.mono {lo:Nat}{p q:List bW->St->Prop}(h:∀env st,p env st->q env st):Gh lo p env st->Gh lo q env st
 |⟨e,s,h1,h2⟩=>⟨e,s,h1,h _ _ h2⟩
def Gh.intro {lo:Nat}{p:List bW->St->Prop}(h:p env st):Gh lo p env st:=⟨env,st,.refl _ _,h⟩
def gU (htr:Y.cd):∀(a:AC) (Q Q':Ex->List bW->St->Prop) (env:List bW) (st:St),(∀e env st,Q e env st->Q' e env st)->bG Y a Q env st->bG Y a Q' env st
 | .reg draw ins cm,Q,Q',env,st,h,hh=>Gh.mono (fun env st h2=>lR (fun vs st=>h _ _ _) htr _ _ _ _ h2) hh
 | .seq a b,Q,Q',env,st,h,hh=>Gh.mono (fun env st h2=>gU htr a _ _ env st (fun e env st h2=>by
   cases e with
   |normal=>exact gU htr b Q Q' env st h h2
   |exit id=>exact h _ _ _ h2
   |ret=>exact h _ _ _ h2) h2) hh
 | .cond c a b,Q,Q',env,st,h,hh=>Gh.mono (fun env st h2=>by
  refine⟨h2.1, ?_⟩;have:=h2.2;cases hd:(c.ev env []).d<;>simp only[hd]at this⊢;exact⟨fun ht=>gU htr a Q Q' env st h (this.1 ht),fun ht=>gU htr b Q Q' env st h (this.2 ht)⟩) hh
 | .block id a,Q,Q',env,st,h,hh=>Gh.mono (fun env st h2=>gU htr a _ _ env st (fun e env st h2=>by
   cases e with
   |normal=>exact h _ _ _ h2
   |exit j=>simp only at h2⊢;split<;>rename_i hj<;>simp only[hj,ba,bc]at h2<;>exact h _ _ _ h2
   |ret=>exact h _ _ _ h2) h2) hh
 | .loop a,Q,Q',env,st,h,hh=>Gh.mono (fun env st h2=>by
  obtain⟨I,μ,h1,h2⟩:=h2;refine⟨I,μ,h1,fun env st hi=>gU htr a _ _ env st (fun e env' st' h3=>?_) (h2 env st hi)⟩;cases e with
  |normal=>exact h3
  |exit id=>exact h _ _ _ h3
  |ret=>exact h _ _ _ h3) hh
 | .exit id,Q,Q',env,st,h,hh=>Gh.mono (fun _ _=>h _ _ _) hh
 | .ret,Q,Q',env,st,h,hh=>Gh.mono (fun _ _=>h _ _ _) hh
 | .skip,Q,Q',env,st,h,hh=>Gh.mono (fun _ _=>h _ _ _) hh
def iH {a:AC}{env':List bW}{st':St}(g:aX Y.lo env st env' st')(h:bG Y a Q env' st'):bG Y a Q env st:=by
 cases a<;>(obtain⟨e2,s2,g2,h2⟩:=h;exact⟨e2,s2,.trans _ _ _ _ _ _ g g2,h2⟩)
def BQ (Y:Ctx)(id:Nat)(r:AC)(Q:Ex->List bW->St->Prop):Ex->List bW->St->Prop:=fun e env st=>match e with
 | .normal=>bG Y r Q env st
 | .exit j=>if j=id then bG Y r Q env st else Q (.exit j) env st
 | .ret=>Q .ret env st
def LQ (Y:Ctx)(id:Nat)(r:AC)(next:List bW->St->Prop)(Q:Ex->List bW->St->Prop):Ex->List bW->St->Prop:=fun e env st=>match e with
 | .normal=>next env st
 | .exit j=>if j=id then bG Y r Q env st else Q (.exit j) env st
 | .ret=>Q .ret env st
def BQ.normal {id:Nat}{r:AC}(h:bG Y r Q env st):BQ Y id r Q .normal env st:=h
def BQ.out {id:Nat}{r:AC}(h:bG Y r Q env st):BQ Y id r Q (.exit id) env st:=by simp only[BQ,ba];exact h
def BQ.other {id j:Nat}{r:AC}(hj:(j==id)=false)(h:Q (.exit j) env st):BQ Y id r Q (.exit j) env st:=by simp only[BQ,aj (by simpa using hj)];exact h
def BQ.ret {id:Nat}{r:AC}(h:Q .ret env st):BQ Y id r Q .ret env st:=h
def LQ.normal {id:Nat}{r:AC}{next:List bW->St->Prop}(h:next env st):LQ Y id r next Q .normal env st:=h
def LQ.out {id:Nat}{r:AC}{next:List bW->St->Prop}(h:bG Y r Q env st):LQ Y id r next Q (.exit id) env st:=by simp only[LQ,ba];exact h
def LQ.other {id j:Nat}{r:AC}{next:List bW->St->Prop}(hj:(j==id)=false)(h:Q (.exit j) env st):LQ Y id r next Q (.exit j) env st:=by simp only[LQ,aj (by simpa using hj)];exact h
def LQ.ret {id:Nat}{r:AC}{next:List bW->St->Prop}(h:Q .ret env st):LQ Y id r next Q .ret env st:=h
def RY {a b c:AC}(h:bG Y (.seq a (.seq b c)) Q env st):bG Y (.seq (.seq a b) c) Q env st:=by
 obtain⟨e1,s1,g1,h1⟩:=h;refine⟨e1,s1,g1,e1,s1,.refl _ _, ?_⟩;have:∀(Q1 Q2:Ex->List bW->St->Prop),Q1=Q2->bG Y a Q1 e1 s1->bG Y a Q2 e1 s1:=fun _ _ e h=>e▸h
 refine this _ _ ?_ h1;funext e env st;cases e with
 |normal=>exact propext ⟨fun⟨e2,s2,g2,h2⟩=>iH g2 h2,fun h=>⟨_,_,.refl _ _,h⟩⟩
 |exit id=>rfl
 |ret=>rfl
def Jf {b:AC}(h:bG Y b Q env st):bG Y (.seq .skip b) Q env st:=.intro (.intro h)
def wp_skip (h:Q .normal env st):bG Y .skip Q env st:=.intro h
def OA {b:AC}(h:Q .ret env st):bG Y (.seq .ret b) Q env st:=.intro (.intro h)
def wp_ret (h:Q .ret env st):bG Y .ret Q env st:=.intro h
def Je {id:Nat}{b:AC}(h:Q (.exit id) env st):bG Y (.seq (.exit id) b) Q env st:=.intro (.intro h)
def wp_exit {id:Nat}(h:Q (.exit id) env st):bG Y (.exit id) Q env st:=.intro h
def GX {id:Nat}{a r:AC}(h:bG Y a (BQ Y id r Q) env st)(htr:Y.cd):bG Y (.seq (.block id a) r) Q env st:=by
 refine .intro (.intro (gU htr a _ _ _ _ (fun e env st h=>?_) h));cases e with
 |normal=>exact h
 |exit j=>simp only[BQ]at h⊢;split<;>rename_i hj<;>simp only[hj,ba,bc]at h<;>exact h
 |ret=>exact h
def wp_block {id:Nat}{a:AC}(h:bG Y a (BQ Y id .skip Q) env st)(htr:Y.cd)(hQ:∀e env env' st st',aX Y.lo env st env' st'->Q e env' st'->Q e env st):bG Y (.block id a) Q env st:=by
 refine .intro (gU htr a _ _ _ _ (fun e env st h=>?_) h);have hs:∀env st,bG Y .skip Q env st->Q .normal env st:=fun env st ⟨e2,s2,g2,h2⟩=>hQ _ _ _ _ _ g2 h2
 cases e with
 |normal=>exact hs _ _ h
 |exit j=>simp only[BQ]at h⊢;split<;>rename_i hj<;>simp only[hj,ba,bc]at h<;>first|exact hs _ _ h|exact h
 |ret=>exact h
def CQ (next:List bW->St->Prop)(Q:Ex->List bW->St->Prop):Ex->List bW->St->Prop:=fun e env st=>match e with
 | .normal=>next env st
 | .exit j=>Q (.exit j) env st
 | .ret=>Q .ret env st
def CQ.normal {next:List bW->St->Prop}(h:next env st):CQ next Q .normal env st:=h
def CQ.other {next:List bW->St->Prop}{j:Nat}(h:Q (.exit j) env st):CQ next Q (.exit j) env st:=h
def CQ.ret {next:List bW->St->Prop}(h:Q .ret env st):CQ next Q .ret env st:=h
def Hb (id:Nat)(Q:Ex->List bW->St->Prop):Ex->List bW->St->Prop:=fun e env st=>match e with
 | .normal=>Q .normal env st
 | .exit j=>if j=id then Q .normal env st else Q (.exit j) env st
 | .ret=>Q .ret env st
def Hb.normal {id:Nat}(h:Q .normal env st):Hb id Q .normal env st:=h
def Hb.out {id:Nat}(h:Q .normal env st):Hb id Q (.exit id) env st:=by simp only[Hb,ba];exact h
def Hb.other {id j:Nat}(hj:(j==id)=false)(h:Q (.exit j) env st):Hb id Q (.exit j) env st:=by grind [Hb]
def Hb.ret {id:Nat}(h:Q .ret env st):Hb id Q .ret env st:=h
def Oz {id:Nat}{a:AC}(h:bG Y a (Hb id Q) env st)(htr:Y.cd):bG Y (.block id a) Q env st:=by
 refine .intro (gU htr a _ _ _ _ (fun e env st h=>?_) h);cases e with
 |normal=>exact h
 |exit j=>simp only[Hb]at h⊢;split<;>rename_i hj<;>simp only[hj,ba,bc]at h<;>exact h
 |ret=>exact h
def rW (htr:Y.cd){a b:AC}{ι:Type}(F:ι->List bW)(G:ι->List (Nat×bR))(c:Nat)(P:ι->Prop)
  (h1:bG Y a (CQ (fun env' st'=>∃j,P j/\aX Y.lo env' st' (F j) ⟨c,G j⟩) Q) env st)
  (h2:∀i,P i->bG Y b Q (F i) ⟨c,G i⟩):bG Y (.seq a b) Q env st:=by
 refine .intro (gU htr a _ _ _ _ (fun e env st h=>?_) h1);cases e with
 |normal=>obtain⟨j,hj,g⟩:=h;exact iH g (h2 j hj)
 |exit j=>exact h
 |ret=>exact h
def a7 (htr:Y.cd){a r:AC}{id:Nat}{ι:Type}(F:ι->List bW)(G:ι->List (Nat×bR))(c:Nat)(P:ι->Prop)(μ:ι->Nat)(i0:ι)
  (hP:P i0) (h0:aX Y.lo env st (F i0) ⟨c,G i0⟩)
  (hr:∀i,P i->bG Y a (LQ Y id r (fun env' st'=>∃j,P j/\μ j<μ i/\aX Y.lo env' st' (F j) ⟨c,G j⟩) Q) (F i) ⟨c,G i⟩):bG Y (.seq (.block id (.loop a)) r) Q env st:=by
 let W:List bW->St->Nat->Prop:=fun env st k=>∃i,env=F i/\st=⟨c,G i⟩/\P i/\μ i=k
 have least:∀env st,(∃k,W env st k)->∃k,W env st k/\∀k',W env st k'->k<=k':=by
  intro env st ⟨k,hk⟩;induction k using Nat.strongRecOn with
  |_ k ih=>
   by_cases h:∃k',k'<k/\W env st k'
   .obtain⟨k',h1,h2⟩:=h;exact ih k' h1 h2
   .exact⟨k,hk,fun k' hk'=>by
     rcases gW k' k with h1|h1
     .exact absurd ⟨k',h1,hk'⟩ h
     .exact h1⟩
 open Classical in
 refine .intro (.intro ⟨_,_,h0,fun env st=>∃k,W env st k,fun env st=>if h:∃k,W env st k then Classical.choose (least env st h)else 0,⟨_,i0,rfl,rfl,hP,rfl⟩,fun env st hk=>?_⟩);obtain⟨⟨i,e1,e2,e3,e5⟩,hmin⟩:=Classical.choose_spec (least env st hk);have:=hr i e3;rw[<-e1,<-e2]at this;refine gU htr a _ _ env st ?_ this
 .intro e env' st' h;cases e with
  |normal=>
   obtain⟨j,b3,b5,g⟩:=h;have hW:W (F j) ⟨c,G j⟩ (μ j):=⟨j,rfl,rfl,b3,rfl⟩;refine⟨F j,⟨c,G j⟩,g,⟨_,hW⟩, ?_⟩;show(if h:∃k,W (F j) ⟨c,G j⟩ k then Classical.choose (least _ _ h)else 0)<(if h:∃k,W env st k then Classical.choose (least env st h)else 0);rw[dif_pos ⟨_,hW⟩,dif_pos hk,<-e5];exact Nat.lt_of_le_of_lt ((Classical.choose_spec (least _ _ ⟨_,hW⟩)).2 _ hW) b5
  |exit j=>simp only[LQ]at h⊢;split<;>rename_i hj<;>simp only[hj,ba,bc]at h<;>exact h
  |ret=>exact h
def Hd (id:Nat)(next:List bW->St->Prop)(Q:Ex->List bW->St->Prop):Ex->List bW->St->Prop:=fun e env st=>match e with
 | .normal=>next env st
 | .exit j=>if j=id then Q .normal env st else Q (.exit j) env st
 | .ret=>Q .ret env st
def Hd.normal {id:Nat}{next:List bW->St->Prop}(h:next env st):Hd id next Q .normal env st:=h
def Hd.out {id:Nat}{next:List bW->St->Prop}(h:Q .normal env st):Hd id next Q (.exit id) env st:=by simp only[Hd,ba];exact h
def Hd.other {id j:Nat}{next:List bW->St->Prop}(hj:(j==id)=false)(h:Q (.exit j) env st):Hd id next Q (.exit j) env st:=by grind [Hd]
def Hd.ret {id:Nat}{next:List bW->St->Prop}(h:Q .ret env st):Hd id next Q .ret env st:=h
def qm (htr:Y.cd){a:AC}{id:Nat}{ι:Type}(F:ι->List bW)(G:ι->List (Nat×bR))(c:Nat)(P:ι->Prop)(μ:ι->Nat)(i0:ι)
  (hP:P i0) (h0:aX Y.lo env st (F i0) ⟨c,G i0⟩)
  (hr:∀i,P i->bG Y a (Hd id (fun env' st'=>∃j,P j/\μ j<μ i/\aX Y.lo env' st' (F j) ⟨c,G j⟩) Q) (F i) ⟨c,G i⟩):bG Y (.block id (.loop a)) Q env st:=by
 let W:List bW->St->Nat->Prop:=fun env st k=>∃i,env=F i/\st=⟨c,G i⟩/\P i/\μ i=k
 have least:∀env st,(∃k,W env st k)->∃k,W env st k/\∀k',W env st k'->k<=k':=by
  intro env st ⟨k,hk⟩;induction k using Nat.strongRecOn with
  |_ k ih=>
   by_cases h:∃k',k'<k/\W env st k'
   .obtain⟨k',h1,h2⟩:=h;exact ih k' h1 h2
   .exact⟨k,hk,fun k' hk'=>by
     rcases gW k' k with h1|h1
     .exact absurd ⟨k',h1,hk'⟩ h
     .exact h1⟩
 open Classical in
 refine .intro ⟨_,_,h0,fun env st=>∃k,W env st k,fun env st=>if h:∃k,W env st k then Classical.choose (least env st h)else 0,⟨_,i0,rfl,rfl,hP,rfl⟩,fun env st hk=>?_⟩;obtain⟨⟨i,e1,e2,e3,e5⟩,hmin⟩:=Classical.choose_spec (least env st hk);have:=hr i e3;rw[<-e1,<-e2]at this;refine gU htr a _ _ env st ?_ this
 .intro e env' st' h;cases e with
  |normal=>
   obtain⟨j,b3,b5,g⟩:=h;have hW:W (F j) ⟨c,G j⟩ (μ j):=⟨j,rfl,rfl,b3,rfl⟩;refine⟨F j,⟨c,G j⟩,g,⟨_,hW⟩, ?_⟩;show(if h:∃k,W (F j) ⟨c,G j⟩ k then Classical.choose (least _ _ h)else 0)<(if h:∃k,W env st k then Classical.choose (least env st h)else 0);rw[dif_pos ⟨_,hW⟩,dif_pos hk,<-e5];exact Nat.lt_of_le_of_lt ((Classical.choose_spec (least _ _ ⟨_,hW⟩)).2 _ hW) b5
  |exit j=>simp only[Hd]at h⊢;split<;>rename_i hj<;>simp only[hj,ba,bc]at h<;>exact h
  |ret=>exact h
def nth:List bW->Nat->bW
 |[],_=>.un
 |a::_,0=>a
 |_::r,n+1=>nth r n
def zY:∀(l:List bW) (n:Nat),l.getD n .un=nth l n
 |[],n=>by simp[nth]
 |a::_,0=>by simp[nth]
 |_::r,n+1=>by simpa[nth]using zY r n
def cF (env rs:List bW):Src->bW
 | .s n=>nth env n
 | .l p=>bif Nat.blt p rs.length then nth rs (rs.length-1-p)else .un
 | .c d=>⟨true,d⟩
theorem ng (env rs:List bW):Src.ev env rs.reverse=cF env rs:=by
 funext s;cases s with
 |s n=>exact zY env n
 |l p=>
  simp only[Src.ev,cF];cases h:Nat.blt p rs.length with
  |true=>
   have:p<rs.length:=by simp[Nat.blt]at h;omega
   rw[cond_true,<-zY]
   grind
  |false=>
   have:¬p<rs.length:=by intro e;have:Nat.blt p rs.length=true:=by {simp[Nat.blt];omega};rw[this]at h;cases h
   grind
 |c d=>rfl
def aJ (Y:Ctx)(draw:Bool)(l:List GI)(env rs:List bW)(nx:Nat)(m:List (Nat×bR))(K:List bW->St->Prop):Prop:=iz Y draw l env rs.reverse ⟨nx,m⟩ K
def Pq (env rs:List bW):List (Nat×Nat)->List bW
 |[]=>env
 |(s,p)::r=>Pq (env.set s (cF [] rs (.l p))) rs r
theorem HB (rs:List bW):∀(cm:List (Nat×Nat)) (env:List bW),iK env rs.reverse cm=Pq env rs cm
 |[],env=>rfl
 |(s,p)::r,env=>by
  simp only[iK,Pq];rw[HB rs r,<-congrFun (ng [] rs) (.l p)];rfl
def aq {draw:Bool}{ins:List GI}{cm:List (Nat×Nat)}{b:AC}{nx:Nat}{m:List (Nat×bR)}
  (h:aJ Y draw ins env [] nx m (fun vs st'=>bG Y b Q (iK env vs cm) st')):bG Y (.seq (.reg draw ins cm) b) Q env ⟨nx,m⟩:=.intro (.intro h)
def Xy {draw:Bool}{ins:List GI}{cm:List (Nat×Nat)}{nx:Nat}{m:List (Nat×bR)}
  (h:aJ Y draw ins env [] nx m (fun vs st'=>Q .normal (iK env vs cm) st')):bG Y (.reg draw ins cm) Q env ⟨nx,m⟩:=.intro h
def TQ {draw:Bool}{cm:List (Nat×Nat)}{b:AC}{nx nx':Nat}{m:List (Nat×bR)}{rs gy env':List bW}(h:bG Y b Q env' ⟨nx',m⟩)
  (he:Pq env rs cm=env':=by exact rfl) (hn:nx+rs.length=nx':=by exact wD):aJ Y draw [] gy rs nx m (fun vs st'=>bG Y b Q (iK env vs cm) st'):=by
 grind [aJ,iz,HB]
def TR {draw:Bool}{cm:List (Nat×Nat)}{nx nx':Nat}{m:List (Nat×bR)}{rs gy env':List bW}(h:Q .normal env' ⟨nx',m⟩)
  (he:Pq env rs cm=env':=by exact rfl) (hn:nx+rs.length=nx':=by exact wD):aJ Y draw [] gy rs nx m (fun vs st'=>Q .normal (iK env vs cm) st'):=by
 grind [aJ,iz,HB]
def av {c:Src}{a b r:AC}{t:Bool}(h1:t=true->bG Y (.seq a r) Q env st)(h2:t=false->bG Y (.seq b r) Q env st)(hc:cF env [] c=⟨true,.bool t⟩:=by exact rfl):bG Y (.seq (.cond c a b) r) Q env st:=by
 have hc':c.ev env []=⟨true,.bool t⟩:=by rw[<-hc,<-ng];rfl
 refine .intro (.intro ?_);simp only[hc'];refine⟨trivial,fun ht=>?_,fun ht=>?_⟩
 .obtain⟨e,s,g,h⟩:=h1 ht;exact iH g h
 .obtain⟨e,s,g,h⟩:=h2 ht;exact iH g h
def wp_cond {c:Src}{a b:AC}{t:Bool}(h1:t=true->bG Y a Q env st)(h2:t=false->bG Y b Q env st)(hc:cF env [] c=⟨true,.bool t⟩:=by exact rfl):bG Y (.cond c a b) Q env st:=by
 have hc':c.ev env []=⟨true,.bool t⟩:=by rw[<-hc,<-ng];rfl
 refine .intro ?_
 grind
theorem aX.to {lo c nx nx':Nat}{env env':List bW}{m m':List (Nat×bR)}(σ:List (Nat×Nat))(hc:nx'=c)(h:iY lo c σ=true)(he:dE lo σ env env')(hm:bm lo c σ m m'):aX lo env ⟨nx,m⟩ env' ⟨nx',m'⟩:=by
 subst hc;exact .ren σ nx' env env' nx m m' h he hm
theorem aZ {α β:Type}(q:α->β)(xs:List α):(xs.map q).take xs.length=xs.map q:=ek aT
def cg {α:Type}{q:α->D}(h:∀x,(q x).bE=true):∀xs:List α,bC (xs.map q)=true
 |[]=>rfl
 |a::r=>by simp only[List.map_cons,bC,h a,cg h r,oO]
def aX.fz {lo:Nat}{env env' env2:List bW}{nx k:Nat}{m m':List (Nat×bR)}{es:List D}{st2:St}(l:Nat)(hl:look m l=some (.buf k es))(hn:bC es=true)(he:n9 l k es env=env')(hm:oH l k es (c8 m l)=m')(h:aX lo env' ⟨nx,m'⟩ env2 st2):aX lo env ⟨nx,m⟩ env2 st2:=by
 have:=aX.OE (lo:=lo) l env ⟨nx,m⟩;simp only[Abs.OE,hl,hn,cond_true,he,hm]at this;exact .trans _ _ _ _ _ _ this h
def fu {a:AC}{nx k:Nat}{m m':List (Nat×bR)}{es:List D}{env env':List bW}(l:Nat)(h:bG Y a Q env' ⟨nx,m'⟩)(hl:look m l=some (.buf k es):=by exact rfl)(hn:bC es=true:=by first|exact rfl|exact cg (fun _=>rfl) _)
  (he:n9 l k es env=env':=by simp only[n9,kl,mY,oH,pW,c8,Nat.reduceEqDiff,ba,bc,dL,cK,cL,dJ,dK,b9,bU,aP,ct,aZ,reduceCtorEq,az,aB,Nat.reduceAdd,Nat.reduceLeDiff];exact rfl)
  (hm:oH l k es (c8 m l)=m':=by simp only[n9,kl,mY,oH,pW,c8,Nat.reduceEqDiff,ba,bc,dL,cK,cL,dJ,dK,b9,bU,aP,ct,aZ,reduceCtorEq,az,aB,Nat.reduceAdd,Nat.reduceLeDiff];exact rfl):bG Y a Q env ⟨nx,m⟩:=
 iH (aX.fz l hl hn he hm (.refl _ _)) h
def Uy.rf:∀e:List bW,Uy e e
 |[]=>trivial
 |_::r=>⟨⟨rfl,.refl _⟩,Uy.rf r⟩
def Jk.nil:Jk [] []:=⟨rfl,fun _=>.refl _⟩
def Jk.cons {x y:D}{a b:List D}(h:xQ x y)(h2:Jk a b):Jk (x::a) (y::b):=⟨by simp[h2.1],fun i=>by cases i with
 |zero=>exact h
 |succ i=>simpa using h2.2 i⟩
def Jk.rf (a:List D):Jk a a:=⟨rfl,fun _=>.refl _⟩
def Jk.map {α:Type}{q p:α->D}:∀{xs:List α},(∀x∈xs,xQ (q x) (p x))->Jk (xs.map q) (xs.map p)
 |[],_=>.nil
 |x::r,h=>.cons (h x (.head _)) (Jk.map fun y hy=>h y (.tail _ hy))
def xQ.ag {a b:List D}(h:Jk a b):xQ (.agg a) (.agg b):=.agg _ _ h.1 h.2
def xQ.ss {k:Nat}{a b:List D}(h:Jk a b):xQ (.sl k a) (.sl k b):=.sl _ _ _ h.1 h.2
def Mi.nil {m:List (Nat×bR)}:Mi m []:=trivial
def Mi.id {m r:List (Nat×bR)}{l:Nat}{b:bR}(h:look m l=some b)(h2:Mi m r):Mi m ((l,b)::r):=⟨⟨b,h,by cases b<;>first|exact⟨rfl,.rf _⟩|exact rfl⟩,h2⟩
def Mi.bf {m r:List (Nat×bR)}{l k:Nat}{es es':List D}(h:look m l=some (.buf k es))(hw:Jk es es')(h2:Mi m r):Mi m ((l,.buf k es')::r):=⟨⟨_,h,rfl,hw⟩,h2⟩
def pK {a:AC}{nx:Nat}{m:List (Nat×bR)}{env:List bW}(m':List (Nat×bR))(hm:Mi m m')(h:bG Y a Q env ⟨nx,m'⟩):bG Y a Q env ⟨nx,m⟩:=iH (.nz _ _ _ _ _ (Uy.rf _) hm) h
def dE.nil {lo:Nat}{σ:List (Nat×Nat)}:dE lo σ [] []:=trivial
def dE.un {lo:Nat}{σ:List (Nat×Nat)}{a:bW}{r s:List bW}(h:dE lo σ r s):dE lo σ (a::r) (.un::s):=⟨.inr rfl,h⟩
def dE.eq {lo:Nat}{σ:List (Nat×Nat)}{ok:Bool}{d d':D}{r s:List bW}(hd:vb lo σ d=some d')(h:dE lo σ r s):dE lo σ (⟨ok,d⟩::r) (⟨ok,d'⟩::s):=⟨.inl ⟨rfl,.inr (.inl hd)⟩,h⟩
theorem dE.nl {lo:Nat}{σ:List (Nat×Nat)}{ok:Bool}{d d':D}{r s:List bW}(hd:d'=d)(hn:d.bE=true)(h:dE lo σ r s):dE lo σ (⟨ok,d⟩::r) (⟨ok,d'⟩::s):=⟨.inl ⟨rfl,.inl ⟨hd,hn⟩⟩,h⟩
def dE.ni {lo:Nat}{σ:List (Nat×Nat)}{ok:Bool}{d d':D}{r s:List bW}(hd:vj d d')(h:dE lo σ r s):dE lo σ (⟨ok,d⟩::r) (⟨ok,d'⟩::s):=⟨.inl ⟨rfl,.inr (.inr hd)⟩,h⟩
section
variable {lo c:Nat} {σ:List (Nat×Nat)} {m r:List (Nat×bR)}
def bm.nil:bm lo c σ m []:=trivial
theorem bm.nl {k l':Nat}{es es':List D}(l:Nat)(hl:oy lo σ l=some l')(hm:look m l=some (.buf k es))(he:es'=es)(hn:bC es=true)(h:bm lo c σ m r):bm lo c σ m ((l',.buf k es')::r):=
 ⟨.inl ⟨l,_,hl,hm,rfl,.inl ⟨he,hn⟩⟩,h⟩
def bm.eq {k l':Nat}{es es':List D}(l:Nat)(hl:oy lo σ l=some l')(hm:look m l=some (.buf k es))(he:sI lo σ es=some es')(h:bm lo c σ m r):bm lo c σ m ((l',.buf k es')::r):=
 ⟨.inl ⟨l,_,hl,hm,rfl,.inr (.inl he)⟩,h⟩
def bm.ni {k l':Nat}{es es':List D}(l:Nat)(hl:oy lo σ l=some l')(hm:look m l=some (.buf k es))(he:Hq es es')(h:bm lo c σ m r):bm lo c σ m ((l',.buf k es')::r):=
 ⟨.inl ⟨l,_,hl,hm,rfl,.inr (.inr he)⟩,h⟩
def bm.gD {k l':Nat}{es':List D}(hl:oy lo σ l'=some l')(hm:look m l'=some (.buf k es'))(hn:bC es'=true)(h:bm lo c σ m r):bm lo c σ m ((l',.buf k es')::r):=.nl l' hl hm rfl hn h
def bm.OH {k l':Nat}{es' es:List D}(hl:oy lo σ l'=some l')(hm:look m l'=some (.buf k es))(he:sI lo σ es=some es')(h:bm lo c σ m r):bm lo c σ m ((l',.buf k es')::r):=.eq l' hl hm he h
def bm.mt {k l':Nat}{es':List D}(h1:Nat.ble lo l'=true)(h2:Nat.blt l' c=true)(h3:σ.all (fun p=>!Nat.beq p.2 l')=true)(he:es'=[])(h:bm lo c σ m r):bm lo c σ m ((l',.buf k es')::r):=
 ⟨.inr ⟨h1,h2,h3,k,by rw[he]⟩,h⟩
def bm.it {l' p p':Nat}{s s':List UInt8}(l:Nat)(hl:oy lo σ l=some l')(hm:look m l=some (.iter s p))(hs:s'=s)(hp:p'=p)(h:bm lo c σ m r):bm lo c σ m ((l',.iter s' p')::r):=
 ⟨.inl ⟨l,_,hl,hm,hs,hp⟩,h⟩
def bm.idi {l' p p':Nat}{s s':List UInt8}(hl:oy lo σ l'=some l')(hm:look m l'=some (.iter s p))(hs:s'=s)(hp:p'=p)(h:bm lo c σ m r):bm lo c σ m ((l',.iter s' p')::r):=.it l' hl hm hs hp h
def bm.rw {l':Nat}{s s':List UInt8}(l:Nat)(hl:oy lo σ l=some l')(hm:look m l=some (.row s))(hs:s'=s)(h:bm lo c σ m r):bm lo c σ m ((l',.row s')::r):=
 ⟨.inl ⟨l,_,hl,hm,hs⟩,h⟩
def bm.bl {l' l1 l2 n n':Nat}{u u':Bool}(l:Nat)(hl:oy lo σ l=some l')(hm:look m l=some (.bld (some l1) n u))(h1:oy lo σ l1=some l2)(hn:n'=n)(hu:u'=u)(h:bm lo c σ m r):bm lo c σ m ((l',.bld (some l2) n' u')::r):=
 ⟨.inl ⟨l,_,hl,hm,⟨l2,h1,rfl⟩,hn,hu⟩,h⟩
def bm.b0 {l' n n':Nat}{u u':Bool}(l:Nat)(hl:oy lo σ l=some l')(hm:look m l=some (.bld none n u))(hn:n'=n)(hu:u'=u)(h:bm lo c σ m r):bm lo c σ m ((l',.bld none n' u')::r):=
 ⟨.inl ⟨l,_,hl,hm,rfl,hn,hu⟩,h⟩
end
mutual
def xC (m:List (Nat×bR)):Sh->D->D
 | .a,d=>match d with
  | .aD=>.sl 0 []
  |d=>d
 | .sl k cs,d=>match d with
  | .aD=>.sl k []
  | .own l k' i c=>.sl k' ((((bn m l).drop i).take c).map fun e=>match e with
   | .agg ds=>.agg (xL m cs ds)
   |e=>xH m cs e)
  |d=>d
 | .pt cs,d=>match d with
  | .ptr l k i o=>.ref k ((bn m l).map fun e=>match e with
   | .agg ds=>.agg (xL m cs ds)
   |e=>xH m cs e) i o
  |d=>d
def xH (m:List (Nat×bR)):List Sh->D->D
 |[],d=>d
 |s::_,d=>xC m s d
def xL (m:List (Nat×bR)):List Sh->List D->List D
 |[],ds=>ds
 |s::r,ds=>match ds with
  |[]=>[]
  |d::ds=>xC m s d::xL m r ds
end
def xV (m:List (Nat×bR))(cs:List Sh):D->D
 | .agg ds=>.agg (xL m cs ds)
 |e=>xH m cs e
mutual
def U2 (m:List (Nat×bR)):Sh->D->Prop
 | .a,d=>d.bE=true
 | .sl _ cs,d=>match d with
  | .own l k' i c=>fM m l k' (i+c)/\∀e∈((bn m l).drop i).take c,(match e with
   | .agg ds=>R0 m cs ds
   |e=>U3 m cs e)
  |d=>d.bE=true
 | .pt cs,d=>match d with
  | .ptr l k _ _=>fM m l k 0/\∀e∈bn m l,(match e with
   | .agg ds=>R0 m cs ds
   |e=>U3 m cs e)
  |d=>d.bE=true
def U3 (m:List (Nat×bR)):List Sh->D->Prop
 |[],d=>d.bE=true
 |s::_,d=>U2 m s d
def R0 (m:List (Nat×bR)):List Sh->List D->Prop
 |[],ds=>bC ds=true
 |s::r,ds=>match ds with
  |[]=>True
  |d::ds=>U2 m s d/\R0 m r ds
end
def R1 (m:List (Nat×bR))(cs:List Sh):D->Prop
 | .agg ds=>R0 m cs ds
 |e=>U3 m cs e
mutual
theorem RZ (m:List (Nat×bR)):∀(s:Sh) (d:D),pz m s d=xC m s d/\(mz m s d↔U2 m s d)
 | .a,d=>by cases d<;>simp only[pz,xC,mz,U2]<;>exact⟨trivial,trivial⟩
 | .sl k cs,d=>by
  cases d<;>simp only[pz,xC,mz,U2]<;>first
   |exact⟨trivial,trivial⟩
   |skip
  rename_i l k' i c;exact⟨ar (D.sl k') (List.map_congr_left fun e _=>(GY m cs e).1),and_congr_right fun _=>forall_congr' fun e=>imp_congr_right fun _=>(GY m cs e).2⟩
 | .pt cs,d=>by
  cases d<;>simp only[pz,xC,mz,U2]<;>first
   |exact⟨trivial,trivial⟩
   |skip
  rename_i l k' i c;exact⟨ar (fun x=>D.ref k' x i c) (List.map_congr_left fun e _=>(GY m cs e).1),and_congr_right fun _=>forall_congr' fun e=>imp_congr_right fun _=>(GY m cs e).2⟩
theorem GY (m:List (Nat×bR)):∀(cs:List Sh) (d:D),kp m cs d=(match d with
   | .agg ds=>.agg (xL m cs ds)
   |e=>xH m cs e)/\(jf m cs d↔(match d with
   | .agg ds=>R0 m cs ds
   |e=>U3 m cs e))
 |[],d=>by cases d<;>simp only[kp,xH,xL,jf,U3,R0,D.bE]<;>first|exact⟨trivial,Iff.rfl⟩|exact⟨trivial,trivial⟩
 |s::r,d=>by
  cases d<;>simp only[kp,xH,jf,U3]<;>first
   |exact RZ m s _
   |skip
  rename_i ds;exact⟨ar D.agg (KG m (s::r) ds).1,(KG m (s::r) ds).2⟩
theorem KG (m:List (Nat×bR)):∀(cs:List Sh) (ds:List D),pA m cs ds=xL m cs ds/\(m5 m cs ds↔R0 m cs ds)
 |[],ds=>by simp only[pA,xL,m5,R0];exact⟨trivial,trivial⟩
 |s::r,[]=>by simp only[pA,xL,m5,R0];exact⟨trivial,trivial⟩
 |s::r,d::ds=>by
  simp only[pA,xL,m5,R0,(RZ m s d).1,(KG m r ds).1];exact⟨trivial,and_congr (RZ m s d).2 (KG m r ds).2⟩
end
theorem C1 (m:List (Nat×bR))(cs:List Sh)(d:D):kp m cs d=xV m cs d/\(jf m cs d↔R1 m cs d):=by
 have:=GY m cs d;cases d<;>exact this
def nX (m:List (Nat×bR)):List (List Sh)->List D->List D
 |_,[]=>[]
 |[],d::r=>xV m [.a] d::nX m [] r
 |s::ss,d::r=>xV m s d::nX m ss r
def kO (m:List (Nat×bR)):List (List Sh)->List D->Prop
 |_,[]=>True
 |[],d::r=>R1 m [.a] d/\kO m [] r
 |s::ss,d::r=>R1 m s d/\kO m ss r
theorem ec (m:List (Nat×bR)):∀(ss:List (List Sh)) (ds:List D),iW m ss ds=nX m ss ds/\(j7 m ss ds↔kO m ss ds)
 |ss,[]=>by simp[iW,nX,j7,kO]
 |[],d::r=>by
  simp only[iW,nX,j7,kO,(C1 m [.a] d).1,(ec m [] r).1];exact⟨trivial,and_congr (C1 m _ d).2 (ec m [] r).2⟩
 |s::ss,d::r=>by
  simp only[iW,nX,j7,kO,(C1 m s d).1,(ec m ss r).1];exact⟨trivial,and_congr (C1 m _ d).2 (ec m ss r).2⟩
def V7 (a:aF)(d:D):Ex->List bW->St->Prop:=fun e env st=>e.home/\qE st.m env a.res/\Kl a env st/\TV a env st=d
def OB (a:aF)(env:List bW)(m:List (Nat×bR)):D:=match a.res with
 |[r]=>xV m (a.rsh.getD 0 []) (Gl m env r)
 |rs=>.tup (nX m a.rsh (qF m env rs))
def C2 (a:aF)(env:List bW)(m:List (Nat×bR)):Prop:=match a.res with
 |[r]=>R1 m (a.rsh.getD 0 []) (Gl m env r)
 |rs=>kO m a.rsh (qF m env rs)
def Xk {a:aF}{d:D}{e:Ex}{nx:Nat}{m:List (Nat×bR)}(he:e.home)(h1:qE m env a.res)(h2:C2 a env m)(h3:OB a env m=d):V7 a d e env ⟨nx,m⟩:=by
 refine⟨he,h1, ?_, ?_⟩
 .unfold Kl;unfold C2 at h2;split<;>rename_i hr
  .rw[hr]at h2;exact(C1 _ _ _).2.2 h2
  .split at h2
   .rename_i hr2;exact absurd hr2 (hr _)
   .exact(ec _ _ _).2.2 h2
 grind [TV,OB,C1,ec]
def Mh (a:aF)(k:Nat)(vd sd:D):Ex->List bW->St->Prop:=fun e env st=>e.home/\qE st.m env a.res/\(lS a env st).bE=true/\lS a env st=vd/\look st.m 0=some (.buf k [sd])/\sd.bE=true
def im {a:aF}{k:Nat}{vd sd:D}{e:Ex}{nx:Nat}{m:List (Nat×bR)}(he:e.home)(h1:qE m env a.res)(h2:lS a env ⟨nx,m⟩=vd)(h3:look m 0=some (.buf k [sd]))(hn:vd.bE=true)(hs:sd.bE=true):Mh a k vd sd e env ⟨nx,m⟩:=⟨he,h1,by rw[h2];exact hn,h2,h3,hs⟩
end
end
section
section
variable {Y:Ctx} {draw:Bool} {r:List GI} {env rs:List bW} {nx:Nat} {m:List (Nat×bR)} {K:List bW->St->Prop} {g:Option (Nat×Bool)} {f:Bool}
def at8 (s:List UInt8)(i:Nat):Int:=((s.getD i 0).toNat:Int)
def vn (s:List UInt8)(i:Nat):0<=at8 s i/\at8 s i<256:=by
 have:=(s.getD i 0).toNat_lt;unfold at8;omega
def D.WD:D->Bool
 | .str _=>true
 |_=>false
def wrap_i64 {a:Int}(h1:-9223372036854775808<=a)(h2:a<=9223372036854775807):IntKind.i64.wrap a=a:=IntWalk.i64_in _ ae
def pP (a b:List UInt8):(a==b)=decide (a=b):=by
 grind
def getD_map {α:Type} [Inhabited α]{q:α->D}{xs:List α}{i:Nat}(h:i<xs.length):(xs.map q).getD i .any=q xs[i]! :=by
 simp[List.getD,h]
def Xt (b:UInt8):(D.int .u8 b.toNat).u8=b:=by simp[D.u8]
def SF (s:List UInt8):D.str ((s.map fun b=>D.int .u8 b.toNat).map D.u8)=.str s:=by
 congr 1;rw[List.map_map]
 conv=>rhs;rw[<-List.map_id s]
 apply List.map_congr_left;intro b _;exact Xt b
def GF (rs:List bW):Option (Nat×Bool)->Bool->Prop
 |none,f=>f=true
 |some (j,w),f=>∃ok b,cF [] rs (.l j)=⟨ok,.bool b⟩/\(ok&&(b==w))=f
def GF.flag (h:GF rs g f):flag rs.reverse g=f/\Bg rs.reverse g:=by
 cases g with
 |none=>exact⟨h.symm,trivial⟩
 |some jw=>
  obtain⟨j,w⟩:=jw;obtain⟨ok,b,h1,h2⟩:=h;have h3:rs.reverse.getD j .un=⟨ok,.bool b⟩:=by rw[<-h1,<-ng];rfl
  simp only[Abs.flag,Bg,h3,h2,D.isBool];exact⟨trivial,fun _=>trivial⟩
def Q7 {i:aN}(hM:i.dM=false)(hF:i.uC draw g=false)(hC:g.isSome=true->i.calm=true)(hg:GF rs g f)(d:D)(ho:f=true->i.ea Y (cF env rs) m)
  (hv:f=true->i.val Y (cF env rs) m (nx+rs.length)=d) (m':List (Nat×bR)) (hm:i.cQ Y (cF env rs) m (nx+rs.length)=m')
  (h:(f=true->i.He draw (cF env rs))->aJ Y draw r env (⟨f,d⟩::rs) nx m' K):aJ Y draw (⟨i,g⟩::r) env rs nx m K:=by
 obtain⟨hf,hb⟩:=hg.flag;unfold aJ;rw[nF hM hF,ng,hf];refine⟨?_,ho,fun ha=>⟨d,by simpa using hv, ?_⟩⟩
 .cases g with
  |none=>trivial
  |some jw=>exact⟨hC rfl,hb⟩
 grind [aJ]
def il {i:aN}(hC:i.calm=true)(hg:GF rs g f)(d:D)(ho:f=true->i.ea Y (cF env rs) m)
  (hv:f=true->i.val Y (cF env rs) m (nx+rs.length)=d) (m':List (Nat×bR)) (hm:i.cQ Y (cF env rs) m (nx+rs.length)=m')
  (h:(f=true->i.He draw (cF env rs))->aJ Y draw r env (⟨f,d⟩::rs) nx m' K):aJ Y draw (⟨i,g⟩::r) env rs nx m K:=
 Q7 (by cases i<;>first|rfl|cases hC) (by simp[aN.uC,hC]) (fun _=>hC) hg d ho hv m' hm h
def bT {i:aN}(hC:i.pure=true)(hg:GF rs g f)(d:D)(ho:f=true->i.ea Y (cF env rs) m)
  (hv:f=true->i.val Y (cF env rs) m (nx+rs.length)=d) 
  (h:(f=true->i.He draw (cF env rs))->aJ Y draw r env (⟨f,d⟩::rs) nx m K):aJ Y draw (⟨i,g⟩::r) env rs nx m K:=
 il (NB hC) hg d ho hv m (QZ hC) h
def rI {i:aN}(hM:i.dM=false)(d:D)(ho:i.ea Y (cF env rs) m)
  (hv:i.val Y (cF env rs) m (nx+rs.length)=d) (m':List (Nat×bR)) (hm:i.cQ Y (cF env rs) m (nx+rs.length)=m')
  (h:i.He draw (cF env rs)->aJ Y draw r env (⟨true,d⟩::rs) nx m' K):aJ Y draw (⟨i,none⟩::r) env rs nx m K:=
 Q7 hM (by simp[aN.uC]) (fun h=>by cases h) rfl d (fun _=>ho) (fun _=>hv) m' hm (fun ha=>h (ha rfl))
def r_mv {x:Src}{fx:Bool}{d:D}(h:aJ Y draw r env (⟨f,d⟩::rs) nx m K)(hg:GF rs g f:=by exact di)(hx:cF env rs x=⟨fx,d⟩:=by exact rfl)(kx:f=true->fx=true:=by exact b8):aJ Y draw (⟨.mv x,g⟩::r) env rs nx m K:=
 bT rfl hg _ (fun hf=>by simp[aN.ea,hx,kx hf]) (fun hf=>by simp[aN.val,hx]) (fun ha=>h)
def r_not {x:Src}{fx:Bool}{b:Bool}(h:aJ Y draw r env (⟨f,.bool (!b)⟩::rs) nx m K)(hg:GF rs g f:=by exact di)(hx:cF env rs x=⟨fx,.bool b⟩:=by exact rfl)(kx:f=true->fx=true:=by exact b8):aJ Y draw (⟨.un .not x,g⟩::r) env rs nx m K:=
 bT rfl hg _ (fun hf=>by simp[aN.ea,hx,kx hf]) (fun hf=>by simp[aN.val,hx]) (fun ha=>h)
def r_or {c b:Src}{fc fb t y:Bool}(h:aJ Y draw r env (⟨f,.bool (t ||y)⟩::rs) nx m K)(hg:GF rs g f:=by exact di)(hc:cF env rs c=⟨fc,.bool t⟩:=by exact rfl)(hb:cF env rs b=⟨fb,.bool y⟩:=by exact rfl)(kc:f=true->fc=true:=by exact b8)(kb:f=true->t=false->fb=true:=by intro h1 h2;first|(rw[h2];exact rfl)|(rw[h2,h1];rfl)|(rw[h1,h2];rfl)|simp_all):aJ Y draw (⟨.pick c (.c (.bool true)) b,g⟩::r) env rs nx m K:=
 bT rfl hg _ (fun hf=>by simp only[aN.ea,hc,hb];exact⟨kc hf,fun _=>rfl,fun e=>kb hf e⟩) (fun hf=>by simp only[aN.val,hc,hb];cases t<;>rfl) (fun _=>h)
def r_and {c a:Src}{fc fa t y:Bool}(h:aJ Y draw r env (⟨f,.bool (t&&y)⟩::rs) nx m K)(hg:GF rs g f:=by exact di)(hc:cF env rs c=⟨fc,.bool t⟩:=by exact rfl)(ha:cF env rs a=⟨fa,.bool y⟩:=by exact rfl)(kc:f=true->fc=true:=by exact b8)(ka:f=true->t=true->fa=true:=by intro h1 h2;first|(rw[h2];exact rfl)|(rw[h2,h1];rfl)|(rw[h1,h2];rfl)|simp_all):aJ Y draw (⟨.pick c a (.c (.bool false)),g⟩::r) env rs nx m K:=
 bT rfl hg _ (fun hf=>by simp only[aN.ea,hc,ha];exact⟨kc hf,fun e=>ka hf e,fun _=>rfl⟩) (fun hf=>by simp only[aN.val,hc,ha];cases t<;>rfl) (fun _=>h)
def TN {x y:Src}{fx fy:Bool}{a b:Int}(h:aJ Y draw r env (⟨f,.int .i64 (a+b)⟩::rs) nx m K)(hg:GF rs g f:=by exact di)(hx:cF env rs x=⟨fx,.int .i64 a⟩:=by exact rfl)(hy:cF env rs y=⟨fy,.int .i64 b⟩:=by exact rfl)(kx:f=true->fx=true:=by exact b8)(ky:f=true->fy=true:=by exact b8)(hb:f=true->-9223372036854775808<=a+b/\a+b<=9223372036854775807:=by exact G0):aJ Y draw (⟨.bin .add x y,g⟩::r) env rs nx m K:=
 bT rfl hg _ (fun hf=>by simp[aN.ea,hx,hy,kx hf,ky hf,jB]) (fun hf=>by simp only[aN.val,hx,hy,jS];rw[wrap_i64 (hb hf).1 (hb hf).2]) (fun ha=>h)
def Ao {x y:Src}{fx fy:Bool}{k:IntKind}{a b:Int}(v:Int)(h:aJ Y draw r env (⟨f,.int k v⟩::rs) nx m K)(hg:GF rs g f:=by exact di)(hx:cF env rs x=⟨fx,.int k a⟩:=by exact rfl)(hy:cF env rs y=⟨fy,.int k b⟩:=by exact rfl)(kx:f=true->fx=true:=by exact b8)(ky:f=true->fy=true:=by exact b8)(hb:f=true->k.wrap (a+b)=v):aJ Y draw (⟨.bin .add x y,g⟩::r) env rs nx m K:=
 bT rfl hg _ (fun hf=>by simp[aN.ea,hx,hy,kx hf,ky hf,jB]) (fun hf=>by simp only[aN.val,hx,hy,jS];rw[hb hf]) (fun ha=>h)
def Kf {x y:Src}{fx fy:Bool}{a b:Int}(h:aJ Y draw r env (⟨f,.int .i64 (a-b)⟩::rs) nx m K)(hg:GF rs g f:=by exact di)(hx:cF env rs x=⟨fx,.int .i64 a⟩:=by exact rfl)(hy:cF env rs y=⟨fy,.int .i64 b⟩:=by exact rfl)(kx:f=true->fx=true:=by exact b8)(ky:f=true->fy=true:=by exact b8)(hb:f=true->-9223372036854775808<=a-b/\a-b<=9223372036854775807:=by exact G0):aJ Y draw (⟨.bin .sub x y,g⟩::r) env rs nx m K:=
 bT rfl hg _ (fun hf=>by simp[aN.ea,hx,hy,kx hf,ky hf,jB]) (fun hf=>by simp only[aN.val,hx,hy,jS];rw[wrap_i64 (hb hf).1 (hb hf).2]) (fun ha=>h)
def tK {x y:Src}{fx fy:Bool}{k:IntKind}{a b:Int}(v:Int)(h:aJ Y draw r env (⟨f,.int k v⟩::rs) nx m K)(hg:GF rs g f:=by exact di)(hx:cF env rs x=⟨fx,.int k a⟩:=by exact rfl)(hy:cF env rs y=⟨fy,.int k b⟩:=by exact rfl)(kx:f=true->fx=true:=by exact b8)(ky:f=true->fy=true:=by exact b8)(hb:f=true->k.wrap (a-b)=v):aJ Y draw (⟨.bin .sub x y,g⟩::r) env rs nx m K:=
 bT rfl hg _ (fun hf=>by simp[aN.ea,hx,hy,kx hf,ky hf,jB]) (fun hf=>by simp only[aN.val,hx,hy,jS];rw[hb hf]) (fun ha=>h)
def ox {x y:Src}{fx fy:Bool}{a b:Int}(h:aJ Y draw r env (⟨f,.int .i64 (a*b)⟩::rs) nx m K)(hg:GF rs g f:=by exact di)(hx:cF env rs x=⟨fx,.int .i64 a⟩:=by exact rfl)(hy:cF env rs y=⟨fy,.int .i64 b⟩:=by exact rfl)(kx:f=true->fx=true:=by exact b8)(ky:f=true->fy=true:=by exact b8)(hb:f=true->-9223372036854775808<=a*b/\a*b<=9223372036854775807:=by exact G0):aJ Y draw (⟨.bin .mul x y,g⟩::r) env rs nx m K:=
 bT rfl hg _ (fun hf=>by simp[aN.ea,hx,hy,kx hf,ky hf,jB]) (fun hf=>by simp only[aN.val,hx,hy,jS];rw[wrap_i64 (hb hf).1 (hb hf).2]) (fun ha=>h)
def Rg {x y:Src}{fx fy:Bool}{k:IntKind}{a b:Int}(v:Int)(h:aJ Y draw r env (⟨f,.int k v⟩::rs) nx m K)(hg:GF rs g f:=by exact di)(hx:cF env rs x=⟨fx,.int k a⟩:=by exact rfl)(hy:cF env rs y=⟨fy,.int k b⟩:=by exact rfl)(kx:f=true->fx=true:=by exact b8)(ky:f=true->fy=true:=by exact b8)(hb:f=true->k.wrap (a*b)=v):aJ Y draw (⟨.bin .mul x y,g⟩::r) env rs nx m K:=
 bT rfl hg _ (fun hf=>by simp[aN.ea,hx,hy,kx hf,ky hf,jB]) (fun hf=>by simp only[aN.val,hx,hy,jS];rw[hb hf]) (fun ha=>h)
def r_quo {x y:Src}{fx fy:Bool}{k:IntKind}{a b:Int}(v:Int)(h:aJ Y draw r env (⟨f,.int k v⟩::rs) nx m K)(hg:GF rs g f:=by exact di)(hx:cF env rs x=⟨fx,.int k a⟩:=by exact rfl)(hy:cF env rs y=⟨fy,.int k b⟩:=by exact rfl)(kx:f=true->fx=true:=by exact b8)(ky:f=true->fy=true:=by exact b8)(hn:f=true->b≠0)(hb:f=true->k.wrap (a.tdiv b)=v):aJ Y draw (⟨.bin .quo x y,g⟩::r) env rs nx m K:=
 bT rfl hg _ (fun hf=>by simp[aN.ea,hx,hy,kx hf,ky hf,jB,hn hf]) (fun hf=>by simp only[aN.val,hx,hy,jS];rw[hb hf]) (fun ha=>h)
def Kd {x y:Src}{fx fy:Bool}{k:IntKind}{a b:Int}(v:Int)(h:aJ Y draw r env (⟨f,.int k v⟩::rs) nx m K)(hg:GF rs g f:=by exact di)(hx:cF env rs x=⟨fx,.int k a⟩:=by exact rfl)(hy:cF env rs y=⟨fy,.int k b⟩:=by exact rfl)(kx:f=true->fx=true:=by exact b8)(ky:f=true->fy=true:=by exact b8)(hn:f=true->b≠0)(hb:f=true->a.tmod b=v):aJ Y draw (⟨.bin .rem x y,g⟩::r) env rs nx m K:=
 bT rfl hg _ (fun hf=>by simp[aN.ea,hx,hy,kx hf,ky hf,jB,hn hf]) (fun hf=>by simp only[aN.val,hx,hy,jS];rw[hb hf]) (fun ha=>h)
def Ke {x y:Src}{fx fy:Bool}{k k2:IntKind}{a b:Int}(v:Int)(h:aJ Y draw r env (⟨f,.int k v⟩::rs) nx m K)(hg:GF rs g f:=by exact di)(hx:cF env rs x=⟨fx,.int k a⟩:=by exact rfl)(hy:cF env rs y=⟨fy,.int k2 b⟩:=by exact rfl)(kx:f=true->fx=true:=by exact b8)(ky:f=true->fy=true:=by exact b8)(hn:f=true->0<=b:=by exact ua)(hb:f=true->k.wrap (a*2^(min b.toNat k.bits))=v):aJ Y draw (⟨.bin .shl x y,g⟩::r) env rs nx m K:=
 bT rfl hg _ (fun hf=>by simp[aN.ea,hx,hy,kx hf,ky hf,jB,hn hf]) (fun hf=>by simp only[aN.val,hx,hy,jS];rw[hb hf]) (fun ha=>h)
def uL {x y:Src}{fx fy:Bool}{k k2:IntKind}{a b:Int}(v:Int)(h:aJ Y draw r env (⟨f,.int k v⟩::rs) nx m K)(hg:GF rs g f:=by exact di)(hx:cF env rs x=⟨fx,.int k a⟩:=by exact rfl)(hy:cF env rs y=⟨fy,.int k2 b⟩:=by exact rfl)(kx:f=true->fx=true:=by exact b8)(ky:f=true->fy=true:=by exact b8)(hn:f=true->0<=b:=by exact ua)(hb:f=true->a.fdiv (2^(min b.toNat k.bits))=v):aJ Y draw (⟨.bin .shr x y,g⟩::r) env rs nx m K:=
 bT rfl hg _ (fun hf=>by simp[aN.ea,hx,hy,kx hf,ky hf,jB,hn hf]) (fun hf=>by simp only[aN.val,hx,hy,jS];rw[hb hf]) (fun ha=>h)
def we {x y:Src}{fx fy:Bool}{k:IntKind}{a b:Int}(v:Int)(h:aJ Y draw r env (⟨f,.int k v⟩::rs) nx m K)(hg:GF rs g f:=by exact di)(hx:cF env rs x=⟨fx,.int k a⟩:=by exact rfl)(hy:cF env rs y=⟨fy,.int k b⟩:=by exact rfl)(kx:f=true->fx=true:=by exact b8)(ky:f=true->fy=true:=by exact b8)(hb:f=true->k.wrap (((BitVec.ofInt k.bits a)&&&(BitVec.ofInt k.bits b)).toNat)=v):aJ Y draw (⟨.bin .and x y,g⟩::r) env rs nx m K:=
 bT rfl hg _ (fun hf=>by simp[aN.ea,hx,hy,kx hf,ky hf,jB]) (fun hf=>by simp only[aN.val,hx,hy,jS];rw[hb hf]) (fun ha=>h)
def J9 {x y:Src}{fx fy:Bool}{k:IntKind}{a b:Int}(v:Int)(h:aJ Y draw r env (⟨f,.int k v⟩::rs) nx m K)(hg:GF rs g f:=by exact di)(hx:cF env rs x=⟨fx,.int k a⟩:=by exact rfl)(hy:cF env rs y=⟨fy,.int k b⟩:=by exact rfl)(kx:f=true->fx=true:=by exact b8)(ky:f=true->fy=true:=by exact b8)(hb:f=true->k.wrap (((BitVec.ofInt k.bits a) |||(BitVec.ofInt k.bits b)).toNat)=v):aJ Y draw (⟨.bin .or x y,g⟩::r) env rs nx m K:=
 bT rfl hg _ (fun hf=>by simp[aN.ea,hx,hy,kx hf,ky hf,jB]) (fun hf=>by simp only[aN.val,hx,hy,jS];rw[hb hf]) (fun ha=>h)
def DR {x y:Src}{fx fy:Bool}{k:IntKind}{a b:Int}(v:Int)(h:aJ Y draw r env (⟨f,.int k v⟩::rs) nx m K)(hg:GF rs g f:=by exact di)(hx:cF env rs x=⟨fx,.int k a⟩:=by exact rfl)(hy:cF env rs y=⟨fy,.int k b⟩:=by exact rfl)(kx:f=true->fx=true:=by exact b8)(ky:f=true->fy=true:=by exact b8)(hb:f=true->k.wrap (((BitVec.ofInt k.bits a)^^^(BitVec.ofInt k.bits b)).toNat)=v):aJ Y draw (⟨.bin .xor x y,g⟩::r) env rs nx m K:=
 bT rfl hg _ (fun hf=>by simp[aN.ea,hx,hy,kx hf,ky hf,jB]) (fun hf=>by simp only[aN.val,hx,hy,jS];rw[hb hf]) (fun ha=>h)
def Re {x y:Src}{fx fy:Bool}{k:IntKind}{a b:Int}(h:aJ Y draw r env (⟨f,.bool (decide (a<b))⟩::rs) nx m K)(hg:GF rs g f:=by exact di)(hx:cF env rs x=⟨fx,.int k a⟩:=by exact rfl)(hy:cF env rs y=⟨fy,.int k b⟩:=by exact rfl)(kx:f=true->fx=true:=by exact b8)(ky:f=true->fy=true:=by exact b8):aJ Y draw (⟨.bin .lss x y,g⟩::r) env rs nx m K:=
 bT rfl hg _ (fun hf=>by simp[aN.ea,hx,hy,kx hf,ky hf,jB]) (fun hf=>by simp only[aN.val,hx,hy,jS]<;>rfl) (fun ha=>h)
def Xb {x y:Src}{fx fy:Bool}{k:IntKind}{a b:Int}(h:aJ Y draw r env (⟨f,.bool (decide (a<=b))⟩::rs) nx m K)(hg:GF rs g f:=by exact di)(hx:cF env rs x=⟨fx,.int k a⟩:=by exact rfl)(hy:cF env rs y=⟨fy,.int k b⟩:=by exact rfl)(kx:f=true->fx=true:=by exact b8)(ky:f=true->fy=true:=by exact b8):aJ Y draw (⟨.bin .leq x y,g⟩::r) env rs nx m K:=
 bT rfl hg _ (fun hf=>by simp[aN.ea,hx,hy,kx hf,ky hf,jB]) (fun hf=>by simp only[aN.val,hx,hy,jS]<;>rfl) (fun ha=>h)
def Iq {x y:Src}{fx fy:Bool}{k:IntKind}{a b:Int}(h:aJ Y draw r env (⟨f,.bool (decide (b<a))⟩::rs) nx m K)(hg:GF rs g f:=by exact di)(hx:cF env rs x=⟨fx,.int k a⟩:=by exact rfl)(hy:cF env rs y=⟨fy,.int k b⟩:=by exact rfl)(kx:f=true->fx=true:=by exact b8)(ky:f=true->fy=true:=by exact b8):aJ Y draw (⟨.bin .gtr x y,g⟩::r) env rs nx m K:=
 bT rfl hg _ (fun hf=>by simp[aN.ea,hx,hy,kx hf,ky hf,jB]) (fun hf=>by simp only[aN.val,hx,hy,jS]<;>rfl) (fun ha=>h)
def W6 {x y:Src}{fx fy:Bool}{k:IntKind}{a b:Int}(h:aJ Y draw r env (⟨f,.bool (decide (b<=a))⟩::rs) nx m K)(hg:GF rs g f:=by exact di)(hx:cF env rs x=⟨fx,.int k a⟩:=by exact rfl)(hy:cF env rs y=⟨fy,.int k b⟩:=by exact rfl)(kx:f=true->fx=true:=by exact b8)(ky:f=true->fy=true:=by exact b8):aJ Y draw (⟨.bin .geq x y,g⟩::r) env rs nx m K:=
 bT rfl hg _ (fun hf=>by simp[aN.ea,hx,hy,kx hf,ky hf,jB]) (fun hf=>by simp only[aN.val,hx,hy,jS]<;>rfl) (fun ha=>h)
def W4 {x y:Src}{fx fy:Bool}{k:IntKind}{a b:Int}(h:aJ Y draw r env (⟨f,.bool (decide (a=b))⟩::rs) nx m K)(hg:GF rs g f:=by exact di)(hx:cF env rs x=⟨fx,.int k a⟩:=by exact rfl)(hy:cF env rs y=⟨fy,.int k b⟩:=by exact rfl)(kx:f=true->fx=true:=by exact b8)(ky:f=true->fy=true:=by exact b8):aJ Y draw (⟨.bin .eql x y,g⟩::r) env rs nx m K:=
 bT rfl hg _ (fun hf=>by simp[aN.ea,hx,hy,kx hf,ky hf,jB]) (fun hf=>by simp only[aN.val,hx,hy,jS]<;>rfl) (fun ha=>h)
def Xd {x y:Src}{fx fy:Bool}{k:IntKind}{a b:Int}(h:aJ Y draw r env (⟨f,.bool (!decide (a=b))⟩::rs) nx m K)(hg:GF rs g f:=by exact di)(hx:cF env rs x=⟨fx,.int k a⟩:=by exact rfl)(hy:cF env rs y=⟨fy,.int k b⟩:=by exact rfl)(kx:f=true->fx=true:=by exact b8)(ky:f=true->fy=true:=by exact b8):aJ Y draw (⟨.bin .neq x y,g⟩::r) env rs nx m K:=
 bT rfl hg _ (fun hf=>by simp[aN.ea,hx,hy,kx hf,ky hf,jB]) (fun hf=>by simp only[aN.val,hx,hy,jS]<;>rfl) (fun ha=>h)
def Rf {x y:Src}{fx fy:Bool}{a b:List UInt8}(h:aJ Y draw r env (⟨f,.bool (Op.bytesLess a b)⟩::rs) nx m K)(hg:GF rs g f:=by exact di)(hx:cF env rs x=⟨fx,.str a⟩:=by exact rfl)(hy:cF env rs y=⟨fy,.str b⟩:=by exact rfl)(kx:f=true->fx=true:=by exact b8)(ky:f=true->fy=true:=by exact b8):aJ Y draw (⟨.bin .lss x y,g⟩::r) env rs nx m K:=
 bT rfl hg _ (fun hf=>by simp[aN.ea,hx,hy,kx hf,ky hf,jB]) (fun hf=>by simp only[aN.val,hx,hy,jS,pP]) (fun ha=>h)
def Xc {x y:Src}{fx fy:Bool}{a b:List UInt8}(h:aJ Y draw r env (⟨f,.bool (Op.bytesLess a b ||decide (a=b))⟩::rs) nx m K)(hg:GF rs g f:=by exact di)(hx:cF env rs x=⟨fx,.str a⟩:=by exact rfl)(hy:cF env rs y=⟨fy,.str b⟩:=by exact rfl)(kx:f=true->fx=true:=by exact b8)(ky:f=true->fy=true:=by exact b8):aJ Y draw (⟨.bin .leq x y,g⟩::r) env rs nx m K:=
 bT rfl hg _ (fun hf=>by simp[aN.ea,hx,hy,kx hf,ky hf,jB]) (fun hf=>by simp only[aN.val,hx,hy,jS,pP]) (fun ha=>h)
def Ir {x y:Src}{fx fy:Bool}{a b:List UInt8}(h:aJ Y draw r env (⟨f,.bool (!(Op.bytesLess a b ||decide (a=b)))⟩::rs) nx m K)(hg:GF rs g f:=by exact di)(hx:cF env rs x=⟨fx,.str a⟩:=by exact rfl)(hy:cF env rs y=⟨fy,.str b⟩:=by exact rfl)(kx:f=true->fx=true:=by exact b8)(ky:f=true->fy=true:=by exact b8):aJ Y draw (⟨.bin .gtr x y,g⟩::r) env rs nx m K:=
 bT rfl hg _ (fun hf=>by simp[aN.ea,hx,hy,kx hf,ky hf,jB]) (fun hf=>by simp only[aN.val,hx,hy,jS,pP]) (fun ha=>h)
def W7 {x y:Src}{fx fy:Bool}{a b:List UInt8}(h:aJ Y draw r env (⟨f,.bool (!Op.bytesLess a b)⟩::rs) nx m K)(hg:GF rs g f:=by exact di)(hx:cF env rs x=⟨fx,.str a⟩:=by exact rfl)(hy:cF env rs y=⟨fy,.str b⟩:=by exact rfl)(kx:f=true->fx=true:=by exact b8)(ky:f=true->fy=true:=by exact b8):aJ Y draw (⟨.bin .geq x y,g⟩::r) env rs nx m K:=
 bT rfl hg _ (fun hf=>by simp[aN.ea,hx,hy,kx hf,ky hf,jB]) (fun hf=>by simp only[aN.val,hx,hy,jS,pP]) (fun ha=>h)
def W5 {x y:Src}{fx fy:Bool}{a b:List UInt8}(h:aJ Y draw r env (⟨f,.bool (decide (a=b))⟩::rs) nx m K)(hg:GF rs g f:=by exact di)(hx:cF env rs x=⟨fx,.str a⟩:=by exact rfl)(hy:cF env rs y=⟨fy,.str b⟩:=by exact rfl)(kx:f=true->fx=true:=by exact b8)(ky:f=true->fy=true:=by exact b8):aJ Y draw (⟨.bin .eql x y,g⟩::r) env rs nx m K:=
 bT rfl hg _ (fun hf=>by simp[aN.ea,hx,hy,kx hf,ky hf,jB]) (fun hf=>by simp only[aN.val,hx,hy,jS,pP]) (fun ha=>h)
def Xe {x y:Src}{fx fy:Bool}{a b:List UInt8}(h:aJ Y draw r env (⟨f,.bool (!decide (a=b))⟩::rs) nx m K)(hg:GF rs g f:=by exact di)(hx:cF env rs x=⟨fx,.str a⟩:=by exact rfl)(hy:cF env rs y=⟨fy,.str b⟩:=by exact rfl)(kx:f=true->fx=true:=by exact b8)(ky:f=true->fy=true:=by exact b8):aJ Y draw (⟨.bin .neq x y,g⟩::r) env rs nx m K:=
 bT rfl hg _ (fun hf=>by simp[aN.ea,hx,hy,kx hf,ky hf,jB]) (fun hf=>by simp only[aN.val,hx,hy,jS,pP]) (fun ha=>h)
def c9 {x y:Src}{fx fy:Bool}{a b:List UInt8}(h:aJ Y draw r env (⟨f,.str (a++b)⟩::rs) nx m K)(hg:GF rs g f:=by exact di)(hx:cF env rs x=⟨fx,.str a⟩:=by exact rfl)(hy:cF env rs y=⟨fy,.str b⟩:=by exact rfl)(kx:f=true->fx=true:=by exact b8)(ky:f=true->fy=true:=by exact b8)(hb:f=true->a.length+b.length<=9223372036854775807):aJ Y draw (⟨.bin .add x y,g⟩::r) env rs nx m K:=
 bT rfl hg _ (fun hf=>by simp[aN.ea,hx,hy,kx hf,ky hf,jB,hb hf]) (fun hf=>by simp only[aN.val,hx,hy,jS]) (fun ha=>h)
def UT {x y:Src}{fx fy:Bool}{ag:Bool}{ks:List CK}{a b:D}{v:Bool}(h:aJ Y draw r env (⟨f,.bool (v)⟩::rs) nx m K)(hb:jd a.cells b.cells=v)(hg:GF rs g f:=by exact di)(hx:cF env rs x=⟨fx,a⟩:=by exact rfl)(hy:cF env rs y=⟨fy,b⟩:=by exact rfl)(kx:f=true->fx=true:=by exact b8)(ky:f=true->fy=true:=by exact b8)(h1:f=true->a.isAgg=ag/\b.isAgg=ag/\gz ks a.cells/\gz ks b.cells:=by exact xP):aJ Y draw (⟨.eqA false ag ks x y,g⟩::r) env rs nx m K:=
 bT rfl hg _ (fun hf=>by simp only[aN.ea,hx,hy];exact⟨kx hf,ky hf,h1 hf⟩) (fun hf=>by simp only[aN.val,hx,hy];rw[hb];rfl) (fun ha=>h)
def Kb {x y:Src}{fx fy:Bool}{ag:Bool}{ks:List CK}{a b:D}{v:Bool}(h:aJ Y draw r env (⟨f,.bool (!v)⟩::rs) nx m K)(hb:jd a.cells b.cells=v)(hg:GF rs g f:=by exact di)(hx:cF env rs x=⟨fx,a⟩:=by exact rfl)(hy:cF env rs y=⟨fy,b⟩:=by exact rfl)(kx:f=true->fx=true:=by exact b8)(ky:f=true->fy=true:=by exact b8)(h1:f=true->a.isAgg=ag/\b.isAgg=ag/\gz ks a.cells/\gz ks b.cells:=by exact xP):aJ Y draw (⟨.eqA true ag ks x y,g⟩::r) env rs nx m K:=
 bT rfl hg _ (fun hf=>by simp only[aN.ea,hx,hy];exact⟨kx hf,ky hf,h1 hf⟩) (fun hf=>by simp only[aN.val,hx,hy];rw[hb];rfl) (fun ha=>h)
def ov {x:Src}{fx:Bool}{k k2:IntKind}{a:Int}(v:Int)(h:aJ Y draw r env (⟨f,.int k v⟩::rs) nx m K)(hg:GF rs g f:=by exact di)(hx:cF env rs x=⟨fx,.int k2 a⟩:=by exact rfl)(kx:f=true->fx=true:=by exact b8)(hb:f=true->k.wrap a=v):aJ Y draw (⟨.cvi k x,g⟩::r) env rs nx m K:=
 bT rfl hg _ (fun hf=>by simp[aN.ea,hx,kx hf]) (fun hf=>by simp only[aN.val,hx];rw[hb hf]) (fun ha=>h)
def Rd {x:Src}{fx:Bool}{s:List UInt8}(h:(f=true->draw=false->s.length<=9223372036854775807)->aJ Y draw r env (⟨f,.int .i64 s.length⟩::rs) nx m K)(hg:GF rs g f:=by exact di)(hx:cF env rs x=⟨fx,.str s⟩:=by exact rfl)(kx:f=true->fx=true:=by exact b8):aJ Y draw (⟨.lenS x,g⟩::r) env rs nx m K:=
 bT rfl hg _ (fun hf=>by simp[aN.ea,hx,kx hf]) (fun hf=>by simp[aN.val,hx]) (fun ha=>h (fun hf hd=>by have:=ha hf;subst hd;simpa[aN.He,hx,kx hf]using this))
def Rb {x:Src}{fx:Bool}{α:Type}{k:Nat}{q:α->D}{xs:List α}(h:(f=true->draw=false->xs.length<=9223372036854775807)->aJ Y draw r env (⟨f,.int .i64 xs.length⟩::rs) nx m K)(hg:GF rs g f:=by exact di)(hx:cF env rs x=⟨fx,.sl k (xs.map q)⟩:=by exact rfl)(kx:f=true->fx=true:=by exact b8):aJ Y draw (⟨.len x,g⟩::r) env rs nx m K:=
 bT rfl hg _ (fun hf=>by simp[aN.ea,hx,kx hf]) (fun hf=>by simp[aN.val,hx]) (fun ha=>h (fun hf hd=>by have:=ha hf;subst hd;simpa[aN.He,hx,kx hf]using this))
def Rc {x:Src}{fx:Bool}{l k i n:Nat}(h:(f=true->draw=false->n<=9223372036854775807)->aJ Y draw r env (⟨f,.int .i64 n⟩::rs) nx m K)(hg:GF rs g f:=by exact di)(hx:cF env rs x=⟨fx,.own l k i n⟩:=by exact rfl)(kx:f=true->fx=true:=by exact b8):aJ Y draw (⟨.len x,g⟩::r) env rs nx m K:=
 bT rfl hg _ (fun hf=>by simp[aN.ea,hx,kx hf]) (fun hf=>by simp[aN.val,hx]) (fun ha=>h (fun hf hd=>by have:=ha hf;subst hd;simpa[aN.He,hx,kx hf]using this))
def Xa {x:Src}{fx:Bool}(h:aJ Y draw r env (⟨f,.int .i64 0⟩::rs) nx m K)(hg:GF rs g f:=by exact di)(hx:cF env rs x=⟨fx,.aD⟩:=by exact rfl)(kx:f=true->fx=true:=by exact b8):aJ Y draw (⟨.len x,g⟩::r) env rs nx m K:=
 bT rfl hg _ (fun hf=>by simp[aN.ea,hx,kx hf]) (fun hf=>by simp[aN.val,hx]) (fun ha=>h)
def Xf {x:Src}{fx:Bool}{l k i o:Nat}(h:aJ Y draw r env (⟨f,.ptr l k i o⟩::rs) nx m K)(hg:GF rs g f:=by exact di)(hx:cF env rs x=⟨fx,.ptr l k i o⟩:=by exact rfl)(kx:f=true->fx=true:=by exact b8):aJ Y draw (⟨.nilck x,g⟩::r) env rs nx m K:=
 bT rfl hg _ (fun hf=>by simp[aN.ea,hx,kx hf]) (fun hf=>by simp[aN.val,hx]) (fun ha=>h)
def Xg {x:Src}{fx:Bool}{k i o:Nat}{es:List D}(h:aJ Y draw r env (⟨f,.ref k es i o⟩::rs) nx m K)(hg:GF rs g f:=by exact di)(hx:cF env rs x=⟨fx,.ref k es i o⟩:=by exact rfl)(kx:f=true->fx=true:=by exact b8):aJ Y draw (⟨.nilck x,g⟩::r) env rs nx m K:=
 bT rfl hg _ (fun hf=>by simp[aN.ea,hx,kx hf]) (fun hf=>by simp[aN.val,hx]) (fun ha=>h)
def r_faP {x:Src}{fx:Bool}{off l k i o:Nat}(h:aJ Y draw r env (⟨f,.ptr l k i (o+off)⟩::rs) nx m K)(hg:GF rs g f:=by exact di)(hx:cF env rs x=⟨fx,.ptr l k i o⟩:=by exact rfl)(kx:f=true->fx=true:=by exact b8):aJ Y draw (⟨.fa off x,g⟩::r) env rs nx m K:=
 bT rfl hg _ (fun hf=>by simp[aN.ea,hx,kx hf]) (fun hf=>by simp[aN.val,hx]) (fun ha=>h)
def r_faR {x:Src}{fx:Bool}{off k i o:Nat}{es:List D}(h:aJ Y draw r env (⟨f,.ref k es i (o+off)⟩::rs) nx m K)(hg:GF rs g f:=by exact di)(hx:cF env rs x=⟨fx,.ref k es i o⟩:=by exact rfl)(kx:f=true->fx=true:=by exact b8):aJ Y draw (⟨.fa off x,g⟩::r) env rs nx m K:=
 bT rfl hg _ (fun hf=>by simp[aN.ea,hx,kx hf]) (fun hf=>by simp[aN.val,hx]) (fun ha=>h)
def cb {x y:Src}{fx fy:Bool}{α:Type}{k:Nat}{q:α->D}{xs:List α}{i:Int}{kk:IntKind}(j:Nat)(h:aJ Y draw r env (⟨f,.ref k (xs.map q) j 0⟩::rs) nx m K)(hg:GF rs g f:=by exact di)(hx:cF env rs x=⟨fx,.sl k (xs.map q)⟩:=by exact rfl)(hy:cF env rs y=⟨fy,.int kk i⟩:=by exact rfl)(kx:f=true->fx=true:=by exact b8)(ky:f=true->fy=true:=by exact b8)(hj:f=true->i=(j:Int):=by exact uX)(hb:f=true->j<xs.length:=by exact ua):aJ Y draw (⟨.ia k x y,g⟩::r) env rs nx m K:=
 bT rfl hg _ (fun hf=>by simp only[aN.ea,hx,hy,bU];exact⟨kx hf,ky hf,trivial,by have:=hj hf;omega,by have:=hj hf;have:=hb hf;omega⟩) (fun hf=>by simp only[aN.val,hx,hy];rw[hj hf];rfl) (fun ha=>h)
def kN {x y:Src}{fx fy:Bool}{l k i0 n:Nat}{i:Int}{kk:IntKind}(j:Nat)(h:aJ Y draw r env (⟨f,.ptr l k (i0+j) 0⟩::rs) nx m K)(hg:GF rs g f:=by exact di)(hx:cF env rs x=⟨fx,.own l k i0 n⟩:=by exact rfl)(hy:cF env rs y=⟨fy,.int kk i⟩:=by exact rfl)(kx:f=true->fx=true:=by exact b8)(ky:f=true->fy=true:=by exact b8)(hj:f=true->i=(j:Int):=by exact uX)(hb:f=true->j<n:=by exact ua):aJ Y draw (⟨.ia k x y,g⟩::r) env rs nx m K:=
 bT rfl hg _ (fun hf=>by simp only[aN.ea,hx,hy];exact⟨kx hf,ky hf,trivial,by have:=hj hf;omega,by have:=hj hf;have:=hb hf;omega⟩) (fun hf=>by simp only[aN.val,hx,hy];rw[hj hf];rfl) (fun ha=>h)
def rE {x y:Src}{fx fy:Bool}{l k k2 n i0 o:Nat}{i:Int}{kk:IntKind}(j:Nat)(h:aJ Y draw r env (⟨f,.ptr l k2 i0 (o+j*k)⟩::rs) nx m K)(hg:GF rs g f:=by exact di)(hx:cF env rs x=⟨fx,.ptr l k2 i0 o⟩:=by exact rfl)(hy:cF env rs y=⟨fy,.int kk i⟩:=by exact rfl)(kx:f=true->fx=true:=by exact b8)(ky:f=true->fy=true:=by exact b8)(hj:f=true->i=(j:Int):=by exact uX)(hb:f=true->j<n:=by exact ua):aJ Y draw (⟨.iaP n k x y,g⟩::r) env rs nx m K:=
 bT rfl hg _ (fun hf=>by simp only[aN.ea,hx,hy];exact⟨kx hf,ky hf,by have:=hj hf;omega,by have:=hj hf;have:=hb hf;omega⟩) (fun hf=>by simp only[aN.val,hx,hy];rw[hj hf];rfl) (fun ha=>h)
def Is {x y:Src}{fx fy:Bool}{k k2 n i0 o:Nat}{es:List D}{i:Int}{kk:IntKind}(j:Nat)(h:aJ Y draw r env (⟨f,.ref k2 es i0 (o+j*k)⟩::rs) nx m K)(hg:GF rs g f:=by exact di)(hx:cF env rs x=⟨fx,.ref k2 es i0 o⟩:=by exact rfl)(hy:cF env rs y=⟨fy,.int kk i⟩:=by exact rfl)(kx:f=true->fx=true:=by exact b8)(ky:f=true->fy=true:=by exact b8)(hj:f=true->i=(j:Int):=by first|exact fun _=>rfl|(intro _;omega))(hb:f=true->j<n:=by intro _;omega):aJ Y draw (⟨.iaP n k x y,g⟩::r) env rs nx m K:=
 bT rfl hg _ (fun hf=>by simp only[aN.ea,hx,hy];exact⟨kx hf,ky hf,by have:=hj hf;omega,by have:=hj hf;have:=hb hf;omega⟩) (fun hf=>by simp only[aN.val,hx,hy];rw[hj hf];rfl) (fun ha=>h)
def ow {x y:Src}{fx fy:Bool}{s:List UInt8}{i:Int}{kk:IntKind}(j:Nat)(h:aJ Y draw r env (⟨f,.int .u8 (at8 s j)⟩::rs) nx m K)(hg:GF rs g f:=by exact di)(hx:cF env rs x=⟨fx,.str s⟩:=by exact rfl)(hy:cF env rs y=⟨fy,.int kk i⟩:=by exact rfl)(kx:f=true->fx=true:=by exact b8)(ky:f=true->fy=true:=by exact b8)(hj:f=true->i=(j:Int):=by exact uX)(hb:f=true->j<s.length:=by exact ua):aJ Y draw (⟨.ixS x y,g⟩::r) env rs nx m K:=
 bT rfl hg _ (fun hf=>by simp only[aN.ea,hx,hy];exact⟨kx hf,ky hf,by have:=hj hf;omega,by have:=hj hf;have:=hb hf;omega⟩) (fun hf=>by simp only[aN.val,hx,hy];rw[hj hf];rfl) (fun ha=>h)
def Kc {x y:Src}{fx fy:Bool}{n k:Nat}{ag:Bool}{cs:List D}{i:Int}{kk:IntKind}(j:Nat)(v:D)(h:aJ Y draw r env (⟨f,v⟩::rs) nx m K)(hg:GF rs g f:=by exact di)(hx:cF env rs x=⟨fx,.agg cs⟩:=by exact rfl)(hy:cF env rs y=⟨fy,.int kk i⟩:=by exact rfl)(kx:f=true->fx=true:=by exact b8)(ky:f=true->fy=true:=by exact b8)(hj:f=true->i=(j:Int):=by exact uX)(hb:f=true->j<n:=by exact ua)(hl:cs.length=n*k:=by exact rfl)(h1:ag=false->k=1:=by intro h;first|exact rfl|cases h)(hv:f=true->cut cs (j*k) k ag=v):aJ Y draw (⟨.ixA n k ag x y,g⟩::r) env rs nx m K:=
 bT rfl hg _ (fun hf=>by simp only[aN.ea,hx,hy];exact⟨kx hf,ky hf,h1,by have:=hj hf;omega,by have:=hj hf;have:=hb hf;omega,hl⟩) (fun hf=>by simp only[aN.val,hx,hy];rw[<-hv hf,hj hf];rfl) (fun ha=>h)
def Q8 {x y:Src}{fx fy:Bool}{α:Type}{k:Nat}{q:α->D}{xs:List α}{i:Int}{kk:IntKind}(h:aJ Y draw r env (⟨f,.ref k (xs.map q) i.toNat 0⟩::rs) nx m K)(hg:GF rs g f:=by exact di)(hx:cF env rs x=⟨fx,.sl k (xs.map q)⟩:=by exact rfl)(hy:cF env rs y=⟨fy,.int kk i⟩:=by exact rfl)(kx:f=true->fx=true:=by exact b8)(ky:f=true->fy=true:=by exact b8)(hb:f=true->0<=i/\i<(xs.length:Nat):=by exact G0):aJ Y draw (⟨.ia k x y,g⟩::r) env rs nx m K:=
 bT rfl hg _ (fun hf=>by simp only[aN.ea,hx,hy,bU];exact⟨kx hf,ky hf,trivial,(hb hf).1,(hb hf).2⟩) (fun hf=>by simp only[aN.val,hx,hy]<;>rfl) (fun ha=>h)
def W8 {x y:Src}{fx fy:Bool}{l k i0 n:Nat}{i:Int}{kk:IntKind}(h:aJ Y draw r env (⟨f,.ptr l k (i0+i.toNat) 0⟩::rs) nx m K)(hg:GF rs g f:=by exact di)(hx:cF env rs x=⟨fx,.own l k i0 n⟩:=by exact rfl)(hy:cF env rs y=⟨fy,.int kk i⟩:=by exact rfl)(kx:f=true->fx=true:=by exact b8)(ky:f=true->fy=true:=by exact b8)(hb:f=true->0<=i/\i<(n:Nat):=by exact G0):aJ Y draw (⟨.ia k x y,g⟩::r) env rs nx m K:=
 bT rfl hg _ (fun hf=>by simp only[aN.ea,hx,hy,bU];exact⟨kx hf,ky hf,trivial,(hb hf).1,(hb hf).2⟩) (fun hf=>by simp only[aN.val,hx,hy]<;>rfl) (fun ha=>h)
def W9 {x y:Src}{fx fy:Bool}{s:List UInt8}{i:Int}{kk:IntKind}(h:aJ Y draw r env (⟨f,.int .u8 (at8 s i.toNat)⟩::rs) nx m K)(hg:GF rs g f:=by exact di)(hx:cF env rs x=⟨fx,.str s⟩:=by exact rfl)(hy:cF env rs y=⟨fy,.int kk i⟩:=by exact rfl)(kx:f=true->fx=true:=by exact b8)(ky:f=true->fy=true:=by exact b8)(hb:f=true->0<=i/\i<(s.length:Nat):=by exact G0):aJ Y draw (⟨.ixS x y,g⟩::r) env rs nx m K:=
 bT rfl hg _ (fun hf=>by simp only[aN.ea,hx,hy,bU];exact⟨kx hf,ky hf,(hb hf).1,(hb hf).2⟩) (fun hf=>by simp only[aN.val,hx,hy]<;>rfl) (fun ha=>h)
def iy {x y:Src}{fx fy:Bool}{s:List UInt8}{k2:IntKind}{a:Int}(i:Nat)(h:aJ Y draw r env (⟨f,.str (s.drop i)⟩::rs) nx m K)(hg:GF rs g f:=by exact di)(hx:cF env rs x=⟨fx,.str s⟩:=by exact rfl)(hy:cF env rs y=⟨fy,.int k2 a⟩:=by exact rfl)(kx:f=true->fx=true:=by exact b8)(ky:f=true->fy=true:=by exact b8)(hi:f=true->a=(i:Int):=by exact uX)(hb:f=true->i<=s.length:=by exact ua):aJ Y draw (⟨.slS x (some y) none,g⟩::r) env rs nx m K:=
 bT rfl hg _ (fun hf=>by simp only[aN.ea,Ns,dO,hx,hy];have:=hb hf;have:=hi hf;refine⟨kx hf,ky hf,trivial, ?_⟩;simp only[oR,eM,cK,cL,Int.ofNat_eq_natCast];omega) (fun hf=>by simp only[aN.val,dO,eM,hx,hy];rw[hi hf];simp) (fun ha=>h)
def Aq {x y:Src}{fx fy:Bool}{α:Type}{k:Nat}{q:α->D}{s:List α}{k2:IntKind}{a:Int}(i:Nat)(h:aJ Y draw r env (⟨f,.sl k ((s.drop i).map q)⟩::rs) nx m K)(hg:GF rs g f:=by exact di)(hx:cF env rs x=⟨fx,.sl k (s.map q)⟩:=by exact rfl)(hy:cF env rs y=⟨fy,.int k2 a⟩:=by exact rfl)(kx:f=true->fx=true:=by exact b8)(ky:f=true->fy=true:=by exact b8)(hi:f=true->a=(i:Int):=by exact uX)(hb:f=true->i<=s.length:=by exact ua):aJ Y draw (⟨.slA k x (some y) none,g⟩::r) env rs nx m K:=
 bT rfl hg _ (fun hf=>by simp only[aN.ea,Ns,dO,hx,hy,bU];have:=hb hf;have:=hi hf;refine⟨kx hf,ky hf,trivial,trivial, ?_⟩;simp only[oR,eM,cK,cL,Int.ofNat_eq_natCast];omega) (fun hf=>by simp only[aN.val,dO,eM,hx,hy];rw[hi hf];first|(simp only[List.take_length,Int.toNat_natCast,List.map_drop];done)|simp[List.map_drop,List.map_take]) (fun ha=>h)
def pC {x z:Src}{fx fz:Bool}{s:List UInt8}{k3:IntKind}{c:Int}(j:Nat)(h:aJ Y draw r env (⟨f,.str (s.take j)⟩::rs) nx m K)(hg:GF rs g f:=by exact di)(hx:cF env rs x=⟨fx,.str s⟩:=by exact rfl)(hz:cF env rs z=⟨fz,.int k3 c⟩:=by exact rfl)(kx:f=true->fx=true:=by exact b8)(kz:f=true->fz=true:=by exact b8)(hj:f=true->c=(j:Int):=by exact uX)(hb:f=true->j<=s.length:=by exact ua):aJ Y draw (⟨.slS x none (some z),g⟩::r) env rs nx m K:=
 bT rfl hg _ (fun hf=>by simp only[aN.ea,Ns,dO,hx,hz];have:=hb hf;have:=hj hf;refine⟨kx hf,trivial,kz hf, ?_⟩;simp only[oR,eM,cK,cL,Int.ofNat_eq_natCast];omega) (fun hf=>by simp only[aN.val,dO,eM,hx,hz];rw[hj hf];simp) (fun ha=>h)
def pB {x z:Src}{fx fz:Bool}{α:Type}{k:Nat}{q:α->D}{s:List α}{k3:IntKind}{c:Int}(j:Nat)(h:aJ Y draw r env (⟨f,.sl k ((s.take j).map q)⟩::rs) nx m K)(hg:GF rs g f:=by exact di)(hx:cF env rs x=⟨fx,.sl k (s.map q)⟩:=by exact rfl)(hz:cF env rs z=⟨fz,.int k3 c⟩:=by exact rfl)(kx:f=true->fx=true:=by exact b8)(kz:f=true->fz=true:=by exact b8)(hj:f=true->c=(j:Int):=by exact uX)(hb:f=true->j<=s.length:=by exact ua):aJ Y draw (⟨.slA k x none (some z),g⟩::r) env rs nx m K:=
 bT rfl hg _ (fun hf=>by simp only[aN.ea,Ns,dO,hx,hz,bU];have:=hb hf;have:=hj hf;refine⟨kx hf,trivial,kz hf,trivial, ?_⟩;simp only[oR,eM,cK,cL,Int.ofNat_eq_natCast];omega) (fun hf=>by simp only[aN.val,dO,eM,hx,hz];rw[hj hf];first|(simp only[List.take_length,Int.toNat_natCast,List.map_drop];done)|simp[List.map_drop,List.map_take]) (fun ha=>h)
def uM {x z:Src}{fx fz:Bool}{l k i0 n:Nat}{k3:IntKind}{c:Int}(j:Nat)(h:aJ Y draw r env (⟨f,.own l k i0 j⟩::rs) nx m K)(hg:GF rs g f:=by exact di)(hx:cF env rs x=⟨fx,.own l k i0 n⟩:=by exact rfl)(hz:cF env rs z=⟨fz,.int k3 c⟩:=by exact rfl)(kx:f=true->fx=true:=by exact b8)(kz:f=true->fz=true:=by exact b8)(hj:f=true->c=(j:Int):=by exact uX)(hb:f=true->j<=n:=by exact ua):aJ Y draw (⟨.slA k x none (some z),g⟩::r) env rs nx m K:=
 bT rfl hg _ (fun hf=>by simp only[aN.ea,Ns,dO,hx,hz];have:=hb hf;have:=hj hf;refine⟨kx hf,trivial,kz hf,trivial, ?_⟩;simp only[oR,eM,cK,cL,Int.ofNat_eq_natCast];omega) (fun hf=>by simp only[aN.val,dO,eM,hx,hz];rw[hj hf];simp) (fun ha=>h)
def Ar {x y z:Src}{fx fy fz:Bool}{s:List UInt8}{k2:IntKind}{a:Int}(i:Nat){k3:IntKind}{c:Int}(j:Nat)(h:aJ Y draw r env (⟨f,.str ((s.take j).drop i)⟩::rs) nx m K)(hg:GF rs g f:=by exact di)(hx:cF env rs x=⟨fx,.str s⟩:=by exact rfl)(hy:cF env rs y=⟨fy,.int k2 a⟩:=by exact rfl)(hz:cF env rs z=⟨fz,.int k3 c⟩:=by exact rfl)(kx:f=true->fx=true:=by exact b8)(ky:f=true->fy=true:=by exact b8)(kz:f=true->fz=true:=by exact b8)(hi:f=true->a=(i:Int):=by exact uX)(hj:f=true->c=(j:Int):=by exact uX)(hb:f=true->i<=j/\j<=s.length:=by exact G0):aJ Y draw (⟨.slS x (some y) (some z),g⟩::r) env rs nx m K:=
 bT rfl hg _ (fun hf=>by simp only[aN.ea,Ns,dO,hx,hy,hz];have:=hb hf;have:=hi hf;have:=hj hf;refine⟨kx hf,ky hf,kz hf, ?_⟩;simp only[oR,eM,cK,cL,Int.ofNat_eq_natCast];omega) (fun hf=>by simp only[aN.val,dO,eM,hx,hy,hz];rw[hi hf,hj hf];simp) (fun ha=>h)
def Rh {x y z:Src}{fx fy fz:Bool}{α:Type}{k:Nat}{q:α->D}{s:List α}{k2:IntKind}{a:Int}(i:Nat){k3:IntKind}{c:Int}(j:Nat)(h:aJ Y draw r env (⟨f,.sl k (((s.take j).drop i).map q)⟩::rs) nx m K)(hg:GF rs g f:=by exact di)(hx:cF env rs x=⟨fx,.sl k (s.map q)⟩:=by exact rfl)(hy:cF env rs y=⟨fy,.int k2 a⟩:=by exact rfl)(hz:cF env rs z=⟨fz,.int k3 c⟩:=by exact rfl)(kx:f=true->fx=true:=by exact b8)(ky:f=true->fy=true:=by exact b8)(kz:f=true->fz=true:=by exact b8)(hi:f=true->a=(i:Int):=by exact uX)(hj:f=true->c=(j:Int):=by exact uX)(hb:f=true->i<=j/\j<=s.length:=by exact G0):aJ Y draw (⟨.slA k x (some y) (some z),g⟩::r) env rs nx m K:=
 bT rfl hg _ (fun hf=>by simp only[aN.ea,Ns,dO,hx,hy,hz,bU];have:=hb hf;have:=hi hf;have:=hj hf;refine⟨kx hf,ky hf,kz hf,trivial, ?_⟩;simp only[oR,eM,cK,cL,Int.ofNat_eq_natCast];omega) (fun hf=>by simp only[aN.val,dO,eM,hx,hy,hz];rw[hi hf,hj hf];first|(simp only[List.take_length,Int.toNat_natCast,List.map_drop];done)|simp[List.map_drop,List.map_take]) (fun ha=>h)
def fX {x:Src}{fx:Bool}{i:Nat}{ds:List D}(v:D)(h:aJ Y draw r env (⟨f,v⟩::rs) nx m K)(hg:GF rs g f:=by exact di)(hx:cF env rs x=⟨fx,.tup ds⟩:=by exact rfl)(kx:f=true->fx=true:=by exact b8)(hv:f=true->ds.getD i .any=v:=by exact fun _=>rfl)(hb:f=true->i<ds.length:=by intro _;simp only[az,aB];omega):aJ Y draw (⟨.ext x i,g⟩::r) env rs nx m K:=
 bT rfl hg _ (fun hf=>by simp only[aN.ea,hx];exact⟨kx hf,hb hf⟩) (fun hf=>by simp only[aN.val,hx];exact hv hf) (fun ha=>h)
def du {z:List D}{ps:List (Nat×Nat×Src)}(v:List D)(h:aJ Y draw r env (⟨f,.agg v⟩::rs) nx m K)(hg:GF rs g f:=by exact di)(hv:f=true->zx (cF env rs) z ps=v:=by exact fun _=>rfl)(ho:f=true->BU (cF env rs) z.length ps:=by exact xP):aJ Y draw (⟨.build z ps,g⟩::r) env rs nx m K:=
 bT rfl hg _ (fun hf=>ho hf) (fun hf=>by simp only[aN.val];rw[hv hf]) (fun _=>h)
def bA {z:List D}{ps:List (Nat×Nat×Src)}(d:D)(h:aJ Y draw r env (⟨f,d⟩::rs) nx m K)(hg:GF rs g f:=by exact di)(hv:f=true->D.agg (zx (cF env rs) z ps)=d:=by exact fun _=>rfl)(ho:f=true->BU (cF env rs) z.length ps:=by exact xP):aJ Y draw (⟨.build z ps,g⟩::r) env rs nx m K:=
 bT rfl hg _ (fun hf=>ho hf) (fun hf=>by simp only[aN.val];exact hv hf) (fun _=>h)
def WH {e:D}{n o:Nat}{ag:Bool}(h:e.isAgg=ag):oc e n n o ag=e:=by simp[oc,h]
def cy {x:Src}{fx:Bool}{n l:Nat}{ag:Bool}{d:D}(h:aJ Y draw r env (⟨f,d⟩::rs) nx m K)(hg:GF rs g f:=by exact di)(hx:cF env rs x=⟨fx,.ptr l n 0 0⟩:=by exact rfl)(kx:f=true->fx=true:=by exact b8)(hl:f=true->look m l=some (.buf n [d]):=by exact fun _=>rfl)(ha:f=true->d.isAgg=ag:=by exact fun _=>rfl):aJ Y draw (⟨.ld n ag x,g⟩::r) env rs nx m K:=
 il rfl hg _ (fun hf=>by simp only[aN.ea,hx,FC,fM,hl hf];exact⟨kx hf,⟨trivial,aT⟩,ae⟩) (fun hf=>by simp only[aN.val,hx,Ey,bn,hl hf,jH];exact WH (ha hf)) m rfl (fun ha=>h)
def bD {x:Src}{fx:Bool}{n l k o:Nat}{ag:Bool}{d:D}(v:D)(h:aJ Y draw r env (⟨f,v⟩::rs) nx m K)(hg:GF rs g f:=by exact di)(hx:cF env rs x=⟨fx,.ptr l k 0 o⟩:=by exact rfl)(kx:f=true->fx=true:=by exact b8)(hl:f=true->look m l=some (.buf k [d]):=by exact fun _=>rfl)(hv:f=true->oc d k n o ag=v:=by exact fun _=>rfl)(ho:o+n<=k:=by omega):aJ Y draw (⟨.ld n ag x,g⟩::r) env rs nx m K:=
 il rfl hg _ (fun hf=>by simp only[aN.ea,hx,FC,fM,hl hf];exact⟨kx hf,⟨trivial,aT⟩,ho⟩) (fun hf=>by simp only[aN.val,hx,Ey,bn,hl hf,jH];exact hv hf) m rfl (fun ha=>h)
def r_ldE {x:Src}{fx:Bool}{n l k i o:Nat}{ag:Bool}{es:List D}(v:D)(h:aJ Y draw r env (⟨f,v⟩::rs) nx m K)(hg:GF rs g f:=by exact di)(hx:cF env rs x=⟨fx,.ptr l k i o⟩:=by exact rfl)(kx:f=true->fx=true:=by exact b8)(hl:f=true->look m l=some (.buf k es):=by exact fun _=>rfl)(hi:f=true->i<es.length)(hv:f=true->oc (es.getD i .any) k n o ag=v)(ho:o+n<=k:=by omega):aJ Y draw (⟨.ld n ag x,g⟩::r) env rs nx m K:=
 il rfl hg _ (fun hf=>by simp only[aN.ea,hx,FC,fM,hl hf];exact⟨kx hf,⟨trivial,by have:=hi hf;omega⟩,ho⟩) (fun hf=>by simp only[aN.val,hx,Ey,bn,hl hf];exact hv hf) m rfl (fun ha=>h)
def rH {x:Src}{fx:Bool}{α:Type} [Inhabited α]{n l k i o:Nat}{ag:Bool}{q:α->D}{xs:List α}(v:D)(h:aJ Y draw r env (⟨f,v⟩::rs) nx m K)(hg:GF rs g f:=by exact di)(hx:cF env rs x=⟨fx,.ptr l k i o⟩:=by exact rfl)(kx:f=true->fx=true:=by exact b8)(hl:f=true->look m l=some (.buf k (xs.map q)):=by exact fun _=>rfl)(hi:f=true->i<xs.length:=by exact ua)(hv:f=true->oc (q xs[i]!) k n o ag=v:=by exact fun _=>rfl)(ho:o+n<=k:=by omega):aJ Y draw (⟨.ld n ag x,g⟩::r) env rs nx m K:=
 il rfl hg _ (fun hf=>by simp only[aN.ea,hx,FC,fM,hl hf,bU];exact⟨kx hf,⟨trivial,by have:=hi hf;omega⟩,ho⟩) (fun hf=>by simp only[aN.val,hx,Ey,bn,hl hf];rw[getD_map (hi hf)];exact hv hf) m rfl (fun ha=>h)
def bS {x:Src}{fx:Bool}{α:Type} [Inhabited α]{n k i o:Nat}{ag:Bool}{q:α->D}{xs:List α}(v:D)(h:aJ Y draw r env (⟨f,v⟩::rs) nx m K)(hg:GF rs g f:=by exact di)(hx:cF env rs x=⟨fx,.ref k (xs.map q) i o⟩:=by exact rfl)(kx:f=true->fx=true:=by exact b8)(hi:f=true->i<xs.length:=by exact ua)(hv:f=true->oc (q xs[i]!) k n o ag=v:=by exact fun _=>rfl)(ho:o+n<=k:=by omega):aJ Y draw (⟨.ld n ag x,g⟩::r) env rs nx m K:=
 il rfl hg _ (fun hf=>by simp only[aN.ea,hx,FC,bU];exact⟨kx hf,hi hf,ho⟩) (fun hf=>by simp only[aN.val,hx,Ey];rw[getD_map (hi hf)];exact hv hf) m rfl (fun ha=>h)
def eK {x:Src}{fx:Bool}{n k i o:Nat}{ag:Bool}{es:List D}(v:D)(h:aJ Y draw r env (⟨f,v⟩::rs) nx m K)(hg:GF rs g f:=by exact di)(hx:cF env rs x=⟨fx,.ref k es i o⟩:=by exact rfl)(kx:f=true->fx=true:=by exact b8)(hi:f=true->i<es.length:=by intro _;simp only[az,aB];omega)(hv:f=true->oc (es.getD i .any) k n o ag=v:=by exact fun _=>rfl)(ho:o+n<=k:=by omega):aJ Y draw (⟨.ld n ag x,g⟩::r) env rs nx m K:=
 il rfl hg _ (fun hf=>by simp only[aN.ea,hx,FC];exact⟨kx hf,hi hf,ho⟩) (fun hf=>by simp only[aN.val,hx,Ey];exact hv hf) m rfl (fun ha=>h)
def DS {x:Src}{fx:Bool}{n k i o:Nat}{ag:Bool}{es:List D}(v:D)(h:aJ Y draw r env (⟨f,v⟩::rs) nx m K)(hg:GF rs g f:=by exact di)(hx:cF env rs x=⟨fx,.ref k es i o⟩:=by exact rfl)(kx:f=true->fx=true:=by exact b8)(hi:f=true->i<es.length:=by intro _;simp only[az,aB];omega)(hv:f=true->oc (es.getD i .any) k n o ag=v:=by exact fun _=>rfl)(ho:o+n<=k:=by omega):aJ Y draw (⟨.ldI n ag x,g⟩::r) env rs nx m K:=
 bT rfl hg _ (fun hf=>by simp only[aN.ea,hx,FC];exact⟨kx hf,hi hf,ho⟩) (fun hf=>by simp only[aN.val,hx,Ey];exact hv hf) (fun ha=>h)
def r_box {x:Src}{fx:Bool}{k:Nat}{d:D}{L:Nat}{m2:List (Nat×bR)}(h:aJ Y draw r env (⟨f,.ptr L k 0 0⟩::rs) nx m2 K)(hg:GF rs g f:=by exact di)(hx:cF env rs x=⟨fx,d⟩:=by exact rfl)(kx:f=true->fx=true:=by exact b8)(hc:d.cells.length=k:=by exact rfl)(hL:nx+rs.length=L:=by exact wD)(hm:dx m L (.buf k [d])=m2:=by simp only[dx,c8,Nat.reduceEqDiff,ba,bc,Nat.reduceAdd,reduceCtorEq];exact rfl):aJ Y draw (⟨.box k x,g⟩::r) env rs nx m K:=
 il rfl hg _ (fun hf=>by simp only[aN.ea,hx];exact⟨kx hf,hc⟩) (fun hf=>by simp only[aN.val,hx,hL]) _ (by simp only[aN.cQ,hx,hL];exact hm) (fun _=>h)
def r_mkB {L:Nat}{m2:List (Nat×bR)}(h:aJ Y draw r env (⟨f,.ptr L 2 0 0⟩::rs) nx m2 K)(hg:GF rs g f:=by exact di)(hL:nx+rs.length=L:=by exact wD)(hm:dx m L (.bld none 0 false)=m2:=by simp only[dx,c8,Nat.reduceEqDiff,ba,bc,Nat.reduceAdd,reduceCtorEq];exact rfl):aJ Y draw (⟨.mkB,g⟩::r) env rs nx m K:=
 il rfl hg _ (fun _=>trivial) (fun hf=>by simp only[aN.val,hL]) _ (by simp only[aN.cQ,hL];exact hm) (fun _=>h)
def r_s2b {x:Src}{fx:Bool}{s:List UInt8}{L:Nat}{m2:List (Nat×bR)}(h:aJ Y draw r env (⟨f,.own L 1 0 s.length⟩::rs) nx m2 K)(hg:GF rs g f:=by exact di)(hx:cF env rs x=⟨fx,.str s⟩:=by exact rfl)(kx:f=true->fx=true:=by exact b8)(hL:nx+rs.length=L:=by exact wD)(hm:dx m L (.buf 1 (s.map fun b=>.int .u8 b.toNat))=m2:=by simp only[dx,c8,Nat.reduceEqDiff,ba,bc,Nat.reduceAdd,reduceCtorEq];exact rfl):aJ Y draw (⟨.s2b x,g⟩::r) env rs nx m K:=
 il rfl hg _ (fun hf=>by simp only[aN.ea,hx];exact⟨kx hf,trivial⟩) (fun hf=>by simp only[aN.val,hx,hL]) _ (by simp only[aN.cQ,hx,hL];exact hm) (fun _=>h)
def r_rng {x:Src}{fx:Bool}{s:List UInt8}{L:Nat}{m2:List (Nat×bR)}(h:aJ Y draw r env (⟨f,.it L⟩::rs) nx m2 K)(hg:GF rs g f:=by exact di)(hx:cF env rs x=⟨fx,.str s⟩:=by exact rfl)(kx:f=true->fx=true:=by exact b8)(hL:nx+rs.length=L:=by exact wD)(hm:dx m L (.iter s 0)=m2:=by simp only[dx,c8,Nat.reduceEqDiff,ba,bc,Nat.reduceAdd,reduceCtorEq];exact rfl):aJ Y draw (⟨.tO x,g⟩::r) env rs nx m K:=
 il rfl hg _ (fun hf=>by simp only[aN.ea,hx];exact⟨kx hf,trivial⟩) (fun hf=>by simp only[aN.val,hx,hL]) _ (by simp only[aN.cQ,hx,hL];exact hm) (fun _=>h)
def dh {k n:Nat}{z:D}{ps:List (Nat×Src)}{L:Nat}{m2:List (Nat×bR)}(es:List D)(h:aJ Y draw r env (⟨f,.own L k 0 n⟩::rs) nx m2 K)(hg:GF rs g f:=by exact di)(he:mX (cF env rs) (List.replicate n z) ps=es:=by exact rfl)(ho:f=true->tm (cF env rs) k n ps:=by exact xP)(hz:z.cells.length=k:=by exact rfl)(hL:nx+rs.length=L:=by exact wD)(hm:dx m L (.buf k es)=m2:=by simp only[dx,c8,Nat.reduceEqDiff,ba,bc,Nat.reduceAdd,reduceCtorEq];exact rfl):aJ Y draw (⟨.bsl k z n ps,g⟩::r) env rs nx m K:=
 il rfl hg _ (fun hf=>⟨hz,ho hf⟩) (fun hf=>by simp only[aN.val,hL]) _ (by simp only[aN.cQ,he,hL];exact hm) (fun _=>h)
def UW {k:Nat}{z:D}{x y:Src}{k1 k2:IntKind}{a c:Int}{L:Nat}{m2:List (Nat×bR)}(n:Nat)(h:aJ Y draw r env (⟨true,.own L k 0 n⟩::rs) nx m2 K)(hx:cF env rs x=⟨true,.int k1 a⟩:=by exact rfl)(hy:cF env rs y=⟨true,.int k2 c⟩:=by exact rfl)(hn:a=(n:Int):=by first|exact rfl|omega)(hc:a<=c/\c<=1073741824:=by constructor<;>omega)(hz:z.cells.length=k:=by exact rfl)(hL:nx+rs.length=L:=by exact wD)(hm:dx m L (.buf k (List.replicate n z))=m2:=by simp only[dx,c8,Nat.reduceEqDiff,ba,bc,Nat.reduceAdd,reduceCtorEq];exact rfl):aJ Y draw (⟨.mks k z x y,none⟩::r) env rs nx m K:=
 rI rfl _ (by simp only[aN.ea,hx,hy];exact⟨trivial,trivial,hz,ae,hc.1,hc.2⟩) (by simp only[aN.val,hx,hL,D.nat,hn];rfl) _ (by simp only[aN.cQ,hx,hL,D.nat,hn];exact hm) (fun _=>h)
def aU {n l k o:Nat}{x y:Src}{d v:D}{m2:List (Nat×bR)}(e:D)(h:aJ Y draw r env (⟨true,.any⟩::rs) nx m2 K)(hx:cF env rs x=⟨true,.ptr l k 0 o⟩:=by exact rfl)(hy:cF env rs y=⟨true,v⟩:=by exact rfl)(hl:look m l=some (.buf k [d]):=by exact rfl)(hc:v.cells.length=n:=by exact rfl)(he:uT d k n o v=e:=by exact rfl)(ho:o+n<=k:=by omega)(hm:dx m l (.buf k [e])=m2:=by simp only[dx,c8,Nat.reduceEqDiff,ba,bc,Nat.reduceAdd,reduceCtorEq];exact rfl):aJ Y draw (⟨.st n x y,none⟩::r) env rs nx m K:=
 rI rfl _ (by simp only[aN.ea,hx,hy,fM,hl];exact⟨trivial,trivial,hc,⟨trivial,aT⟩,ho⟩) rfl _ (by simp only[aN.cQ,hx,hy,bn,hl,jH,List.set_cons_zero,he];exact hm) (fun _=>h)
def Cq {n l k i o:Nat}{x y:Src}{v:D}{es:List D}{m2:List (Nat×bR)}(es2:List D)(h:aJ Y draw r env (⟨true,.any⟩::rs) nx m2 K)(hx:cF env rs x=⟨true,.ptr l k i o⟩:=by exact rfl)(hy:cF env rs y=⟨true,v⟩:=by exact rfl)(hl:look m l=some (.buf k es):=by exact rfl)(hi:i<es.length)(hc:v.cells.length=n:=by exact rfl)(he:es.set i (uT (es.getD i .any) k n o v)=es2)(ho:o+n<=k:=by omega)(hm:dx m l (.buf k es2)=m2:=by simp only[dx,c8,Nat.reduceEqDiff,ba,bc,Nat.reduceAdd,reduceCtorEq];exact rfl):aJ Y draw (⟨.st n x y,none⟩::r) env rs nx m K:=
 rI rfl _ (by simp only[aN.ea,hx,hy,fM,hl];exact⟨trivial,trivial,hc,⟨trivial,ae⟩,ho⟩) rfl _ (by simp only[aN.cQ,hx,hy,bn,hl,he];exact hm) (fun _=>h)
def sX (m:List (Nat×bR))(k:Nat)(d:D)(ys:List D):Prop:=Dh m k d/\qA m d=ys
def sX.sl {k:Nat}{es:List D}:sX m k (.sl k es) es:=⟨rfl,rfl⟩
def sX.aD {k:Nat}:sX m k .aD []:=⟨trivial,rfl⟩
def sX.own {l k i n:Nat}{es:List D}(hl:look m l=some (.buf k es))(hb:i+n<=es.length):sX m k (.own l k i n) ((es.drop i).take n):=⟨⟨rfl,by simp only[fM,hl];exact⟨trivial,hb⟩⟩,by simp only[qA,bn,hl]⟩
def sX.all {l k n:Nat}{es:List D}(hl:look m l=some (.buf k es))(hb:n=es.length):sX m k (.own l k 0 n) es:=by
 have:=sX.own (i:=0) (n:=n) hl ae;simpa[hb]using this
def sX.str {s:List UInt8}:sX m 1 (.str s) (s.map fun b=>.int .u8 b.toNat):=⟨rfl,rfl⟩
def W3 {k n:Nat}{x y:Src}{d:D}{ys:List D}{L:Nat}{m2:List (Nat×bR)}(h:aJ Y draw r env (⟨true,.own L k 0 n⟩::rs) nx m2 K)(hx:cF env rs x=⟨true,.aD⟩:=by exact rfl)(hy:cF env rs y=⟨true,d⟩:=by exact rfl)(he:sX m k d ys)(hn:ys.length=n)(hb:n<=1073741824:=by omega)(hL:nx+rs.length=L:=by exact wD)(hm:dx m L (.buf k ys)=m2:=by simp only[dx,c8,Nat.reduceEqDiff,ba,bc,Nat.reduceAdd,reduceCtorEq];exact rfl):aJ Y draw (⟨.app k x y,none⟩::r) env rs nx m K:=
 rI rfl _ (by simp only[aN.ea,hx,hy,he.2,hn];exact⟨trivial,trivial,he.1,hb⟩) (by simp only[aN.val,hx,hy,he.2,hn,hL]) _ (by simp only[aN.cQ,hx,hy,he.2,hL];exact hm) (fun _=>h)
def J7 {k n:Nat}{y:Src}{fy:Bool}{d:D}{ys:List D}{L:Nat}{m2:List (Nat×bR)}(h:aJ Y draw r env (⟨f,.own L k 0 n⟩::rs) nx m2 K)(hg:GF rs g f:=by exact di)(hy:cF env rs y=⟨fy,d⟩:=by exact rfl)(ky:f=true->fy=true:=by exact b8)(he:sX m k d ys)(hn:ys.length=n)(hb:n<=1073741824:=by omega)(hL:nx+rs.length=L:=by exact wD)(hm:dx m L (.buf k ys)=m2:=by simp only[dx,c8,Nat.reduceEqDiff,ba,bc,Nat.reduceAdd,reduceCtorEq];exact rfl):aJ Y draw (⟨.appN k y,g⟩::r) env rs nx m K:=
 il rfl hg _ (fun hf=>by simp only[aN.ea,hy,he.2,hn];exact⟨ky hf,he.1,hb⟩) (fun hf=>by simp only[aN.val,hy,he.2,hn,hL]) _ (by simp only[aN.cQ,hy,he.2,hL];exact hm) (fun _=>h)
def Ap {k l i a n:Nat}{x y:Src}{d:D}{xs ys:List D}{L:Nat}{m2:List (Nat×bR)}(zs:List D)(h:aJ Y draw r env (⟨true,.own L k 0 n⟩::rs) nx m2 K)(hx:cF env rs x=⟨true,.own l k i a⟩:=by exact rfl)(hy:cF env rs y=⟨true,d⟩:=by exact rfl)(hl:look m l=some (.buf k xs):=by exact rfl)(ha:i+a<=xs.length)(he:sX m k d ys)(hz:(xs.drop i).take a++ys=zs)(hn:a+ys.length=n)(hb:n<=1073741824:=by omega)(hL:nx+rs.length=L:=by exact wD)(hm:dx (c8 m l) L (.buf k zs)=m2:=by simp only[dx,c8,Nat.reduceEqDiff,ba,bc,Nat.reduceAdd,reduceCtorEq];exact rfl):aJ Y draw (⟨.app k x y,none⟩::r) env rs nx m K:=
 rI rfl _ (by simp only[aN.ea,hx,hy,he.2,fM,hl,hn];exact⟨trivial,trivial,he.1,trivial,⟨trivial,ha⟩,hb⟩) (by simp only[aN.val,hx,hy,he.2,hn,hL]) _ (by simp only[aN.cQ,hx,hy,he.2,bn,hl,hz,hL];exact hm) (fun _=>h)
def jX {α:Type}{q:α->D}{xs:List α}{e:α}{k l ly:Nat}{x y:Src}{L:Nat}{m2:List (Nat×bR)}(h:aJ Y draw r env (⟨true,.own L k 0 (xs++[e]).length⟩::rs) nx m2 K)(hx:cF env rs x=⟨true,.own l k 0 xs.length⟩:=by exact rfl)(hy:cF env rs y=⟨true,.own ly k 0 1⟩:=by exact rfl)(hl:look m l=some (.buf k (xs.map q)):=by exact rfl)(he:look m ly=some (.buf k [q e]):=by exact rfl)(hb:xs.length+1<=1073741824:=by omega)(hL:nx+rs.length=L:=by exact wD)(hm:dx (c8 m l) L (.buf k ((xs++[e]).map q))=m2:=by simp only[dx,c8,Nat.reduceEqDiff,ba,bc,Nat.reduceAdd,reduceCtorEq];exact rfl):aJ Y draw (⟨.app k x y,none⟩::r) env rs nx m K:=
 Ap (zs:=(xs++[e]).map q) (hx:=hx) (hy:=hy) (hl:=hl) (ha:=aT) (he:=sX.all (es:=[q e]) he rfl) (hz:=by rw[ct,ek aT];simp) (hn:=aT) (hb:=cM) (hL:=hL) (hm:=hm) (h:=h)
def Q6 {α:Type}{q:α->D}{xs ys:List α}{k l:Nat}{x y:Src}{d:D}{L:Nat}{m2:List (Nat×bR)}(h:aJ Y draw r env (⟨true,.own L k 0 (xs++ys).length⟩::rs) nx m2 K)(hx:cF env rs x=⟨true,.own l k 0 xs.length⟩:=by exact rfl)(hy:cF env rs y=⟨true,d⟩:=by exact rfl)(hl:look m l=some (.buf k (xs.map q)):=by exact rfl)(he:sX m k d (ys.map q))(hb:xs.length+ys.length<=1073741824:=by omega)(hL:nx+rs.length=L:=by exact wD)(hm:dx (c8 m l) L (.buf k ((xs++ys).map q))=m2:=by simp only[dx,c8,Nat.reduceEqDiff,ba,bc,Nat.reduceAdd,reduceCtorEq];exact rfl):aJ Y draw (⟨.app k x y,none⟩::r) env rs nx m K:=
 Ap (zs:=(xs++ys).map q) (hx:=hx) (hy:=hy) (hl:=hl) (ha:=aT) (he:=he) (hz:=by rw[ct,ek aT];simp) (hn:=aT) (hb:=cM) (hL:=hL) (hm:=hm) (h:=h)
def J8 {x:Src}{fx:Bool}{d:D}{ys:List D}(s:List UInt8)(h:aJ Y draw r env (⟨f,.str s⟩::rs) nx m K)(hg:GF rs g f:=by exact di)(hx:cF env rs x=⟨fx,d⟩:=by exact rfl)(kx:f=true->fx=true:=by exact b8)(he:f=true->sX m 1 d ys)(hs:f=true->ys=s.map fun b=>.int .u8 b.toNat)(hd:d.WD=false:=by exact rfl):aJ Y draw (⟨.b2s x,g⟩::r) env rs nx m K:=
 il rfl hg _ (fun hf=>by
  simp only[aN.ea,hx,(he hf).2,hs hf];refine⟨kx hf,(by cases d<;>first|trivial|(cases hd)),(he hf).1,fun e hm=>?_⟩;obtain⟨b,_,rfl⟩:=dZ.1 hm;have:=b.toNat_lt;exact⟨rfl,ae,ae⟩) (fun hf=>by simp only[aN.val,hx,(he hf).2,hs hf];rw[SF]) m rfl (fun _=>h)
def DU {x:Src}{l pos:Nat}{s:List UInt8}{m2:List (Nat×bR)}(c w:Nat)(h:aJ Y draw r env (⟨true,.tup [.bool true,.int .i64 pos,.int .i32 c]⟩::rs) nx m2 K)(hx:cF env rs x=⟨true,.it l⟩:=by exact rfl)(hl:look m l=some (.iter s pos):=by exact rfl)(hp:pos<s.length)(hc:vv s pos=(c,w))(hm:dx m l (.iter s (pos+w))=m2:=by simp only[dx,c8,Nat.reduceEqDiff,ba,bc,Nat.reduceAdd,reduceCtorEq];exact rfl):aJ Y draw (⟨.A6 x,none⟩::r) env rs nx m K:=
 rI rfl _ (by simp only[aN.ea,hx,hl];exact⟨trivial,trivial⟩) (by simp only[aN.val,hx,hl,hc,hp,decide_true,cond_true]) _ (by simp only[aN.cQ,hx,hl,hc,hp,decide_true,cond_true];exact hm) (fun _=>h)
def DT {x:Src}{l pos:Nat}{s:List UInt8}(h:aJ Y draw r env (⟨true,.tup [.bool false]⟩::rs) nx m K)(hx:cF env rs x=⟨true,.it l⟩:=by exact rfl)(hl:look m l=some (.iter s pos):=by exact rfl)(hp:¬pos<s.length):aJ Y draw (⟨.A6 x,none⟩::r) env rs nx m K:=
 rI rfl _ (by simp only[aN.ea,hx,hl];exact⟨trivial,trivial⟩) (by simp only[aN.val,hx,hl,hp,decide_false,cond_false]) _ (by simp only[aN.cQ,hx,hl,hp,decide_false,cond_false]) (fun _=>h)
def ai {n:Nat}{args:List Src}{sh:List (List Sh)}{alI:List D}{v:D}(h:aJ Y draw r env (⟨f,v⟩::rs) nx m K)(hg:GF rs g f:=by exact di)(hc:Y.pre n alI/\Y.val n alI=v)(ha:f=true->nX m sh (jb (cF env rs) args)=alI:=by exact fun _=>rfl)(ho:f=true->wX (cF env rs) args:=by exact xP)(hp:f=true->kO m sh (jb (cF env rs) args):=by exact xP)(hk:f=true->td (jb (cF env rs) args) v=true:=by exact fun _=>rfl):aJ Y draw (⟨.call n args sh,g⟩::r) env rs nx m K:=
 il rfl hg _ (fun hf=>by simp only[aN.ea,(ec _ _ _).1,ha hf,hc.2];exact⟨ho hf,(ec _ _ _).2.2 (hp hf),hc.1,hk hf⟩) (fun hf=>by simp only[aN.val,(ec _ _ _).1,ha hf,hc.2]) m rfl (fun _=>h)
def cV {n:Nat}{args:List Src}{sh:List (List Sh)}{alI:List D}{v:D}(h:aJ Y draw r env (⟨f,v⟩::rs) nx m K)(hg:GF rs g f:=by exact di)(hc:f=true->Y.pre n alI/\Y.val n alI=v)(ha:f=true->nX m sh (jb (cF env rs) args)=alI:=by exact fun _=>rfl)(ho:f=true->wX (cF env rs) args:=by exact xP)(hp:f=true->kO m sh (jb (cF env rs) args):=by exact xP)(hk:f=true->td (jb (cF env rs) args) v=true:=by exact fun _=>rfl):aJ Y draw (⟨.call n args sh,g⟩::r) env rs nx m K:=
 il rfl hg _ (fun hf=>by simp only[aN.ea,(ec _ _ _).1,ha hf,(hc hf).2];exact⟨ho hf,(ec _ _ _).2.2 (hp hf),(hc hf).1,hk hf⟩) (fun hf=>by simp only[aN.val,(ec _ _ _).1,ha hf,(hc hf).2]) m rfl (fun _=>h)
def TO {n:Nat}{x:Src}{fx:Bool}{caps:List D}{args:List Src}{sh:List (List Sh)}{alI:List D}{v:D}(h:aJ Y draw r env (⟨f,v⟩::rs) nx m K)(hg:GF rs g f:=by exact di)(hx:cF env rs x=⟨fx,.fn n caps⟩:=by exact rfl)(kx:f=true->fx=true:=by exact b8)(hb:n<1000000:=by decide)(hc:f=true->Y.pre n alI/\Y.val n alI=v)(ha:f=true->nX m sh (jb (cF env rs) args++caps)=alI:=by exact fun _=>rfl)(ho:f=true->wX (cF env rs) args:=by exact xP)(hp:f=true->kO m sh (jb (cF env rs) args++caps):=by exact xP)(hk:f=true->td (jb (cF env rs) args++caps) v=true:=by exact fun _=>rfl):aJ Y draw (⟨.callv x args sh,g⟩::r) env rs nx m K:=
 il rfl hg _ (fun hf=>by simp only[aN.ea,hx,(ec _ _ _).1,ha hf,(hc hf).2];exact⟨kx hf,ho hf,hb,(ec _ _ _).2.2 (hp hf),(hc hf).1,hk hf⟩) (fun hf=>by simp only[aN.val,hx,(ec _ _ _).1,ha hf,(hc hf).2]) m rfl (fun _=>h)
def UU {n:Nat}{caps:List Src}(cs:List D)(h:aJ Y draw r env (⟨f,.fn n cs⟩::rs) nx m K)(hg:GF rs g f:=by exact di)(hc:f=true->jb (cF env rs) caps=cs:=by exact fun _=>rfl)(ho:f=true->wX (cF env rs) caps:=by exact xP):aJ Y draw (⟨.mkf n caps,g⟩::r) env rs nx m K:=
 bT rfl hg _ (fun hf=>ho hf) (fun hf=>by simp only[aN.val,hc hf]) (fun _=>h)
def nr {n l k:Nat}{x:Src}{args:List Src}{sh:List (List Sh)}{d v e:D}{alI:List D}{m2:List (Nat×bR)}(h:aJ Y draw r env (⟨true,v⟩::rs) nx m2 K)(hx:cF env rs x=⟨true,.ptr l k 0 0⟩:=by exact rfl)(hl:look m l=some (.buf k [d]):=by exact rfl)(hd:d.bE=true:=by exact rfl)(hc:Y.fp n d alI/\Y.fv n d alI=v/\Y.fs n d alI=e)(ha:nX [] sh (jb (cF env rs) args)=alI:=by exact rfl)(ho:wX (cF env rs) args:=by repeat' first|exact trivial|exact rfl|refine And.intro ?_ ?_|decide)(hn:bC (jb (cF env rs) args)=true:=by exact rfl)(hm:dx m l (.buf k [e])=m2:=by simp only[dx,c8,Nat.reduceEqDiff,ba,bc,Nat.reduceAdd,reduceCtorEq];exact rfl):aJ Y draw (⟨.callF n x args sh,none⟩::r) env rs nx m K:=
 rI rfl _ (by simp only[aN.ea,hx,fM,bn,hl,jH,(ec _ _ _).1,ha];exact⟨trivial,ho,hn,trivial,trivial,⟨trivial,aT⟩,aT,hd,hc.1⟩) (by simp only[aN.val,hx,bn,hl,jH,(ec _ _ _).1,ha,hc.2.1]) _ (by simp only[aN.cQ,hx,bn,hl,jH,(ec _ _ _).1,ha,hc.2.2];exact hm) (fun _=>h)
end
end
end Go.Abs
section
namespace Go.Abs
abbrev au:=List UInt8
structure cZ where
 major:Int
 minor:Int
 patch:Int
 pre:au
 build:au
 deriving Inhabited,DecidableEq
def cZ.D (v:cZ):D:=.agg [.int .i64 v.major,.int .i64 v.minor,.int .i64 v.patch,.str v.pre,.str v.build]
structure vi where
 name:au
 v:cZ
 shelf:au
 sum:Int
 feats:List au
 deriving Inhabited,DecidableEq
def vi.D (x:vi):D:=.agg [.str x.name,.int .i64 x.v.major,.int .i64 x.v.minor,.int .i64 x.v.patch,.str x.v.pre,.str x.v.build,.str x.shelf,.int .u64 x.sum,.sl 1 (x.feats.map D.str)]
structure Env where
 e0:au
 e1:au
 e2:au
 deriving Inhabited,DecidableEq
def Env.D (e:Env):D:=.agg [.str e.e0,.str e.e1,.str e.e2]
structure Ep where
 env:Env
 lines:List vi
 deriving Inhabited,DecidableEq
def Ep.D (l:Ep):D:=.agg [.str l.env.e0,.str l.env.e1,.str l.env.e2,.sl 9 (l.lines.map vi.D)]
end Go.Abs
namespace Go.Abs
theorem uv (a b:List UInt8):Wp (.str a) (.str b)=decide (a=b):=pP a b
theorem xY (k k2:IntKind)(a b:Int):Wp (.int k a) (.int k2 b)=decide (a=b):=rfl
def cZ.eq (a b:cZ):jd (cZ.D a).cells (cZ.D b).cells=decide (a=b):=by
 obtain⟨a1,a2,a3,a4,a5⟩:=a;obtain⟨b1,b2,b3,b4,b5⟩:=b
 grind [cZ.D,D.cells,jd,uv,xY]
def Env.eq (a b:Env):jd (Env.D a).cells (Env.D b).cells=decide (a=b):=by
 obtain⟨a1,a2,a3⟩:=a;obtain⟨b1,b2,b3⟩:=b
 grind [Env.D,D.cells,jd,uv,xY]
theorem cZ.inj {a b:cZ}(h:cZ.D a=cZ.D b):a=b:=by
 obtain⟨a1,a2,a3,a4,a5⟩:=a;obtain⟨b1,b2,b3,b4,b5⟩:=b
 grind [cZ.D]
theorem Env.inj {a b:Env}(h:Env.D a=Env.D b):a=b:=by
 obtain⟨a1,a2,a3⟩:=a;obtain⟨b1,b2,b3⟩:=b
 grind [Env.D]
theorem map_inj {α:Type}{q:α->D}(hq:∀a b,q a=q b->a=b):∀{xs ys:List α},xs.map q=ys.map q->xs=ys
 |[],[],_=>rfl
 |[],_::_,h=>by simp at h
 |_::_,[],h=>by simp at h
 |a::r,b::s,h=>by
  simp only[List.map_cons,ub]at h;rw[hq a b h.1,map_inj hq h.2]
theorem str_inj (a b:List UInt8)(h:D.str a=D.str b):a=b:=by simpa using h
theorem vi.inj {a b:vi}(h:vi.D a=vi.D b):a=b:=by
 obtain⟨a1,⟨v1,v2,v3,v4,v5⟩,a2,a3,a4⟩:=a;obtain⟨b1,⟨w1,w2,w3,w4,w5⟩,b2,b3,b4⟩:=b
 grind [vi.D,map_inj,str_inj]
theorem Ep.inj {a b:Ep}(h:Ep.D a=Ep.D b):a=b:=by
 obtain⟨⟨a1,a2,a3⟩,a4⟩:=a;obtain⟨⟨b1,b2,b3⟩,b4⟩:=b
 grind [Ep.D,map_inj,vi.inj]
end Go.Abs
end
section
namespace Go.Abs
def allI (p:Nat->Bool):Nat->Nat->Bool
 |_,0=>true
 |i,k+1=>p i&&allI p (i+1) k
def cP (p:Nat->Bool)(i n:Nat):Bool:=allI p i (n-i)
theorem aR {p:Nat->Bool}{i n:Nat}(h:i<n):cP p i n=(p i&&cP p (i+1) n):=by
 unfold cP;rw[show n-i=(n-(i+1))+1 by omega];rfl
def ca {p:Nat->Bool}{i n:Nat}(h:n<=i):cP p i n=true:=by
 unfold cP;rw[show n-i=0 by omega];rfl
theorem EM {p:Nat->Bool}:∀{k i:Nat},allI p i k=true↔∀j,i<=j->j<i+k->p j=true
 |0,i=>by simp[allI];intro j h1 h2;omega
 |k+1,i=>by
  simp only[allI,bx,EM (k:=k)]
  grind
theorem eF {p:Nat->Bool}{i n:Nat}:cP p i n=true↔∀j,i<=j->j<n->p j=true:=by
 grind [cP,EM]
end Go.Abs
namespace Go.Abs
def aM {a a' b b':D}(h1:a=a')(h2:b=b'):D.tup [a,b]=D.tup [a',b']:=by rw[h1,h2]
def eZ {a a' b b' c c':D}(h1:a=a')(h2:b=b')(h3:c=c'):D.tup [a,b,c]=D.tup [a',b',c']:=by rw[h1,h2,h3]
end Go.Abs
namespace Go.Abs
def ld8 (s:au)(i:Nat):oc (D.int .u8 (s[i]!).toNat) 1 1 0 false=.int .u8 (at8 s i):=by
 simp only[oc,D.isAgg,at8];simp;rfl
end Go.Abs
namespace Go.Abs
def uq (s:au)(pos:Nat)(h:pos<s.length):∃c w,vv s pos=(c,w)/\1<=w/\((w=1/\(c:Int)=at8 s pos/\c<128)\/(128<=c/\128<=at8 s pos)):=by
 refine⟨(vv s pos).1,(vv s pos).2,rfl, ?_⟩;have e:vv s pos=Lib.decodeN (s.length-pos) (s.getD pos 0).toNat (s.getD (pos+1) 0).toNat (s.getD (pos+2) 0).toNat (s.getD (pos+3) 0).toNat:=Lib.decode_N ⟨⟨s⟩⟩ pos;rw[e];unfold at8;generalize (s.getD pos 0).toNat=b0;generalize (s.getD (pos+1) 0).toNat=b1;generalize (s.getD (pos+2) 0).toNat=b2;generalize (s.getD (pos+3) 0).toNat=b3;generalize s.length-pos=n;by_cases hb:b0<128
 .unfold Lib.decodeN;rw[ax hb];exact⟨aP _,.inl ⟨rfl,rfl,hb⟩⟩
 .unfold Lib.decodeN
  grind
end Go.Abs
namespace Go.Abs
def oD {α:Type}{q:α->D}{xs:List α}{m:List (Nat×bR)}{l:Nat}(hq:∀x,xV m [.a] (q x)=q x)(hl:look m l=some (.buf 1 (xs.map q))):xV m [.sl 1 [.a]] (.own l 1 0 xs.length)=.sl 1 (xs.map q):=by
 show D.sl 1 _=_;simp only[bn,hl,ct,aZ,List.map_map];congr 1;apply List.map_congr_left;intro x _;have:=hq x;simp only[Function.comp];generalize q x=d at this;cases d<;>exact this
def mH {α:Type}{q:α->D}{xs:List α}{m:List (Nat×bR)}{l:Nat}(hq:∀x,R1 m [.a] (q x))(hl:look m l=some (.buf 1 (xs.map q))):R1 m [.sl 1 [.a]] (.own l 1 0 xs.length):=by
 grind [R1,U3,U2,fM,bn,aZ]
end Go.Abs
end
namespace Go.Abs
def ik (c:Int):Bool:=decide (97<=c)&&decide (c<=122)
def bo (c:Int):Bool:=decide (48<=c)&&decide (c<=57)
def yo (c:Int):Bool:=ik c ||bo c ||decide (c=95)
def cI (s:au):Bool:=decide (1<=s.length)&&decide (s.length<=12)&&cP (fun i=>yo (at8 s i)) 0 s.length
def WK (s:au)(i:Nat):Bool:=(ik (at8 s i) ||bo (at8 s i) ||decide (at8 s i=45))&& !(decide (at8 s i=45)&&decide (at8 s (i-1)=45))
def dN (s:au):Bool:=decide (1<=s.length)&&decide (s.length<=16)&&ik (at8 s 0)&& !decide (at8 s (s.length-1)=45)&&cP (WK s) 1 s.length
def oM (s:au)(i:Nat):Bool:=ik (at8 s i) ||(bo (at8 s i)&& !decide (i=0)) ||(decide (at8 s i=45)&& !decide (i=0)&& !decide (i=s.length-1)&& !decide (at8 s (i-1)=45))
def Tv (s:au)(h1:1<=s.length)(h2:s.length<=16):dN s=cP (oM s) 0 s.length:=by
 rw[Bool.eq_iff_iff];simp only[dN,cj h1,cj h2,gu,bx,bz,bt,eF];constructor
 .rintro⟨⟨h3,h4⟩,h5⟩ j _ hj;rcases Nat.eq_zero_or_pos j with rfl|hp
  .simp[oM,h3]
  .have:=h5 j hp hj;simp only[WK,bx,cX,bz,dT,aV,bt]at this;simp only[oM,bx,cX,bz,aV,bt];rcases this with⟨(h6|h6)|h6,h7⟩
   .exact Or.inl (Or.inl h6)
   .exact Or.inl (Or.inr ⟨h6,ae⟩)
   .refine Or.inr ⟨⟨⟨h6,ae⟩, ?_⟩, ?_⟩
    .rintro rfl;exact h4 h6
    .rcases h7 with h7|h7
     .exact absurd h6 h7
     .exact h7
 .intro h;have h0:=h 0 ae ae;have hlow:ik (at8 s 0)=true:=by simpa[oM]using h0
  refine⟨⟨hlow, ?_⟩,fun j hj1 hj2=>?_⟩
  .intro he;have hl:=h (s.length-1) ae ae;rcases Nat.eq_or_lt_of_le h1 with e|e
   .rw[<-e]at he;simp only[Nat.sub_self]at he;simp only[ik,bx,aV]at hlow;omega
   .simp only[oM,he,ik,bo]at hl;simp at hl
  .have:=h j ae hj2;simp only[oM,bx,cX,bz,aV,bt]at this;simp only[WK,bx,cX,bz,dT,aV,bt];rcases this with(h6|h6)|h6
   .refine⟨Or.inl (Or.inl h6),Or.inl ?_⟩;simp only[ik,bx,aV]at h6;omega
   .refine⟨Or.inl (Or.inr h6.1),Or.inl ?_⟩;have:=h6.1;simp only[bo,bx,aV]at this;omega
   .exact⟨Or.inr h6.1.1.1,Or.inr h6.2⟩
def ef (s:au):Nat:=s.foldl (fun n b=>n*10+(b.toNat-48)) 0
def gX (s:au):Bool:=decide (1<=s.length)&&decide (s.length<=9)&& !(decide (1<s.length)&&decide (at8 s 0=48))&&cP (fun i=>bo (at8 s i)) 0 s.length&&decide (ef s<=9999)
def eY (s:au):Int:=if gX s=true then(ef s:Int)else 0
theorem kW (s:au)(i:Nat)(h:i<s.length):s.take (i+1)=s.take i++[s.getD i 0]:=by
 rw[List.take_succ];simp[h]
def wV (s:au)(i:Nat)(h:i<s.length):ef (s.take (i+1))=ef (s.take i)*10+((at8 s i).toNat-48):=by
 rw[kW s i h];simp[ef,List.foldl_append,at8]
def Nr (s:au):ef s+23<=23*10^s.length:=by
 have:∀(s:au) (n k:Nat),n+23<=23*10^k->s.foldl (fun n b=>n*10+(b.toNat-48)) n+23<=23*10^(k+s.length):=by
  intro s;induction s with
  |nil=>intro n k h;simpa using h
  |cons b r ih=>
   intro n k h;have hb:=b.toNat_lt;have:=ih (n*10+(b.toNat-48)) (k+1) (by rw[Nat.pow_succ];omega);simp only[List.foldl_cons,az];rw[show k+(r.length+1)=k+1+r.length by omega];exact this
 have:=this s 0 0 aT;simpa[ef]using this
def uK (s:au)(i:Nat)(h:i<=9):ef (s.take i)<=23000000000:=by
 have h1:=Nr (s.take i);have h2:(s.take i).length<=9:=cM;have h3:10^(s.take i).length<=10^9:=Nat.pow_le_pow_right ae h2;omega
def FM (s:au):∀n:Nat,s.foldl (fun n b=>n*10+(b.toNat-48)) n=n*10^s.length+ef s:=by
 unfold ef;induction s with
 |nil=>intro n;simp
 |cons b r ih=>
  intro n;simp only[List.foldl_cons,az];rw[ih,ih (0*10+(b.toNat-48)),Nat.pow_succ];simp only[Nat.zero_mul,b9,Nat.add_mul];rw[Nat.mul_assoc n 10,Nat.mul_comm 10];omega
def wU (b:UInt8)(r:au):ef (b::r)=(b.toNat-48)*10^r.length+ef r:=by
 have:=FM r (0*10+(b.toNat-48));simp only[ef,List.foldl_cons]at this⊢;rw[this];simp
def wJ {b:UInt8}{r:au}(h:cP (fun i=>bo (at8 (b::r) i)) 0 (b::r).length=true):bo b.toNat=true/\cP (fun i=>bo (at8 r i)) 0 r.length=true:=by
 rw[eF]at h;refine⟨by simpa[at8]using h 0 ae aT, ?_⟩;rw[eF];intro j _ hj;simpa[at8]using h (j+1) ae cM
def Ci:∀(s:au),cP (fun i=>bo (at8 s i)) 0 s.length=true->ef s<10^s.length
 |[],_=>by simp[ef]
 |b::r,h=>by
  obtain⟨h1,h2⟩:=wJ h;have:=Ci r h2;rw[wU,az,Nat.pow_succ];simp only[bo,bx,aV]at h1;have h3:b.toNat-48<=9:=ae;have:=fD (10^r.length) h3;omega
def Nq {b:UInt8}{r:au}(h:49<=b.toNat):10^r.length<=ef (b::r):=by
 rw[wU];have:=fD (10^r.length) (show 1<=b.toNat-48 by omega);omega
theorem DG (s:au):gX s=(decide (1<=s.length)&&decide (s.length<=4)&& !(decide (1<s.length)&&decide (at8 s 0=48))&&cP (fun i=>bo (at8 s i)) 0 s.length):=by
 unfold gX;cases hd:cP (fun i=>bo (at8 s i)) 0 s.length with
 |false=>simp
 |true=>
  have hlt:=Ci s hd;by_cases h4:s.length<=4
  .have:10^s.length<=10^4:=Nat.pow_le_pow_right ae h4;rw[cj h4,cj (by omega:s.length<=9),cj (by omega:ef s<=9999)];simp
  .rw[cT h4]
   match s,hd,h4 with
   |b::r,hd,h4=>
    by_cases h0:at8 (b::r) 0=48
    .rw[cj h0,cj (by omega:1<(b::r).length)];simp
    .have h1:=(wJ hd).1;simp only[bo,bx,aV]at h1;have h2:49<=b.toNat:=by
      simp[at8]at h0;omega
     have h3:=Nq (r:=r) h2;have:10^4<=10^r.length:=Nat.pow_le_pow_right ae (by simp at h4;omega);rw[cT (by omega:¬ef (b::r)<=9999)];simp
def dg (n:Nat):UInt8:=UInt8.ofNat (48+n)
def De:Nat->Nat->au
 |0,n=>[dg n]
 |f+1,n=>if n<10 then [dg n]else De f (n/10)++[dg (n%10)]
def dF (n:Nat):au:=De n n
def Jt:∀(f g n:Nat),n<=f->n<=g->De f n=De g n
 |0,0,n,_,_=>rfl
 |0,g+1,n,h,_=>by
  obtain rfl:n=0:=ae;simp[De]
 |f+1,0,n,_,h=>by
  obtain rfl:n=0:=ae;simp[De]
 |f+1,g+1,n,h1,h2=>by
  simp only[De];split
  .rfl
  .rw[Jt f g (n/10) ae ae]
theorem nb {n:Nat}(h:n<10):dF n=[dg n]:=by
 unfold dF;cases n<;>simp[De,h]
theorem om {n:Nat}(h:9<n):dF n=dF (n/10)++[dg (n%10)]:=by
 unfold dF;obtain⟨k,rfl⟩:∃k,n=k+1:=⟨n-1,ae⟩
 simp only[De];rw[aj ae,Jt k ((k+1) /10) _ ae ae]
def ep:∀(k n:Nat),n<10^k->0<k->(dF n).length<=k:=by
 intro k;induction k with
 |zero=>intro n _ h;omega
 |succ k ih=>
  intro n h _;by_cases h10:n<10
  .rw[nb h10];simp
  .rw[om ae];have hk:0<k:=by
    rcases Nat.eq_zero_or_pos k with rfl|h0
    .simp at h;omega
    .exact h0
   have:=ih (n/10) (by rw[Nat.pow_succ]at h;omega) hk;simp;omega
theorem BN {n:Nat}(h:n<10):((dg n).toNat:Int)=48+n:=by
 have:(48+n)%256=48+n:=Nat.mod_eq_of_lt ae;simp[dg,this]
def cq (b:Int):au->au->List au
 |[],cur=>[cur]
 |c::r,cur=>if(c.toNat:Int)=b then cur::cq b r []else cq b r (cur++[c])
def ak (s:au)(b:Int):List au:=cq b s []
def lY (s:au)(i:Nat)(h:i<s.length):s.drop i=s.getD i 0::s.drop (i+1):=by
 rw[jG h];simp[h]
def CB {s:au}{b:Int}{i fr:Nat}(h:i<s.length)(he:at8 s i=b):cq b (s.drop i) ((s.take i).drop fr)=((s.take i).drop fr)::cq b (s.drop (i+1)) ((s.take (i+1)).drop (i+1)):=by
 rw[lY s i h];have h2:(s.take (i+1)).drop (i+1)=[]:=aT;rw[h2];simp only[cq];rw[ax (by simpa[at8]using he)]
def CD {s:au}{b:Int}{i fr:Nat}(h:i<s.length)(hf:fr<=i)(he:¬at8 s i=b):cq b (s.drop i) ((s.take i).drop fr)=cq b (s.drop (i+1)) ((s.take (i+1)).drop fr):=by
 rw[lY s i h,kW s i h,List.drop_append_of_le_length cM];simp only[cq];rw[aj (by simpa[at8]using he)]
def AK {s:au}{b:Int}{i fr:Nat}(h:s.length<=i):cq b (s.drop i) ((s.take i).drop fr)=[s.drop fr]:=by
 rw[k8 h,ek h];rfl
def tQ (b:Int):∀(s cur:au),(cq b s cur).length<=s.length+1
 |[],cur=>by simp[cq]
 |c::r,cur=>by
  simp only[cq];split
  .have:=tQ b r [];simp;omega
  .have:=tQ b r (cur++[c]);simp;omega
theorem dG (s:au)(b:Int):(ak s b).length<=s.length+1:=tQ b s []
theorem eU (b:Int)(s cur:au):1<=(cq b s cur).length:=by
 induction s generalizing cur with
 |nil=>simp[cq]
 |cons c r ih=>
  simp only[cq];split
  .simp
  .exact ih _
def jO (s:au)(b:Int)(i:Nat):au×au:=match(s.drop i).findIdx? (fun c=>decide ((c.toNat:Int)=b))with
 |some k=>(s.drop (i+k+1),s.take (i+k))
 |none=>([],s)
def fm (s:au)(b:Int):au×au:=jO s b 0
def Hv {s:au}{b:Int}{i:Nat}(h:i<s.length)(he:at8 s i=b):jO s b i=(s.drop (i+1),s.take i):=by
 unfold jO;rw[lY s i h,List.findIdx?_cons];simp only[at8]at he;rw[ax (by simpa using he)];rfl
def Hw {s:au}{b:Int}{i:Nat}(h:i<s.length)(he:¬at8 s i=b):jO s b i=jO s b (i+1):=by
 unfold jO;rw[lY s i h,List.findIdx?_cons];simp only[at8]at he;simp only[he,decide_false,gV,bc];cases(s.drop (i+1)).findIdx? (fun c=>decide ((c.toNat:Int)=b))with
 |none=>rfl
 |some k=>simp only[Option.map_some];rw[show i+(k+1)=i+1+k by omega]
def ER {s:au}{b:Int}{i:Nat}(h:s.length<=i):jO s b i=([],s):=by
 unfold jO;rw[k8 h];rfl
def nt (c:Int):Bool:=ik c ||bo c ||decide (c=45)
def rS (t:au):Bool:=decide (1<=t.length)&&decide (t.length<=8)&&cP (fun i=>nt (at8 t i)) 0 t.length
def cR (t:au):Bool:=cP (fun i=>bo (at8 t i)) 0 t.length&&decide (0<t.length)
def iC (p:Bool)(t:au):Bool:=rS t&& !(p&&cR t&& !gX t)
def oA (s:au)(p:Bool):Bool:=decide ((ak s 46).length<=4)&&cP (fun i=>iC p (ak s 46)[i]!) 0 (ak s 46).length
def rT (s:au)(p:Bool):Bool:=decide (s=[]) ||oA s p
def pV (n:Int):Bool:=decide (0<=n)&&decide (n<=9999)
def fe (v:cZ):Bool:=pV v.major&&pV v.minor&&pV v.patch&&rT v.pre true&&rT v.build false
def sL (v:cZ):au:=dF v.major.toNat++[46]++dF v.minor.toNat++[46]++dF v.patch.toNat++(if v.pre=[]then []else 45::v.pre)++(if v.build=[]then []else 43::v.build)
def j3 (v:cZ):au:=if fe v=true then sL v else []
def cZ.sm (v:cZ):Prop:=v.pre.length<=1048576/\v.build.length<=1048576
def TF (a b:Int):Int:=IntKind.u64.wrap ((BitVec.ofInt 64 a |||BitVec.ofInt 64 b).toNat)
def AZ (a b:Int):Int:=IntKind.u64.wrap ((BitVec.ofInt 64 a^^^BitVec.ofInt 64 b).toNat)
def uS (a:Int)(k:Nat):Int:=IntKind.u64.wrap (a*2^k)
def sT (a:Int)(k:Nat):Int:=a.fdiv (2^k)
def Xl (h:Int)(k:Nat):Int:=TF (uS h k) (sT h (64-k))
def Kw (h:Int)(c:Int):Int:=IntKind.u64.wrap (Xl (AZ h c) 13*18397679294719823053)
def wu (s:au):Int:=s.foldl (fun h c=>Kw h c.toNat) 11400714819323198485
def GB (s:au):Int:=AZ (wu s) (sT (wu s) 29)
def CJ (s:au)(i:Nat)(h:i<s.length):wu (s.take (i+1))=Kw (wu (s.take i)) (at8 s i):=by
 grind [kW,wu,at8]
def Np (n:Int)(i:Nat):Nat:=(BitVec.ofInt 64 (sT n (4*i))&&&15#64).toNat
theorem zW (n:Int)(i:Nat):Np n i<16:=by
 unfold Np;rw[BitVec.toNat_and];exact Nat.lt_of_le_of_lt Nat.and_le_right aH
def Qo (n:Int)(i:Nat):IntKind.u64.wrap ((BitVec.ofInt 64 (sT n (4*i))&&&BitVec.ofInt 64 15).toNat)=(Np n i:Nat):=by
 have h:=zW n i;unfold Np at h⊢;have e:BitVec.ofInt 64 15=15#64:=aH;rw[e,IntKind.wrap_u64];omega
def sD (k:Nat):UInt8:=([48,49,50,51,52,53,54,55,56,57,97,98,99,100,101,102]:au).getD k 0
def gI (n:Int):au:=(List.range 16).map fun j=>sD (Np n (15-j))
theorem ke (n:Int):(gI n).length=16:=by simp[gI]
def I9 (n:Int)(k:Nat)(h:k<16):(gI n).take (k+1)=(gI n).take k++[([48,49,50,51,52,53,54,55,56,57,97,98,99,100,101,102]:au).getD (Np n (15-k)) 0]:=by
 grind [kW,ke,gI,sD]
def Tg (k:Nat)(h:k<10):((sD k).toNat:Int)=48+k:=by
 have:∀k:Fin 10,((sD k.1).toNat:Int)=48+k.1:=aH
 exact this ⟨k,h⟩
def Tf (k:Nat)(h:10<=k)(h2:k<16):((sD k).toNat:Int)=87+k:=by
 have:∀k:Fin 16,10<=k.1->((sD k.1).toNat:Int)=87+k.1:=aH
 exact this ⟨k,h2⟩ h
def uV (n:Int)(i:Nat):au:=List.replicate (16-i) 0++(gI n).drop (16-i)
theorem sx (n:Int)(i:Nat):(uV n i).length=16:=by simp[uV,ke]
def Ol (n:Int):uV n 16=gI n:=by simp[uV]
def Om (n:Int)(i:Nat)(h:i<16):uV n (i+1)=(uV n i).set (15-i) (sD (Np n i)):=by
 apply List.ext_getElem
 .simp[sx]
 grind [sx,uV,gI]
def ph (c:Int):Bool:=bo c ||(decide (97<=c)&&decide (c<=102))
def HS (c:Int):Int:=if bo c=true then c-48 else c-87
def rJ (n c:Int):Int:=TF (uS n 4) (HS c)
def qu (s:au):Int:=s.foldl (fun n c=>rJ n c.toNat) 0
def Au (s:au)(i:Nat)(h:i<s.length):qu (s.take (i+1))=rJ (qu (s.take i)) (at8 s i):=by
 grind [kW,qu,at8]
def m7 (s:au):Bool:=decide (s.length=16)&&cP (fun i=>ph (at8 s i)) 0 s.length
def uN (s:au):Int:=if m7 s=true then qu s else 0
def Env.at (e:Env):Nat->au
 |0=>e.e0
 |1=>e.e1
 |_=>e.e2
def Env.ld (e:Env){i:Nat}(h:i<3):oc (Env.D e) 3 1 (0+i*1) false=.str (e.at i):=by
 match i,h with
 |0,_=>rfl
 |1,_=>rfl
 |2,_=>rfl
def Ep.ld (l:Ep){i:Nat}(h:i<3):oc (Ep.D l) 4 1 (0+i*1) false=.str (l.env.at i):=by
 match i,h with
 |0,_=>rfl
 |1,_=>rfl
 |2,_=>rfl
def Env.cut (e:Env){i:Nat}(h:i<3):Abs.cut [.str e.e0,.str e.e1,.str e.e2] (i*1) 1 false=.str (e.at i):=by
 match i,h with
 |0,_=>rfl
 |1,_=>rfl
 |2,_=>rfl
def vi.sm (x:vi):Prop:=x.v.sm/\x.name.length<=1048576/\x.shelf.length<=1048576/\x.feats.length<=1048576/\∀t∈x.feats,t.length<=1048576
def Ep.sm (l:Ep):Prop:=l.lines.length<=1048576/\(∀x∈l.lines,x.sm)/\∀i,(l.env.at i).length<=1048576
theorem bB {α:Type} [Inhabited α]{l:List α}{i:Nat}(h:i<l.length):l[i]! ∈l:=by
 simp[h]
structure Kp where
 name:au
 v:cZ
 deriving Inhabited,DecidableEq
def Kp.D (x:Kp):D:=.agg [.str x.name,.int .i64 x.v.major,.int .i64 x.v.minor,.int .i64 x.v.patch,.str x.v.pre,.str x.v.build]
theorem pE {α:Type} [Inhabited α] [DecidableEq α]{a b:List α}(h:a.length=b.length):decide (a=b)=cP (fun i=>decide (a[i]! =b[i]!)) 0 a.length:=by
 rw[Bool.eq_iff_iff,aV,eF];constructor
 .rintro rfl j _ _;simp
 .intro hj;apply List.ext_getElem h
  grind
def vi.same {a b:vi}(e1:a.name=b.name)(e2:a.v=b.v)(e3:a.shelf=b.shelf)(e4:a.sum=b.sum)(e5:a.feats.length=b.feats.length):decide (a=b)=cP (fun i=>decide (a.feats[i]! =b.feats[i]!)) 0 a.feats.length:=by
 rw[<-pE e5];obtain⟨a1,a2,a3,a4,a5⟩:=a;obtain⟨b1,b2,b3,b4,b5⟩:=b
 grind
def aS (b:au):List au->au
 |[]=>[]
 |[t]=>t
 |t::u::r=>t++b++aS b (u::r)
theorem gE (b t:au)(r:List au)(h:r≠[]):aS b (t::r)=t++b++aS b r:=by
 cases r with
 |nil=>exact absurd rfl h
 |cons u r=>rfl
def qY {α:Type}(q:α->au)(B:Nat):∀l:List α,(∀x∈l,(q x).length<=B)->((l.map q).flatten).length<=l.length*B
 |[],_=>aT
 |a::r,h=>by
  have h1:=h a (.head _);have h2:=qY q B r fun x hx=>h x (.tail _ hx)
  simp only[List.map_cons,List.flatten_cons,bF,az,Nat.succ_mul];omega
def AR (v:cZ)(h:v.sm):(j3 v).length<=2097200:=by
 unfold j3;split
 .rename_i hv;simp only[fe,bx]at hv;obtain⟨⟨⟨⟨hv1,hv2⟩,hv3⟩,_⟩,_⟩:=hv;simp only[pV,bx,aV]at hv1 hv2 hv3;have hl1:=ep 4 v.major.toNat ae ae;have hl2:=ep 4 v.minor.toNat ae ae;have hl3:=ep 4 v.patch.toNat ae ae;obtain⟨h1,h2⟩:=h
  grind [sL]
 .simp
def Env.sm (e:Env):Prop:=∀i,(e.at i).length<=1048576
end Go.Abs
section
namespace Go.Abs
def W1 (v n:Int):Int:=if n<1 then 0 else if v.tmod n<0 then v.tmod n+n else v.tmod n
def Jb (v n:Int)(h:1<=n):-n<v.tmod n/\v.tmod n<n:=⟨Int.lt_tmod_of_pos v ae,Int.tmod_lt_of_pos v ae⟩
def atI (l:List Int)(i:Int):Int:=if i<0\/(l.length:Int)<=i then i.tmod 3 else l[i.toNat]!
structure Gs where
 l:List Int
 i:Int
 deriving Inhabited
def Gs.D (g:Gs):D:=.agg [.sl 1 (g.l.map (D.int .i64)),.int .i64 g.i]
def Gs.val (g:Gs)(n:Int):Int:=W1 (atI g.l g.i) n
def Gs.A6 (g:Gs):Gs:=⟨g.l,g.i+1⟩
def ie (s:au)(b:UInt8):au×au×Bool:=match s.findIdx? (fun c=>c==b)with
 |some k=>(s.take k,s.drop (k+1),true)
 |none=>(s,[],false)
def cG (s p:au):au×Bool:=if p.isPrefixOf s=true then(s.drop p.length,true)else(s,false)
def Pv (s:au)(b:UInt8):(ie s b).1.length<=s.length/\((ie s b).2.2=true->(ie s b).1.length+1<=s.length):=by
 unfold ie;split
 .rename_i k h;have:=List.findIdx?_eq_some_iff_findIdx_eq.1 h;simp only[ff];omega
 .simp
structure Uw where
 s:au
 at':Nat
 n:Nat
def Uw.D (r:Uw):D:=.agg [.str r.s,.int .i64 (r.at':Nat),.int .i64 (r.n:Nat)]
def Uw.ln (r:Uw):au×au×Bool:=ie (r.s.drop r.at') 10
def Uw.A6 (r:Uw):Uw:=⟨r.s,if r.ln.2.2=true then r.at'+(r.ln.1.length+1)else r.at',r.n+1⟩
def ll:cZ:=⟨0,0,0,[],[]⟩
def pJ (s:au):Option cZ:=
 let a:=fm s 43
 let b:=fm a.2 45
 let l:=ak b.2 46
 if l.length=3/\gX l[0]! =true/\gX l[1]! =true/\gX l[2]! =true then
  let v:cZ:=⟨eY l[0]!,eY l[1]!,eY l[2]!,b.1,a.1⟩
  if fe v=true/\j3 v=s then some v else none
 else none
def Ni (l:List au)(i:Nat):D:=.agg [.int .i64 (if 0<i then eY l[0]! else 0),.int .i64 (if 1<i then eY l[1]! else 0),.int .i64 (if 2<i then eY l[2]! else 0)]
def FI (l:List au)(i:Nat)(h:i<3):uT (Ni l i) 3 1 (0+i*1) (.int .i64 (eY l[i]!))=Ni l (i+1):=by
 match i,h with
 |0,_=>rfl
 |1,_=>rfl
 |2,_=>rfl
def og (s:au)(b:Int):(fm s b).1.length<=s.length/\(fm s b).2.length<=s.length:=by
 grind [fm,jO]
def tR (b:Int):∀(s cur:au),∀t∈cq b s cur,t.length<=cur.length+s.length
 |[],cur,t,h=>by simp only[cq,cN]at h;subst h;simp
 |c::r,cur,t,h=>by
  simp only[cq]at h;split at h
  .rcases bY.1 h with rfl|h
   .simp
   .have:=tR b r [] t h;simp at this⊢;omega
  .have:=tR b r (cur++[c]) t h;simp at this⊢;omega
def eJ (s:au)(b:Int){t:au}(h:t∈ak s b):t.length<=s.length:=by
 have:=tR b s [] t h;simpa using this
theorem qg (s:au)(b:Int){i:Nat}(h:i<(ak s b).length):((ak s b)[i]!).length<=s.length:=eJ s b (bB h)
end Go.Abs
namespace Go.Abs
def Br (s:au):Int:=if(pJ s).isSome=true then 0 else 5
end Go.Abs
namespace Go.Abs
end Go.Abs
namespace Go.Abs
def T3 {s:au}(h:s.length<=1048576):((pJ s).getD ll).sm:=by
 have h0:ll.sm:=⟨by simp[ll],by simp[ll]⟩;cases hq:pJ s with
 |none=>exact h0
 |some v=>
  simp only[Option.getD_some];simp only[pJ]at hq;split at hq
  .split at hq
   .obtain rfl:=ch hq;have h1:=og s 43;have h2:=og (fm s 43).2 45;exact⟨by simp only;omega,by simp only;omega⟩
   .cases hq
  .cases hq
end Go.Abs
namespace Go.Abs
def HE (s p:au):(cG s p).1.length<=s.length:=by
 unfold cG;split<;>simp
end Go.Abs
namespace Go.Abs
variable {e:Env} {f:Nat} {r:Uw} {ls:List vi}
end Go.Abs
namespace Go.Abs
end Go.Abs
end
namespace Go.Abs
section
section
variable {Y:Ctx} {draw:Bool} {r:List GI} {env rs:List bW} {nx:Nat} {m:List (Nat×bR)} {K:List bW->St->Prop} {g:Option (Nat×Bool)} {f:Bool}
def cA {n:Nat}{args:List Src}{alI:List D}{v:D}{nx':Nat}{m':List (Nat×bR)}(h:aJ Y draw r env (⟨true,v⟩::rs) nx' m' K)
  (hc:∀K':D->St->Prop,K' v ⟨nx'+rs.length,m'⟩->Y.tr n alI ⟨nx+rs.length,m⟩ K') (hn:nx<=nx') (ha:jb (cF env rs) args=alI:=by exact rfl)
  (ho:wX (cF env rs) args:=by repeat' first|exact trivial|exact rfl|refine And.intro ?_ ?_):aJ Y draw (⟨.callM n args,none⟩::r) env rs nx m K:=by
 unfold aJ;show True/\(true=true->wX (Src.ev env rs.reverse) args/\Y.tr n (jb (Src.ev env rs.reverse) args) {nx:=nx+rs.reverse.length,m:=m} _)/\(true=false->_)
 grind [ng,aJ]
def Xi {l k i0 n:Nat}{x y z:Src}{fx fy fz:Bool}{kh km:IntKind}{h' m':Int}(j:Nat)(h:aJ Y draw r env (⟨f,.own l k i0 j⟩::rs) nx m K)(hg:GF rs g f:=by exact di)(hx:cF env rs x=⟨fx,.own l k i0 n⟩:=by exact rfl)(hy:cF env rs y=⟨fy,.int kh h'⟩:=by exact rfl)(hz:cF env rs z=⟨fz,.int km m'⟩:=by exact rfl)
  (kx:f=true->fx=true:=by exact b8) (ky:f=true->fy=true:=by exact b8) (kz:f=true->fz=true:=by exact b8)
  (hj:f=true->h'=(j:Int)) (hb:f=true->(j:Int)<=m'/\m'<=(n:Int)):aJ Y draw (⟨.slX k x y z,g⟩::r) env rs nx m K:=
 bT rfl hg _ (fun hf=>by have h1:=hj hf;have h2:=hb hf;simp only[aN.ea,hx,hy,hz];exact⟨kx hf,ky hf,kz hf,ae,ae,trivial,h2.2⟩) (fun hf=>by simp only[aN.val,hx,hy];rw[hj hf,Int.toNat_natCast]) (fun _=>h)
def Xh {α:Type}{q:α->D}{s:List α}{k:Nat}{x y z:Src}{fx fy fz:Bool}{kh km:IntKind}{h' m':Int}(j:Nat)(h:aJ Y draw r env (⟨f,.sl k ((s.take j).map q)⟩::rs) nx m K)(hg:GF rs g f:=by exact di)(hx:cF env rs x=⟨fx,.sl k (s.map q)⟩:=by exact rfl)(hy:cF env rs y=⟨fy,.int kh h'⟩:=by exact rfl)(hz:cF env rs z=⟨fz,.int km m'⟩:=by exact rfl)
  (kx:f=true->fx=true:=by exact b8) (ky:f=true->fy=true:=by exact b8) (kz:f=true->fz=true:=by exact b8)
  (hj:f=true->h'=(j:Int)) (hb:f=true->(j:Int)<=m'/\m'<=(s.length:Int)):aJ Y draw (⟨.slX k x y z,g⟩::r) env rs nx m K:=
 bT rfl hg _ (fun hf=>by have h1:=hj hf;have h2:=hb hf;simp only[aN.ea,hx,hy,hz,bU];exact⟨kx hf,ky hf,kz hf,ae,ae,trivial,h2.2⟩) (fun hf=>by simp only[aN.val,hx,hy];rw[hj hf,Int.toNat_natCast,List.map_take]) (fun _=>h)
def gB {n:Nat}{args:List Src}{alI:List D}{ι:Type}(P:ι->Prop)(V:ι->D)(nx':Nat)(M:ι->List (Nat×bR))(h:∀i,P i->aJ Y draw r env (⟨true,V i⟩::rs) nx' (M i) K)
  (hc:∀K':D->St->Prop,(∀i,P i->K' (V i) ⟨nx'+rs.length,M i⟩)->Y.tr n alI ⟨nx+rs.length,m⟩ K') (hn:nx<=nx') (ha:jb (cF env rs) args=alI:=by exact rfl)
  (ho:wX (cF env rs) args:=by repeat' first|exact trivial|exact rfl|refine And.intro ?_ ?_):aJ Y draw (⟨.callM n args,none⟩::r) env rs nx m K:=by
 unfold aJ;show True/\(true=true->wX (Src.ev env rs.reverse) args/\Y.tr n (jb (Src.ev env rs.reverse) args) {nx:=nx+rs.reverse.length,m:=m} _)/\(true=false->_)
 grind [ng,aJ]
def Co {n j:Nat}{w:Bool}{args:List Src}{alI:List D}{ι:Type}(P:ι->Prop)(V:ι->D)(nx':Nat)(M:ι->List (Nat×bR))(h:∀i,P i->aJ Y draw r env (⟨true,V i⟩::rs) nx' (M i) K)(hg:GF rs (some (j,w)) true:=by exact⟨_,_,rfl,rfl⟩)
  (hc:∀K':D->St->Prop,(∀i,P i->K' (V i) ⟨nx'+rs.length,M i⟩)->Y.tr n alI ⟨nx+rs.length,m⟩ K') (hn:nx<=nx') (ha:jb (cF env rs) args=alI:=by exact rfl)
  (ho:wX (cF env rs) args:=by repeat' first|exact trivial|exact rfl|refine And.intro ?_ ?_):aJ Y draw (⟨.callM n args,some (j,w)⟩::r) env rs nx m K:=by
 unfold aJ;show Bg rs.reverse (some (j,w))/\(flag rs.reverse (some (j,w))=true->wX (Src.ev env rs.reverse) args/\Y.tr n (jb (Src.ev env rs.reverse) args) {nx:=nx+rs.reverse.length,m:=m} _)/\(flag rs.reverse (some (j,w))=false->_);obtain⟨hg1,hg2⟩:=hg.flag
 grind [ng,aJ]
def Ka {n j:Nat}{w:Bool}{args:List Src}(h:aJ Y draw r env (⟨false,.any⟩::rs) nx m K)(hg:GF rs (some (j,w)) false:=by exact⟨_,_,rfl,rfl⟩):aJ Y draw (⟨.callM n args,some (j,w)⟩::r) env rs nx m K:=by
 unfold aJ;show Bg rs.reverse (some (j,w))/\(flag rs.reverse (some (j,w))=true->_)/\(flag rs.reverse (some (j,w))=false->_);obtain⟨hg1,hg2⟩:=hg.flag
 grind [aJ]
def Q5 {c a:Src}{fc t:Bool}(h:aJ Y draw r env (⟨f,.bool false⟩::rs) nx m K)(hg:GF rs g f:=by exact di)(hc:cF env rs c=⟨fc,.bool t⟩:=by exact rfl)(kc:f=true->fc=true:=by exact fun _=>rfl)(ht:t=false:=by exact rfl):aJ Y draw (⟨.pick c a (.c (.bool false)),g⟩::r) env rs nx m K:=by
 subst ht;refine bT rfl hg _ (fun hf=>?_) (fun hf=>?_) (fun _=>h)
 .simp only[aN.ea,hc];exact⟨kc hf,⟨fun h=>absurd h aT,fun _=>rfl⟩⟩
 .simp only[aN.val,hc];have:cF env rs (.c (.bool false))=⟨true,.bool false⟩:=rfl;rw[this];cases(cF env rs a).d<;>rfl
def nE {n:Nat}{x:Src}{caps:List D}{args:List Src}{alI:List D}{ι:Type}(P:ι->Prop)(V:ι->D)(nx':Nat)(M:ι->List (Nat×bR))(h:∀i,P i->aJ Y draw r env (⟨true,V i⟩::rs) nx' (M i) K)
  (hc:∀K':D->St->Prop,(∀i,P i->K' (V i) ⟨nx'+rs.length,M i⟩)->Y.tr (C8 n) alI ⟨nx+rs.length,m⟩ K') (hn:nx<=nx') (hx:cF env rs x=⟨true,.fn n caps⟩:=by exact rfl) (ha:A9 n (jb (cF env rs) args) caps=alI:=by exact rfl)
  (ho:wX (cF env rs) args:=by repeat' first|exact trivial|exact rfl|refine And.intro ?_ ?_):aJ Y draw (⟨.callvM x args,none⟩::r) env rs nx m K:=by
 unfold aJ;show PY rs.reverse (.callvM x args) none/\(Src.ev env rs.reverse x).ok=true/\wX (Src.ev env rs.reverse) args/\match(Src.ev env rs.reverse x).d with
   | .fn n caps=>Y.tr (C8 n) (A9 n (jb (Src.ev env rs.reverse) args) caps) {nx:=nx+rs.reverse.length,m:=m} _
   |_=>False
 rw[ng,List.length_reverse];simp only[hx,ha];refine⟨trivial,trivial,ho,hc _ fun i hi=>⟨by show nx+rs.length<=nx'+rs.length;omega, ?_⟩⟩
 grind [aJ]
def Ra {x:Src}{fx:Bool}{α:Type} [Inhabited α]{n k i o:Nat}{ag:Bool}{q:α->D}{xs:List α}(v:D)(h:aJ Y draw r env (⟨f,v⟩::rs) nx m K)(hg:GF rs g f:=by exact di)(hx:cF env rs x=⟨fx,.ref k (xs.map q) i o⟩:=by exact rfl)(kx:f=true->fx=true:=by exact b8)(hi:f=true->i<xs.length:=by exact ua)(hv:f=true->oc (q xs[i]!) k n o ag=v:=by exact fun _=>rfl)(ho:o+n<=k:=by omega):aJ Y draw (⟨.ldU n ag x,g⟩::r) env rs nx m K:=
 il rfl hg _ (fun hf=>by simp only[aN.ea,hx,FC,bU];exact⟨kx hf,hi hf,ho⟩) (fun hf=>by simp only[aN.val,hx,Ey];rw[getD_map (hi hf)];exact hv hf) m rfl (fun ha=>h)
def Q9 {x:Src}{fx:Bool}{n l k o:Nat}{ag:Bool}{d:D}(v:D)(h:aJ Y draw r env (⟨f,v⟩::rs) nx m K)(hg:GF rs g f:=by exact di)(hx:cF env rs x=⟨fx,.ptr l k 0 o⟩:=by exact rfl)(kx:f=true->fx=true:=by exact b8)(hl:f=true->look m l=some (.buf k [d]):=by exact fun _=>rfl)(hv:f=true->oc d k n o ag=v:=by exact fun _=>rfl)(ho:o+n<=k:=by omega)(hd:f=true->d.bE=false:=by exact fun _=>rfl):aJ Y draw (⟨.ldU n ag x,g⟩::r) env rs nx m K:=
 il rfl hg _ (fun hf=>by simp only[aN.ea,hx,FC,fM,hl hf];exact⟨kx hf,⟨⟨trivial,aT⟩,ho⟩,by simp only[bn,hl hf,bC,hd hf];rfl⟩) (fun hf=>by simp only[aN.val,hx,Ey,bn,hl hf,jH];exact hv hf) m rfl (fun ha=>h)
end
end
end Go.Abs
section
namespace Go.Abs
def WM:List au->D
 |[]=>.aD
 |a::r=>.sl 1 ((a::r).map D.str)
def Ch:∀l,(WM l).bE=true
 |[]=>rfl
 |a::r=>rfl
def vi.N (x:vi):Go.Abs.D:=.agg [.str x.name,.int .i64 x.v.major,.int .i64 x.v.minor,.int .i64 x.v.patch,.str x.v.pre,.str x.v.build,.str x.shelf,.int .u64 x.sum,WM x.feats]
def vi.pN (x:vi):x.N.bE=true:=by
 have:=Ch x.feats;simp only[vi.N,D.bE,bC,this,oO]
end Go.Abs
namespace Go.Abs
def vi.F (name:au)(v:cZ)(shelf:au)(sum:Int)(fs:Go.Abs.D):Go.Abs.D:=.agg [.str name,.int .i64 v.major,.int .i64 v.minor,.int .i64 v.patch,.str v.pre,.str v.build,.str shelf,.int .u64 sum,fs]
mutual
theorem Wu (l k:Nat)(es:List D):∀d:D,d.bE=true->kl l k es d=d
 | .agg a,h=>by simp only[kl,zB l k es a (by simpa[D.bE]using h)]
 | .tup a,h=>by simp only[kl,zB l k es a (by simpa[D.bE]using h)]
 | .fn n a,h=>by simp only[kl,zB l k es a (by simpa[D.bE]using h)]
 | .own ..,h=>by simp[D.bE]at h
 | .ptr ..,h=>by simp[D.bE]at h
 | .it ..,h=>by simp[D.bE]at h
 | .any,_| .bool _,_| .int ..,_| .str _,_| .aD,_| .sl ..,_| .ref ..,_| .nilp,_| .nilf,_=>rfl
theorem zB (l k:Nat)(es:List D):∀ds:List D,bC ds=true->mY l k es ds=ds
 |[],_=>rfl
 |d::r,h=>by
  simp only[bC,bx]at h;simp only[mY,Wu l k es d h.1,zB l k es r h.2]
end
end Go.Abs
namespace Go.Abs
end Go.Abs
namespace Go.Abs
end Go.Abs
namespace Go.Abs
end Go.Abs
namespace Go.Abs
end Go.Abs
namespace Go.Abs
end Go.Abs
end
section
namespace Go.Abs
end Go.Abs
namespace Go.Abs
def Kp.eq (a b:Kp):jd (Kp.D a).cells (Kp.D b).cells=decide (a=b):=by
 obtain⟨n1,⟨a1,a2,a3,a4,a5⟩⟩:=a;obtain⟨n2,⟨b1,b2,b3,b4,b5⟩⟩:=b
 grind [Kp.D,D.cells,jd,uv,xY]
structure vi.ok (n:Nat)(x:vi):Prop where
 pre:x.v.pre.length<=3
 build:x.v.build.length<=2
 name:x.name.length<=16
 shelf:x.shelf.length<=16
 nf:x.feats.length<=n
 ft:∀t∈x.feats,t.length<=16
 sum:0<=x.sum/\x.sum<18446744073709551616
structure Ep.ok (n:Nat)(l:Ep):Prop where
 len:l.lines.length<=4
 lines:∀x∈l.lines,x.ok n
 env:∀i,(l.env.at i).length<=16
def Ep.ok.sm {n:Nat}{l:Ep}(h:l.ok n)(hn:n<=1000):l.sm:=by
 refine⟨by have:=h.len;omega,fun x hx=>?_,fun i=>by have:=h.env i;omega⟩;have k:=h.lines x hx;have k1:=k.pre;have k2:=k.build;have k3:=k.name;have k4:=k.shelf;have k5:=k.nf;exact⟨⟨ae,ae⟩,ae,ae,ae,fun t ht=>by have:=k.ft t ht;omega⟩
def vi.ok.mono {n m:Nat}{x:vi}(h:x.ok n)(hm:n<=m):x.ok m:=⟨h.pre,h.build,h.name,h.shelf,dc h.nf hm,h.ft,h.sum⟩
end Go.Abs
end
namespace Go.Abs
section
def lk {α:Type}:List (Nat×α)->Nat->α->α
 |[],_,d=>d
 |(a,b)::r,n,d=>bif Nat.beq a n then b else lk r n d
structure Row where
 key:Nat
 pre:List D->Prop
 val:List D->D
structure RowF where
 pre:D->List D->Prop
 val:D->List D->D
 new:D->List D->D
def Row.no:Row:=⟨0,fun _=>False,fun _=>.any⟩
def RowF.no:RowF:=⟨fun _ _=>False,fun _ _=>.any,fun _ _=>.any⟩
section
variable [dD] {P:Program} {ν:List (Nat×Nat)} {cQ:List Nat} {Y:Ctx}
end
end
section
variable [dD]
section
variable {P:Program} {ν:List (Nat×Nat)} {cQ:List Nat} {Y:Ctx}
def RD.re {x x':X}{σ:List (Nat×Nat)}(hw:x'.w=x.w)(hI:x'.I=x.I)(hβ:∀l l',oy 0 σ l=some l'->x'.β l'=x.β l){v:Value}{d d':D}(hv:RD ν x v d)(hd:Sc 0 σ d d'):RD ν x' v d':=by
 rcases hd with⟨rfl,hn⟩|hd|hd
 .exact hv.bE hn (fun _ h=>by rw[hI];exact h) (fun _ _=>by rw[hw])
 .grind [RD.rn]
 grind [RD.nl]
def oE.re {x x':X}{σ:List (Nat×Nat)}(hw:x'.w=x.w)(hI:x'.I=x.I)(hβ:∀l l',oy 0 σ l=some l'->x'.β l'=x.β l){b base tot:Nat}{b0 blk:bR}(o2:oE ν x b base tot b0)(q3:sN 0 σ b0 blk):oE ν x' b base tot blk:=by
 cases b0 with
 |iter s p=>
  cases blk with
  |iter s' p'=>simp only[sN]at q3;obtain⟨rfl,rfl⟩:=q3;simp only[oE,hw]at o2⊢;exact o2
  |_=>simp[sN]at q3
 |row s=>
  cases blk with
  |row s'=>simp only[sN]at q3;subst q3;simp only[oE,hw]at o2⊢;exact o2
  |_=>simp[sN]at q3
 |bld o n u=>
  cases blk with
  |bld o' n' u'=>
   simp only[sN]at q3;obtain⟨q3,rfl,rfl⟩:=q3;obtain⟨p1,v,p2,p3⟩:=o2;refine⟨p1,v,by rw[hw];exact p2, ?_⟩;cases o with
   |none=>simp only at q3;subst q3;exact p3
   |some l0=>
    obtain⟨l1,q4,rfl⟩:=q3;obtain⟨g,t,p4,p5,p6⟩:=p3;exact⟨g,t,p4,p5,by rw[hβ l0 l1 q4];exact p6⟩
  |_=>simp[sN]at q3
 |buf k es=>
  cases blk with
  |iter s' p'=>simp[sN]at q3
  |row s'=>simp[sN]at q3
  |bld o' n' u'=>simp[sN]at q3
  |buf k' es'=>
   simp only[sN]at q3;obtain⟨rfl,q3⟩:=q3;obtain⟨p1,p2,cc,T,fr,p3,p4,p5,p6⟩:=o2;rw[<-hw]at p3;rcases q3 with⟨rfl,hn⟩|q3|q3
   .exact⟨p1,p2,cc,T,fr,p3,p4,p5,fun i hi=>⟨(p6 i hi).1,fun j hj=>⟨((p6 i hi).2 j hj).1,RD.re hw hI hβ ((p6 i hi).2 j hj).2 (.inl ⟨rfl,lL (dz hn i) j⟩)⟩⟩⟩
   .obtain⟨r1,r2⟩:=mB q3;refine⟨p1,ae,cc,T,fr,p3,p4,p5,fun i hi=>?_⟩;have hi':i<es.length:=ae;obtain⟨s1,s2⟩:=Cv (r2 i hi');exact⟨s1.trans (p6 i hi').1,fun j hj=>⟨((p6 i hi').2 j hj).1,RD.re hw hI hβ ((p6 i hi').2 j hj).2 (.inr (.inl (s2 j (by rw[(p6 i hi').1];exact hj))))⟩⟩
   .obtain⟨r1,r2⟩:=qI q3;refine⟨p1,ae,cc,T,fr,p3,p4,p5,fun i hi=>?_⟩;have hi':i<es.length:=ae;obtain⟨s1,s2⟩:=Bx (r2 i hi');exact⟨s1.trans (p6 i hi').1,fun j hj=>⟨((p6 i hi').2 j hj).1,RD.re hw hI hβ ((p6 i hi').2 j hj).2 (.inr (.inr (s2 j (by rw[(p6 i hi').1];exact hj))))⟩⟩
def Kn {lo c:Nat}{σ:List (Nat×Nat)}{l l':Nat}(h0:iY 0 c σ=true)(h:oy 0 σ l=some l'):l'<c/\(l,l')∈σ:=by
 obtain⟨h1,h2⟩:=uR h0 h
 grind
def uJ {c:Nat}:∀{σ:List (Nat×Nat)}{a b:Nat},iY 0 c σ=true->(a,b)∈σ->oy 0 σ a=some b
 |[],a,b,_,h=>by cases h
 |(a0,b0)::r,a,b,h0,h=>by
  unfold oy;simp only[iY,bx,List.all_eq_true,bz]at h0;obtain⟨_,_,p4,p5⟩:=h0;rcases bY.1 h with h|h
  .simp only[eo]at h;obtain⟨rfl,rfl⟩:=h;simp
  .have:=(p4 _ h).1;simp only at this;have hne:Nat.beq a0 a=false:=by
    cases hb:Nat.beq a0 a with
    |false=>rfl
    |true=>obtain rfl:=Nat.eq_of_beq_eq_true hb;simp at this
   rw[hne];exact uJ p5 h
structure Fr (σi σo:List (Nat×Nat))(q q1:Nat)(m0 m1:List (Nat×bR))(st st':St):Prop where
 oki:iY 0 q σi=true
 oko:iY 0 st'.nx σo=true
 nx:st.nx<=st'.nx
 lt:∀l i,(l,i)∈σi->look st.m l≠none
 io:∀i l,(i,l)∈σo->(l,i)∈σi\/st.nx<=l
 m0:∀i b,look m0 i=some b->∃l b',(l,i)∈σi/\look st.m l=some b'/\sN 0 σi b' b
 m1:∀l b,look st'.m l=some b->(∃i b1,(i,l)∈σo/\look m1 i=some b1/\sN 0 σo b1 b)\/(nk σo l=none/\(∀i,(l,i)∉σi)/\look st.m l=some b)
def SZ {fid:Nat}{fn:Func}{af:aF}{K:D->St->Prop}(hΓ:Ok P ν cQ Y)(hmix:P.follows .mixedOrders=true)(hf:P.funcs[fid]? =some fn)(hc:compile P ν cQ fn=some af)
  {x:X} {args:Array Value} {ds cs:List D} {st:St} {σi:List (Nat×Nat)} {q:Nat} {m0:List (Nat×bR)} (hl:args.size=ds.length) (hargs:∀i,i<ds.length->RD ν x (args.getD i undef) (ds.getD i .any))
  (hs:fZ ν x (look st.m)) (hfr:fW st x) (hlen:cs.length=ds.length) (hds:∀i,i<ds.length->Sc 0 σi (ds.getD i .any) (cs.getD i .any)) (hnp:cs.length=af.np)
  (oki:iY 0 q σi=true) (hlt:∀l i,(l,i)∈σi->look st.m l≠none) (hm0:∀i b,look m0 i=some b->∃l b',(l,i)∈σi/\look st.m l=some b'/\sN 0 σi b' b)
  (hw:bG (Y.at q) af.body (fun e env st1=>e.home/\qE st1.m env af.res/\∃(σo:List (Nat×Nat)) (q1:Nat) (m1:List (Nat×bR)) (st':St) (vd':D),Fr σi σo q q1 m0 m1 st st'/\Sc 0 σo (lS af env st1) vd'/\K vd' st'/\∀i,look st1.m i=look m1 i) (gy af cs) ⟨q,m0⟩):
  Calls P fid args x.w fun
   | .returned v,w'=>∃x' d st',K d st'/\x'.w=w'/\Step x x'/\RD ν x' v d/\fZ ν x' (look st'.m)/\fW st' x'
   |_,_=>False:=by
 obtain⟨body,c1,c2,c3,c4,c5,c6⟩:=jn hc
 let x0:X:=⟨x.w,x.I,fun i=>(nk σi i).bind x.β⟩
 have hx0:∀l i,(l,i)∈σi->x0.β i=x.β l:=fun l i h=>by simp only[x0,x9 oki h,Option.bind_some]
 have hβ0:∀l i,oy 0 σi l=some i->x0.β i=x.β l:=fun l i h=>hx0 l i (Kn (lo:=0) oki h).2
 have hx0':∀i p,x0.β i=some p->∃l,(l,i)∈σi/\x.β l=some p/\i<q:=by
  intro i p h;obtain⟨l,h1,h2⟩:=Option.bind_eq_some_iff.1 (show(nk σi i).bind x.β=some p from h);exact⟨l,mq h1,h2,rX oki (mq h1)⟩
 have hs0:fZ ν x0 (look m0):=by
  refine⟨fun i blk b base tot e1 e2=>?_,fun i j b base tot base' tot' e1 e2 e3 e4=>?_,hs.imm,fun i b base tot e=>?_,dD.le x _ (fun _ h=>h) (fun _ _=>rfl) hs.gd⟩
  .obtain⟨l,b',h1,h2,h3⟩:=hm0 i blk e1;rw[hx0 l i h1]at e2;obtain⟨o1,o2⟩:=hs.own l b' b base tot h2 e2;exact⟨o1,oE.re (x:=x) (x':=x0) rfl rfl hβ0 o2 h3⟩
  .obtain⟨l,h1,h2,_⟩:=hx0' i _ e3;obtain⟨l',h1',h2',_⟩:=hx0' j _ e4;have:=hs.inj l l' b base tot base' tot' (hlt _ _ h1) (hlt _ _ h1') h2 h2';subst this;have:=uJ oki h1;rw[uJ oki h1']at this;exact(ch this).symm
  .obtain⟨l,_,h2,_⟩:=hx0' i _ e;exact hs.eM l b base tot h2
 have hf0:fW ⟨q,m0⟩ x0:=by
  refine⟨fun i hi=>?_,fun i hi=>?_⟩
  .cases h:x0.β i with
   |none=>rfl
   |some p=>obtain⟨_,_,_,h4⟩:=hx0' i p h;simp only at hi;omega
  .cases h:look m0 i with
   |none=>exact absurd h hi
   |some b=>obtain⟨l,b',h1,_⟩:=hm0 i b h;exact rX oki h1
 have hi:=wo (P:=P) (ν:=ν) (cQ:=cQ) (x:=x0) (ds:=cs) (st:=⟨q,m0⟩) c4 c5 c6 (args:=args) ae hnp (fun i hi=>RD.re (x:=x) (x':=x0) rfl rfl hβ0 (hargs i ae) (hds i ae)) hs0 hf0;have hcs:=tf (C:={P,ν,cQ,slots:=slotsOf fn,ntmps:=fn.ntmps,vm:=Oq P fn}) (hΓ.at q) (oz fn).1 hmix x0 (fun l h=>hf0.β l h) body af.body c2 _ _ _ _ x0 hw hi (.refl _);refine calls_of_wp hf c1 (wp_mono hcs fun e a w' hp=>?_);obtain⟨e',x',env',st1,he,hxw,hst,hi',hh,hro,σo,q1,m1,st',vd',hfm,hvd,hK,hlk⟩:=hp;subst hxw;obtain⟨v,r1,r2,r3⟩:=rM hi' c3 hro
 let x2:X:=⟨x'.w,x'.I,fun l=>match nk σo l with|some i=>x'.β i|none=>x.β l⟩
 have hx2:∀i l,(i,l)∈σo->x2.β l=x'.β i:=fun i l h=>by simp only[x2,x9 hfm.oko h]
 have hx2n:∀l,nk σo l=none->x2.β l=x.β l:=fun l h=>by simp only[x2,h]
 have hβ2:∀i l,oy 0 σo i=some l->x2.β l=x'.β i:=fun i l h=>hx2 i l (Kn (lo:=0) hfm.oko h).2
 have hx0s:∀l i p,(l,i)∈σi->x.β l=some p->x'.β i=some p:=fun l i p h e=>hst.β _ _ (by rw[hx0 l i h];exact e)

 have hnew:∀i p,x'.β i=some p->(∃l,(l,i)∈σi/\x.β l=some p)\/x.w.heap.size<=p.1\/∃l p',(∃j,(l,j)∈σi)/\x.β l=some p'/\p'.1=p.1:=by
  intro i p e;rcases hst.newβ i p e with h|h|⟨j,p',h1,h2⟩
  .obtain⟨l,h3,h4,_⟩:=hx0' i p h;exact .inl ⟨l,h3,h4⟩
  .exact .inr (.inl h)
  .obtain⟨l,h3,h4,_⟩:=hx0' j p' h1;exact .inr (.inr ⟨l,p',⟨j,h3⟩,h4,h2⟩)
 have hstep:Step x x2:=by
  refine⟨hst.os,hst.tape,hst.output,hst.size,hst.I,hst.p8,fun l p hp=>?_,fun b hb hn=>hst.old b hb fun i p h e=>?_,fun b h=>?_,fun l p h=>?_⟩
  .cases h:nk σo l with
   |none=>rw[hx2n l h];exact hp
   |some i=>
    have hm:=mq h;rw[hx2 i l hm];rcases hfm.io i l hm with h2|h2
    .exact hx0s l i p h2 hp
    .rw[hfr.β l h2]at hp;cases hp
  .obtain⟨l,_,h2,_⟩:=hx0' i p h;exact hn l p h2 e
  .rcases hst.newI b h with h|h|⟨i,p,h1,h2⟩
   .exact .inl h
   .exact .inr (.inl h)
   .obtain⟨l,_,h3,_⟩:=hx0' i p h1;exact .inr (.inr ⟨l,p,h3,h2⟩)
  .cases h1:nk σo l with
   |none=>rw[hx2n l h1]at h;exact .inl h
   |some i=>
    have hm:=mq h1;rw[hx2 i l hm]at h;rcases hnew i p h with⟨l',h2,h3⟩|h2|⟨l',p',_,h3,h4⟩
    .exact .inr (.inr ⟨l',p,h3,rfl⟩)
    .exact .inr (.inl h2)
    .exact .inr (.inr ⟨l',p',h3,h4⟩)
 have hsim:fZ ν x2 (look st'.m):=by
  refine⟨fun l blk b base tot e1 e2=>?_,fun l1 l2 b base tot base' tot' e1 e2 e3 e4=>?_,hi'.oe.imm,fun l b base tot e=>?_,dD.le x' _ (fun _ h=>h) (fun _ _=>rfl) hi'.oe.gd⟩
  .rcases hfm.m1 l blk e1 with⟨i,b1,h1,h2,h3⟩|⟨h1,h2,h3⟩
   .rw[hx2 i l h1]at e2;obtain⟨o1,o2⟩:=hi'.oe.own i b1 b base tot (by rw[hlk];exact h2) e2;exact⟨o1,oE.re (x:=x') (x':=x2) rfl rfl hβ2 o2 h3⟩
   .rw[hx2n l h1]at e2;obtain⟨o1,o2⟩:=hs.own l blk b base tot h3 e2;have hlt:=hs.eM l b base tot e2;have hno:∀i p,x0.β i=some p->p.1≠b:=by
     rintro i ⟨b',base',tot'⟩ h e;simp only at e;subst e;obtain⟨l',h4,h5,_⟩:=hx0' i _ h;have:=hs.inj l' l b' base' tot' base tot (hfm.lt _ _ h4) (by rw[h3];simp) h5 e2;subst this;exact h2 _ h4
    refine⟨fun h=>?_,o2.mono hstep.le (hst.old b hlt hno)⟩;rcases hst.newI b h with h|h|⟨i,p,h4,h5⟩
    .exact o1 h
    .exact absurd hlt (Nat.not_lt.2 h)
    .exact hno i p h4 h5
  .have mix:∀l1 l2 base tot base' tot',(∃i b1,(i,l1)∈σo/\look m1 i=some b1)->nk σo l2=none->(∀i,(l2,i)∉σi)->look st.m l2≠none->x2.β l1=some (b,base,tot)->x2.β l2=some (b,base',tot')->False:=by
    rintro l1 l2 base tot base' tot' ⟨i,b1,h1,h2⟩ h3 h4 h5 e3 e4;rw[hx2 i l1 h1]at e3;rw[hx2n l2 h3]at e4;rcases hnew i _ e3 with⟨l',h6,h7⟩|h6|⟨l',⟨pb,pt,pq⟩,⟨j,h6⟩,h7,h8⟩
    .have:=hs.inj l' l2 b base tot base' tot' (hfm.lt _ _ h6) h5 h7 e4;subst this;exact h4 _ h6
    .have:=hs.eM l2 b base' tot' e4;simp only at h6;omega
    .simp only at h8;subst h8;have:=hs.inj l' l2 pb pt pq base' tot' (hfm.lt _ _ h6) h5 h7 e4;subst this;exact h4 _ h6
   cases f1:look st'.m l1 with
   |none=>exact absurd f1 e1
   |some b1=>
    cases f2:look st'.m l2 with
    |none=>exact absurd f2 e2
    |some b2=>
     rcases hfm.m1 l1 b1 f1 with⟨i,c1,h1,h2,_⟩|⟨h1,h2,h3⟩<;>rcases hfm.m1 l2 b2 f2 with⟨j,c2,k1,k2,_⟩|⟨k1,k2,k3⟩
     .rw[hx2 i l1 h1]at e3;rw[hx2 j l2 k1]at e4;have:=hi'.oe.inj i j b base tot base' tot' (by rw[hlk,h2];simp) (by rw[hlk,k2];simp) e3 e4;subst this;have:=uJ hfm.oko h1;rw[uJ hfm.oko k1]at this;exact(ch this).symm
     .exact(mix l1 l2 base tot base' tot' ⟨i,c1,h1,h2⟩ k1 k2 (by rw[k3];simp) e3 e4).elim
     .exact(mix l2 l1 base' tot' base tot ⟨j,c2,k1,k2⟩ h1 h2 (by rw[h3];simp) e4 e3).elim
     .rw[hx2n l1 h1]at e3;rw[hx2n l2 k1]at e4;exact hs.inj l1 l2 b base tot base' tot' (by rw[h3];simp) (by rw[k3];simp) e3 e4
  .cases h1:nk σo l with
   |none=>rw[hx2n l h1]at e;exact eV (hs.eM l b base tot e) hst.size
   |some i=>
    rw[hx2 i l (mq h1)]at e;exact hi'.oe.eM i b base tot e
 have hfr2:fW st' x2:=by
  refine⟨fun l hl=>?_,fun l hl=>?_⟩
  .cases h1:nk σo l with
   |none=>rw[hx2n l h1];exact hfr.β l (by have:=hfm.nx;omega)
   |some i=>have:=rX hfm.oko (mq h1);omega
  .cases f1:look st'.m l with
   |none=>exact absurd f1 hl
   |some b1=>
    rcases hfm.m1 l b1 f1 with⟨i,c1,h1,_⟩|⟨_,_,h3⟩
    .exact rX hfm.oko h1
    .have:=hfr.m l (by rw[h3];simp);have:=hfm.nx;omega
 have hrd:=RD.re (ν:=ν) (x:=x') (x':=x2) rfl rfl hβ2 r2 hvd;rcases Ex.DI hh with h|h<;>rw[h]at he<;>subst he<;>exact⟨hi'.defers,v,r1,x2,vd',st',hK,rfl,hstep,hrd,hsim,hfr2⟩
end
end
section
structure RowT where
 tr:List D->St->(D->St->Prop)->Prop
 mu:List D->St->Nat
 mono:∀(ds:List D) (st:St) (K K':D->St->Prop),(∀d st',K d st'->K' d st')->tr ds st K->tr ds st K'
def RowT.no:RowT:=⟨fun _ _ _=>False,fun _ _=>0,fun _ _ _ _ _ h=>h⟩
def m8 (af:aF)(Q:D->List (Nat×bR)->Prop):Ex->List bW->St->Prop:=fun e env st=>e.home/\qE st.m env af.res/\∃m1,(∀i,look st.m i=look m1 i)/\Q (lS af env st) m1
def cW {af:aF}{Q:D->List (Nat×bR)->Prop}{vd:D}{m1:List (Nat×bR)}{e:Ex}{env:List bW}{st:St}(h1:e.home)(h2:qE st.m env af.res)(h3:lS af env st=vd)(h4:st.m=m1)(h5:Q vd m1):m8 af Q e env st:=⟨h1,h2,m1,fun i=>by rw[h4],by rw[h3];exact h5⟩
def One (vd:D)(m1:List (Nat×bR)):D->List (Nat×bR)->Prop:=fun d m=>d=vd/\m=m1
def oneq (vd:D)(m1:List (Nat×bR)):One vd m1 vd m1:=⟨rfl,rfl⟩
section
variable [dD] {P:Program} {ν:List (Nat×Nat)} {cQ:List Nat} {Y:Ctx}
def O4 (P:Program)(ν:List (Nat×Nat))(Γ':Ctx)(cQ:List Nat)(tr:List D->St->(D->St->Prop)->Prop)(fid:Nat):Prop:=
 ∀(ds:List D) (st:St) (K:D->St->Prop),tr ds st K->Ok P ν cQ Γ'->∀(x:X) (args:Array Value),args.size=ds.length->(∀i,i<ds.length->RD ν x (args.getD i undef) (ds.getD i .any))->fZ ν x (look st.m)->fW st x->
  jQ P x (fun v x'=>∃d st',K d st'/\Step x x'/\RD ν x' v d/\fZ ν x' (look st'.m)/\fW st' x') ((callFunc fid args).run P x.w)
end
end
end Go.Abs
