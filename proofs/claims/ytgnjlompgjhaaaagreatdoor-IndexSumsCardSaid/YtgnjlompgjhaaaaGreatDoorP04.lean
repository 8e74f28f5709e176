/- A part of the proofs. -/
import Derived.IntWalk
import Derived.KernelRfl
import Derived.Lib.TrimUEq
import Derived.Test.YtgnjlompgjhaaaaGreatDoorP03
set_option linter.all false
set_option maxRecDepth 4000
namespace Go.Abs
section
section
variable {Y:Ctx} {Q Q':Ex->List bR->St->Prop} {env:List bR} {st:St}
def Ctx.bd (Y:Ctx):Prop:=∀f ds st (K K':D->St->Prop),(∀d st,K d st->K' d st)->Y.tr f ds st K->Y.tr f ds st K'
def lT {draw:Bool}{K K':List bR->St->Prop}(h:∀vs st,K vs st->K' vs st)(htr:Y.bd):∀(l:List GI) (env vs:List bR) (st:St),iw Y draw l env vs st K->iw Y draw l env vs st K'
 |[],env,vs,st,hh=>h _ _ hh
 |⟨i,g⟩::r,env,vs,st,hh=>by
  cases hcm:i.dI with
  |true=>
   cases i<;>simp only[aN.dI]at hcm<;>try(cases hcm;done)
   ·exact⟨hh.1,fun hf=>⟨(hh.2.1 hf).1,htr _ _ _ _ _ (fun d st' ⟨h1,h2⟩=>⟨h1,lT h htr r _ _ _ h2⟩) (hh.2.1 hf).2⟩,fun hf=>lT h htr r _ _ _ (hh.2.2 hf)⟩
   ·rename_i fv args;simp only[iw]at hh⊢;refine⟨hh.1,hh.2.1,hh.2.2.1, ?_⟩;have h3:=hh.2.2.2;cases hd:(Src.ev env vs fv).d<;>simp only[hd]at h3⊢;exact htr _ _ _ _ _ (fun d st' ⟨h1,h2⟩=>⟨h1,lT h htr r _ _ _ h2⟩) h3
  |false=>
   cases hf:i.uJ draw g with
   |true=>
    rw[Cr hcm hf]at hh⊢;exact⟨hh.1,fun e=>⟨(hh.2.1 e).1,lT h htr r _ _ _ (hh.2.1 e).2⟩,fun e=>lT h htr r _ _ _ (hh.2.2 e)⟩
   |false=>
    rw[nI hcm hf]at hh⊢;exact⟨hh.1,hh.2.1,fun ha=>(hh.2.2 ha).imp fun _ h2=>⟨h2.1,lT h htr r _ _ _ h2.2⟩⟩
def Gh.mono {lo:Nat}{p q:List bR->St->Prop}(h:∀env st,p env st->q env st):Gh lo p env st->Gh lo q env st
 |⟨e,s,h1,h2⟩=>⟨e,s,h1,h _ _ h2⟩
def Gh.intro {lo:Nat}{p:List bR->St->Prop}(h:p env st):Gh lo p env st:=⟨env,st,.refl _ _,h⟩
def gR (htr:Y.bd):∀(a:AC) (Q Q':Ex->List bR->St->Prop) (env:List bR) (st:St),(∀e env st,Q e env st->Q' e env st)->bH Y a Q env st->bH Y a Q' env st
 | .reg draw ins cm,Q,Q',env,st,h,hh=>Gh.mono (fun env st h2=>lT (fun vs st=>h _ _ _) htr _ _ _ _ h2) hh
 | .seq a b,Q,Q',env,st,h,hh=>Gh.mono (fun env st h2=>gR htr a _ _ env st (fun e env st h2=>by
   cases e with
   |normal=>exact gR htr b Q Q' env st h h2
   |exit id=>exact h _ _ _ h2
   |ret=>exact h _ _ _ h2) h2) hh
 | .cond c a b,Q,Q',env,st,h,hh=>Gh.mono (fun env st h2=>by
  refine⟨h2.1, ?_⟩;have:=h2.2;cases hd:(c.ev env []).d<;>simp only[hd]at this⊢;exact⟨fun ht=>gR htr a Q Q' env st h (this.1 ht),fun ht=>gR htr b Q Q' env st h (this.2 ht)⟩) hh
 | .block id a,Q,Q',env,st,h,hh=>Gh.mono (fun env st h2=>gR htr a _ _ env st (fun e env st h2=>by
   cases e with
   |normal=>exact h _ _ _ h2
   |exit j=>simp only at h2⊢;split<;>rename_i hj<;>simp only[hj,ba,bc]at h2<;>exact h _ _ _ h2
   |ret=>exact h _ _ _ h2) h2) hh
 | .loop a,Q,Q',env,st,h,hh=>Gh.mono (fun env st h2=>by
  obtain⟨I,μ,h1,h2⟩:=h2;refine⟨I,μ,h1,fun env st hi=>gR htr a _ _ env st (fun e env' st' h3=>?_) (h2 env st hi)⟩;cases e with
  |normal=>exact h3
  |exit id=>exact h _ _ _ h3
  |ret=>exact h _ _ _ h3) hh
 | .exit id,Q,Q',env,st,h,hh=>Gh.mono (fun _ _=>h _ _ _) hh
 | .ret,Q,Q',env,st,h,hh=>Gh.mono (fun _ _=>h _ _ _) hh
 | .skip,Q,Q',env,st,h,hh=>Gh.mono (fun _ _=>h _ _ _) hh
def iC {a:AC}{env':List bR}{st':St}(g:aZ Y.lo env st env' st')(h:bH Y a Q env' st'):bH Y a Q env st:=by
 cases a<;>(obtain⟨e2,s2,g2,h2⟩:=h;exact⟨e2,s2,.trans _ _ _ _ _ _ g g2,h2⟩)
def BQ (Y:Ctx)(id:Nat)(r:AC)(Q:Ex->List bR->St->Prop):Ex->List bR->St->Prop:=fun e env st=>match e with
 | .normal=>bH Y r Q env st
 | .exit j=>if j=id then bH Y r Q env st else Q (.exit j) env st
 | .ret=>Q .ret env st
def LQ (Y:Ctx)(id:Nat)(r:AC)(next:List bR->St->Prop)(Q:Ex->List bR->St->Prop):Ex->List bR->St->Prop:=fun e env st=>match e with
 | .normal=>next env st
 | .exit j=>if j=id then bH Y r Q env st else Q (.exit j) env st
 | .ret=>Q .ret env st
def BQ.normal {id:Nat}{r:AC}(h:bH Y r Q env st):BQ Y id r Q .normal env st:=h
def BQ.out {id:Nat}{r:AC}(h:bH Y r Q env st):BQ Y id r Q (.exit id) env st:=by simp only[BQ,ba];exact h
def BQ.other {id j:Nat}{r:AC}(hj:(j==id)=false)(h:Q (.exit j) env st):BQ Y id r Q (.exit j) env st:=by simp only[BQ,aj (by simpa using hj)];exact h
def BQ.ret {id:Nat}{r:AC}(h:Q .ret env st):BQ Y id r Q .ret env st:=h
def LQ.normal {id:Nat}{r:AC}{next:List bR->St->Prop}(h:next env st):LQ Y id r next Q .normal env st:=h
def LQ.out {id:Nat}{r:AC}{next:List bR->St->Prop}(h:bH Y r Q env st):LQ Y id r next Q (.exit id) env st:=by simp only[LQ,ba];exact h
def LQ.other {id j:Nat}{r:AC}{next:List bR->St->Prop}(hj:(j==id)=false)(h:Q (.exit j) env st):LQ Y id r next Q (.exit j) env st:=by simp only[LQ,aj (by simpa using hj)];exact h
def LQ.ret {id:Nat}{r:AC}{next:List bR->St->Prop}(h:Q .ret env st):LQ Y id r next Q .ret env st:=h
def RQ {a b c:AC}(h:bH Y (.seq a (.seq b c)) Q env st):bH Y (.seq (.seq a b) c) Q env st:=by
 obtain⟨e1,s1,g1,h1⟩:=h;refine⟨e1,s1,g1,e1,s1,.refl _ _, ?_⟩;have:∀(Q1 Q2:Ex->List bR->St->Prop),Q1=Q2->bH Y a Q1 e1 s1->bH Y a Q2 e1 s1:=fun _ _ e h=>e▸h
 refine this _ _ ?_ h1;funext e env st;cases e with
 |normal=>exact propext ⟨fun⟨e2,s2,g2,h2⟩=>iC g2 h2,fun h=>⟨_,_,.refl _ _,h⟩⟩
 |exit id=>rfl
 |ret=>rfl
def Ja {b:AC}(h:bH Y b Q env st):bH Y (.seq .skip b) Q env st:=.intro (.intro h)
def wp_skip (h:Q .normal env st):bH Y .skip Q env st:=.intro h
def Ol {b:AC}(h:Q .ret env st):bH Y (.seq .ret b) Q env st:=.intro (.intro h)
def wp_ret (h:Q .ret env st):bH Y .ret Q env st:=.intro h
def I9 {id:Nat}{b:AC}(h:Q (.exit id) env st):bH Y (.seq (.exit id) b) Q env st:=.intro (.intro h)
def wp_exit {id:Nat}(h:Q (.exit id) env st):bH Y (.exit id) Q env st:=.intro h
def GX {id:Nat}{a r:AC}(h:bH Y a (BQ Y id r Q) env st)(htr:Y.bd):bH Y (.seq (.block id a) r) Q env st:=by
 refine .intro (.intro (gR htr a _ _ _ _ (fun e env st h=>?_) h));cases e with
 |normal=>exact h
 |exit j=>simp only[BQ]at h⊢;split<;>rename_i hj<;>simp only[hj,ba,bc]at h<;>exact h
 |ret=>exact h
def wp_block {id:Nat}{a:AC}(h:bH Y a (BQ Y id .skip Q) env st)(htr:Y.bd)(hQ:∀e env env' st st',aZ Y.lo env st env' st'->Q e env' st'->Q e env st):bH Y (.block id a) Q env st:=by
 refine .intro (gR htr a _ _ _ _ (fun e env st h=>?_) h);have hs:∀env st,bH Y .skip Q env st->Q .normal env st:=fun env st ⟨e2,s2,g2,h2⟩=>hQ _ _ _ _ _ g2 h2
 cases e with
 |normal=>exact hs _ _ h
 |exit j=>simp only[BQ]at h⊢;split<;>rename_i hj<;>simp only[hj,ba,bc]at h<;>first|exact hs _ _ h|exact h
 |ret=>exact h
def CQ (next:List bR->St->Prop)(Q:Ex->List bR->St->Prop):Ex->List bR->St->Prop:=fun e env st=>match e with
 | .normal=>next env st
 | .exit j=>Q (.exit j) env st
 | .ret=>Q .ret env st
def CQ.normal {next:List bR->St->Prop}(h:next env st):CQ next Q .normal env st:=h
def CQ.other {next:List bR->St->Prop}{j:Nat}(h:Q (.exit j) env st):CQ next Q (.exit j) env st:=h
def CQ.ret {next:List bR->St->Prop}(h:Q .ret env st):CQ next Q .ret env st:=h
def Hb (id:Nat)(Q:Ex->List bR->St->Prop):Ex->List bR->St->Prop:=fun e env st=>match e with
 | .normal=>Q .normal env st
 | .exit j=>if j=id then Q .normal env st else Q (.exit j) env st
 | .ret=>Q .ret env st
def Hb.normal {id:Nat}(h:Q .normal env st):Hb id Q .normal env st:=h
def Hb.out {id:Nat}(h:Q .normal env st):Hb id Q (.exit id) env st:=by simp only[Hb,ba];exact h
def Hb.other {id j:Nat}(hj:(j==id)=false)(h:Q (.exit j) env st):Hb id Q (.exit j) env st:=by grind [Hb]
def Hb.ret {id:Nat}(h:Q .ret env st):Hb id Q .ret env st:=h
def Oj {id:Nat}{a:AC}(h:bH Y a (Hb id Q) env st)(htr:Y.bd):bH Y (.block id a) Q env st:=by
 refine .intro (gR htr a _ _ _ _ (fun e env st h=>?_) h);cases e with
 |normal=>exact h
 |exit j=>simp only[Hb]at h⊢;split<;>rename_i hj<;>simp only[hj,ba,bc]at h<;>exact h
 |ret=>exact h
def rX (htr:Y.bd){a b:AC}{ι:Type}(F:ι->List bR)(G:ι->List (Nat×bO))(c:Nat)(P:ι->Prop)
  (h1:bH Y a (CQ (fun env' st'=>∃j,P j/\aZ Y.lo env' st' (F j) ⟨c,G j⟩) Q) env st)
  (h2:∀i,P i->bH Y b Q (F i) ⟨c,G i⟩):bH Y (.seq a b) Q env st:=by
 refine .intro (gR htr a _ _ _ _ (fun e env st h=>?_) h1);cases e with
 |normal=>obtain⟨j,hj,g⟩:=h;exact iC g (h2 j hj)
 |exit j=>exact h
 |ret=>exact h
def bh (htr:Y.bd){a r:AC}{id:Nat}{ι:Type}(F:ι->List bR)(G:ι->List (Nat×bO))(c:Nat)(P:ι->Prop)(μ:ι->Nat)(i0:ι)
  (hP:P i0) (h0:aZ Y.lo env st (F i0) ⟨c,G i0⟩)
  (hr:∀i,P i->bH Y a (LQ Y id r (fun env' st'=>∃j,P j/\μ j<μ i/\aZ Y.lo env' st' (F j) ⟨c,G j⟩) Q) (F i) ⟨c,G i⟩):bH Y (.seq (.block id (.loop a)) r) Q env st:=by
 let W:List bR->St->Nat->Prop:=fun env st k=>∃i,env=F i/\st=⟨c,G i⟩/\P i/\μ i=k
 have least:∀env st,(∃k,W env st k)->∃k,W env st k/\∀k',W env st k'->k<=k':=by
  intro env st ⟨k,hk⟩;induction k using Nat.strongRecOn with
  |_ k ih=>
   by_cases h:∃k',k'<k/\W env st k'
   ·obtain⟨k',h1,h2⟩:=h;exact ih k' h1 h2
   ·exact⟨k,hk,fun k' hk'=>by
     rcases gU k' k with h1|h1
     ·exact absurd ⟨k',h1,hk'⟩ h
     ·exact h1⟩
 open Classical in
 refine .intro (.intro ⟨_,_,h0,fun env st=>∃k,W env st k,fun env st=>if h:∃k,W env st k then Classical.choose (least env st h)else 0,⟨_,i0,rfl,rfl,hP,rfl⟩,fun env st hk=>?_⟩);obtain⟨⟨i,e1,e2,e3,e5⟩,hmin⟩:=Classical.choose_spec (least env st hk);have:=hr i e3;rw[<-e1,<-e2]at this;refine gR htr a _ _ env st ?_ this
 ·intro e env' st' h;cases e with
  |normal=>
   obtain⟨j,b3,b5,g⟩:=h;have hW:W (F j) ⟨c,G j⟩ (μ j):=⟨j,rfl,rfl,b3,rfl⟩;refine⟨F j,⟨c,G j⟩,g,⟨_,hW⟩, ?_⟩;show(if h:∃k,W (F j) ⟨c,G j⟩ k then Classical.choose (least _ _ h)else 0)<(if h:∃k,W env st k then Classical.choose (least env st h)else 0);rw[dif_pos ⟨_,hW⟩,dif_pos hk,<-e5];exact Nat.lt_of_le_of_lt ((Classical.choose_spec (least _ _ ⟨_,hW⟩)).2 _ hW) b5
  |exit j=>simp only[LQ]at h⊢;split<;>rename_i hj<;>simp only[hj,ba,bc]at h<;>exact h
  |ret=>exact h
def Hd (id:Nat)(next:List bR->St->Prop)(Q:Ex->List bR->St->Prop):Ex->List bR->St->Prop:=fun e env st=>match e with
 | .normal=>next env st
 | .exit j=>if j=id then Q .normal env st else Q (.exit j) env st
 | .ret=>Q .ret env st
def Hd.normal {id:Nat}{next:List bR->St->Prop}(h:next env st):Hd id next Q .normal env st:=h
def Hd.out {id:Nat}{next:List bR->St->Prop}(h:Q .normal env st):Hd id next Q (.exit id) env st:=by simp only[Hd,ba];exact h
def Hd.other {id j:Nat}{next:List bR->St->Prop}(hj:(j==id)=false)(h:Q (.exit j) env st):Hd id next Q (.exit j) env st:=by grind [Hd]
def Hd.ret {id:Nat}{next:List bR->St->Prop}(h:Q .ret env st):Hd id next Q .ret env st:=h
def qk (htr:Y.bd){a:AC}{id:Nat}{ι:Type}(F:ι->List bR)(G:ι->List (Nat×bO))(c:Nat)(P:ι->Prop)(μ:ι->Nat)(i0:ι)
  (hP:P i0) (h0:aZ Y.lo env st (F i0) ⟨c,G i0⟩)
  (hr:∀i,P i->bH Y a (Hd id (fun env' st'=>∃j,P j/\μ j<μ i/\aZ Y.lo env' st' (F j) ⟨c,G j⟩) Q) (F i) ⟨c,G i⟩):bH Y (.block id (.loop a)) Q env st:=by
 let W:List bR->St->Nat->Prop:=fun env st k=>∃i,env=F i/\st=⟨c,G i⟩/\P i/\μ i=k
 have least:∀env st,(∃k,W env st k)->∃k,W env st k/\∀k',W env st k'->k<=k':=by
  intro env st ⟨k,hk⟩;induction k using Nat.strongRecOn with
  |_ k ih=>
   by_cases h:∃k',k'<k/\W env st k'
   ·obtain⟨k',h1,h2⟩:=h;exact ih k' h1 h2
   ·exact⟨k,hk,fun k' hk'=>by
     rcases gU k' k with h1|h1
     ·exact absurd ⟨k',h1,hk'⟩ h
     ·exact h1⟩
 open Classical in
 refine .intro ⟨_,_,h0,fun env st=>∃k,W env st k,fun env st=>if h:∃k,W env st k then Classical.choose (least env st h)else 0,⟨_,i0,rfl,rfl,hP,rfl⟩,fun env st hk=>?_⟩;obtain⟨⟨i,e1,e2,e3,e5⟩,hmin⟩:=Classical.choose_spec (least env st hk);have:=hr i e3;rw[<-e1,<-e2]at this;refine gR htr a _ _ env st ?_ this
 ·intro e env' st' h;cases e with
  |normal=>
   obtain⟨j,b3,b5,g⟩:=h;have hW:W (F j) ⟨c,G j⟩ (μ j):=⟨j,rfl,rfl,b3,rfl⟩;refine⟨F j,⟨c,G j⟩,g,⟨_,hW⟩, ?_⟩;show(if h:∃k,W (F j) ⟨c,G j⟩ k then Classical.choose (least _ _ h)else 0)<(if h:∃k,W env st k then Classical.choose (least env st h)else 0);rw[dif_pos ⟨_,hW⟩,dif_pos hk,<-e5];exact Nat.lt_of_le_of_lt ((Classical.choose_spec (least _ _ ⟨_,hW⟩)).2 _ hW) b5
  |exit j=>simp only[Hd]at h⊢;split<;>rename_i hj<;>simp only[hj,ba,bc]at h<;>exact h
  |ret=>exact h
def nth:List bR->Nat->bR
 |[],_=>.un
 |a::_,0=>a
 |_::r,n+1=>nth r n
def zX:∀(l:List bR) (n:Nat),l.getD n .un=nth l n
 |[],n=>by simp[nth]
 |a::_,0=>by simp[nth]
 |_::r,n+1=>by simpa[nth]using zX r n
def cB (env rs:List bR):Src->bR
 | .s n=>nth env n
 | .l p=>bif Nat.blt p rs.length then nth rs (rs.length-1-p)else .un
 | .c d=>⟨true,d⟩
theorem nn (env rs:List bR):Src.ev env rs.reverse=cB env rs:=by
 funext s;cases s with
 |s n=>exact zX env n
 |l p=>
  simp only[Src.ev,cB];cases h:Nat.blt p rs.length with
  |true=>
   have:p<rs.length:=by simp[Nat.blt]at h;omega
   rw[cond_true,<-zX]
   grind
  |false=>
   have:¬p<rs.length:=by intro e;have:Nat.blt p rs.length=true:=by {simp[Nat.blt];omega};rw[this]at h;cases h
   grind
 |c d=>rfl
def aI (Y:Ctx)(draw:Bool)(l:List GI)(env rs:List bR)(nx:Nat)(m:List (Nat×bO))(K:List bR->St->Prop):Prop:=iw Y draw l env rs.reverse ⟨nx,m⟩ K
def Pd (env rs:List bR):List (Nat×Nat)->List bR
 |[]=>env
 |(s,p)::r=>Pd (env.set s (cB [] rs (.l p))) rs r
theorem HA (rs:List bR):∀(cm:List (Nat×Nat)) (env:List bR),iE env rs.reverse cm=Pd env rs cm
 |[],env=>rfl
 |(s,p)::r,env=>by
  simp only[iE,Pd];rw[HA rs r,<-congrFun (nn [] rs) (.l p)];rfl
def aq {draw:Bool}{ins:List GI}{cm:List (Nat×Nat)}{b:AC}{nx:Nat}{m:List (Nat×bO)}
  (h:aI Y draw ins env [] nx m (fun vs st'=>bH Y b Q (iE env vs cm) st')):bH Y (.seq (.reg draw ins cm) b) Q env ⟨nx,m⟩:=.intro (.intro h)
def Xl {draw:Bool}{ins:List GI}{cm:List (Nat×Nat)}{nx:Nat}{m:List (Nat×bO)}
  (h:aI Y draw ins env [] nx m (fun vs st'=>Q .normal (iE env vs cm) st')):bH Y (.reg draw ins cm) Q env ⟨nx,m⟩:=.intro h
def TH {draw:Bool}{cm:List (Nat×Nat)}{b:AC}{nx nx':Nat}{m:List (Nat×bO)}{rs gw env':List bR}(h:bH Y b Q env' ⟨nx',m⟩)
  (he:Pd env rs cm=env':=by exact rfl) (hn:nx+rs.length=nx':=by exact wH):aI Y draw [] gw rs nx m (fun vs st'=>bH Y b Q (iE env vs cm) st'):=by
 grind [aI,iw,HA]
def TI {draw:Bool}{cm:List (Nat×Nat)}{nx nx':Nat}{m:List (Nat×bO)}{rs gw env':List bR}(h:Q .normal env' ⟨nx',m⟩)
  (he:Pd env rs cm=env':=by exact rfl) (hn:nx+rs.length=nx':=by exact wH):aI Y draw [] gw rs nx m (fun vs st'=>Q .normal (iE env vs cm) st'):=by
 grind [aI,iw,HA]
def av {c:Src}{a b r:AC}{t:Bool}(h1:t=true->bH Y (.seq a r) Q env st)(h2:t=false->bH Y (.seq b r) Q env st)(hc:cB env [] c=⟨true,.bool t⟩:=by exact rfl):bH Y (.seq (.cond c a b) r) Q env st:=by
 have hc':c.ev env []=⟨true,.bool t⟩:=by rw[<-hc,<-nn];rfl
 refine .intro (.intro ?_);simp only[hc'];refine⟨trivial,fun ht=>?_,fun ht=>?_⟩
 ·obtain⟨e,s,g,h⟩:=h1 ht;exact iC g h
 ·obtain⟨e,s,g,h⟩:=h2 ht;exact iC g h
def wp_cond {c:Src}{a b:AC}{t:Bool}(h1:t=true->bH Y a Q env st)(h2:t=false->bH Y b Q env st)(hc:cB env [] c=⟨true,.bool t⟩:=by exact rfl):bH Y (.cond c a b) Q env st:=by
 have hc':c.ev env []=⟨true,.bool t⟩:=by rw[<-hc,<-nn];rfl
 refine .intro ?_
 grind
theorem aZ.to {lo c nx nx':Nat}{env env':List bR}{m m':List (Nat×bO)}(σ:List (Nat×Nat))(hc:nx'=c)(h:iU lo c σ=true)(he:dA lo σ env env')(hm:aO lo c σ m m'):aZ lo env ⟨nx,m⟩ env' ⟨nx',m'⟩:=by
 subst hc;exact .ren σ nx' env env' nx m m' h he hm
theorem a7 {α β:Type}(q:α->β)(xs:List α):(xs.map q).take xs.length=xs.map q:=ek aT
def cg {α:Type}{q:α->D}(h:∀x,(q x).bC=true):∀xs:List α,bB (xs.map q)=true
 |[]=>rfl
 |a::r=>by simp only[List.map_cons,bB,h a,cg h r,oS]
def aZ.fz {lo:Nat}{env env' env2:List bR}{nx k:Nat}{m m':List (Nat×bO)}{es:List D}{st2:St}(l:Nat)(hl:look m l=some (.buf k es))(hn:bB es=true)(he:oe l k es env=env')(hm:oM l k es (cX m l)=m')(h:aZ lo env' ⟨nx,m'⟩ env2 st2):aZ lo env ⟨nx,m⟩ env2 st2:=by
 have:=aZ.Oq (lo:=lo) l env ⟨nx,m⟩;simp only[Abs.Oq,hl,hn,cond_true,he,hm]at this;exact .trans _ _ _ _ _ _ this h
def ff {a:AC}{nx k:Nat}{m m':List (Nat×bO)}{es:List D}{env env':List bR}(l:Nat)(h:bH Y a Q env' ⟨nx,m'⟩)(hl:look m l=some (.buf k es):=by exact rfl)(hn:bB es=true:=by first|exact rfl|exact cg (fun _=>rfl) _)
  (he:oe l k es env=env':=by simp only[oe,kj,m5,oM,pX,cX,Nat.reduceEqDiff,ba,bc,dH,cO,cL,dF,dG,bU,bP,aQ,cn,a7,reduceCtorEq,ay,aB,Nat.reduceAdd,Nat.reduceLeDiff];exact rfl)
  (hm:oM l k es (cX m l)=m':=by simp only[oe,kj,m5,oM,pX,cX,Nat.reduceEqDiff,ba,bc,dH,cO,cL,dF,dG,bU,bP,aQ,cn,a7,reduceCtorEq,ay,aB,Nat.reduceAdd,Nat.reduceLeDiff];exact rfl):bH Y a Q env ⟨nx,m⟩:=
 iC (aZ.fz l hl hn he hm (.refl _ _)) h
def Uq.rf:∀e:List bR,Uq e e
 |[]=>trivial
 |_::r=>⟨⟨rfl,.refl _⟩,Uq.rf r⟩
def Jf.nil:Jf [] []:=⟨rfl,fun _=>.refl _⟩
def Jf.cons {x y:D}{a b:List D}(h:xQ x y)(h2:Jf a b):Jf (x::a) (y::b):=⟨by simp[h2.1],fun i=>by cases i with
 |zero=>exact h
 |succ i=>simpa using h2.2 i⟩
def Jf.rf (a:List D):Jf a a:=⟨rfl,fun _=>.refl _⟩
def Jf.map {α:Type}{q p:α->D}:∀{xs:List α},(∀x∈xs,xQ (q x) (p x))->Jf (xs.map q) (xs.map p)
 |[],_=>.nil
 |x::r,h=>.cons (h x (.head _)) (Jf.map fun y hy=>h y (.tail _ hy))
def xQ.ag {a b:List D}(h:Jf a b):xQ (.agg a) (.agg b):=.agg _ _ h.1 h.2
def xQ.ss {k:Nat}{a b:List D}(h:Jf a b):xQ (.sl k a) (.sl k b):=.sl _ _ _ h.1 h.2
def L9.nil {m:List (Nat×bO)}:L9 m []:=trivial
def L9.id {m r:List (Nat×bO)}{l:Nat}{b:bO}(h:look m l=some b)(h2:L9 m r):L9 m ((l,b)::r):=⟨⟨b,h,by cases b<;>first|exact⟨rfl,.rf _⟩|exact rfl⟩,h2⟩
def L9.bf {m r:List (Nat×bO)}{l k:Nat}{es es':List D}(h:look m l=some (.buf k es))(hw:Jf es es')(h2:L9 m r):L9 m ((l,.buf k es')::r):=⟨⟨_,h,rfl,hw⟩,h2⟩
def pK {a:AC}{nx:Nat}{m:List (Nat×bO)}{env:List bR}(m':List (Nat×bO))(hm:L9 m m')(h:bH Y a Q env ⟨nx,m'⟩):bH Y a Q env ⟨nx,m⟩:=iC (.nz _ _ _ _ _ (Uq.rf _) hm) h
def dA.nil {lo:Nat}{σ:List (Nat×Nat)}:dA lo σ [] []:=trivial
def dA.un {lo:Nat}{σ:List (Nat×Nat)}{a:bR}{r s:List bR}(h:dA lo σ r s):dA lo σ (a::r) (.un::s):=⟨.inr rfl,h⟩
def dA.eq {lo:Nat}{σ:List (Nat×Nat)}{ok:Bool}{d d':D}{r s:List bR}(hd:vg lo σ d=some d')(h:dA lo σ r s):dA lo σ (⟨ok,d⟩::r) (⟨ok,d'⟩::s):=⟨.inl ⟨rfl,.inr (.inl hd)⟩,h⟩
theorem dA.nl {lo:Nat}{σ:List (Nat×Nat)}{ok:Bool}{d d':D}{r s:List bR}(hd:d'=d)(hn:d.bC=true)(h:dA lo σ r s):dA lo σ (⟨ok,d⟩::r) (⟨ok,d'⟩::s):=⟨.inl ⟨rfl,.inl ⟨hd,hn⟩⟩,h⟩
def dA.ni {lo:Nat}{σ:List (Nat×Nat)}{ok:Bool}{d d':D}{r s:List bR}(hd:vn d d')(h:dA lo σ r s):dA lo σ (⟨ok,d⟩::r) (⟨ok,d'⟩::s):=⟨.inl ⟨rfl,.inr (.inr hd)⟩,h⟩
section
variable {lo c:Nat} {σ:List (Nat×Nat)} {m r:List (Nat×bO)}
def aO.nil:aO lo c σ m []:=trivial
theorem aO.nl {k l':Nat}{es es':List D}(l:Nat)(hl:oD lo σ l=some l')(hm:look m l=some (.buf k es))(he:es'=es)(hn:bB es=true)(h:aO lo c σ m r):aO lo c σ m ((l',.buf k es')::r):=
 ⟨.inl ⟨l,_,hl,hm,rfl,.inl ⟨he,hn⟩⟩,h⟩
def aO.eq {k l':Nat}{es es':List D}(l:Nat)(hl:oD lo σ l=some l')(hm:look m l=some (.buf k es))(he:sL lo σ es=some es')(h:aO lo c σ m r):aO lo c σ m ((l',.buf k es')::r):=
 ⟨.inl ⟨l,_,hl,hm,rfl,.inr (.inl he)⟩,h⟩
def aO.ni {k l':Nat}{es es':List D}(l:Nat)(hl:oD lo σ l=some l')(hm:look m l=some (.buf k es))(he:Hp es es')(h:aO lo c σ m r):aO lo c σ m ((l',.buf k es')::r):=
 ⟨.inl ⟨l,_,hl,hm,rfl,.inr (.inr he)⟩,h⟩
def aO.dY {k l':Nat}{es':List D}(hl:oD lo σ l'=some l')(hm:look m l'=some (.buf k es'))(hn:bB es'=true)(h:aO lo c σ m r):aO lo c σ m ((l',.buf k es')::r):=.nl l' hl hm rfl hn h
def aO.jG {k l':Nat}{es' es:List D}(hl:oD lo σ l'=some l')(hm:look m l'=some (.buf k es))(he:sL lo σ es=some es')(h:aO lo c σ m r):aO lo c σ m ((l',.buf k es')::r):=.eq l' hl hm he h
def aO.mt {k l':Nat}{es':List D}(h1:Nat.ble lo l'=true)(h2:Nat.blt l' c=true)(h3:σ.all (fun p=>!Nat.beq p.2 l')=true)(he:es'=[])(h:aO lo c σ m r):aO lo c σ m ((l',.buf k es')::r):=
 ⟨.inr ⟨h1,h2,h3,k,by rw[he]⟩,h⟩
def aO.it {l' p p':Nat}{s s':List UInt8}(l:Nat)(hl:oD lo σ l=some l')(hm:look m l=some (.iter s p))(hs:s'=s)(hp:p'=p)(h:aO lo c σ m r):aO lo c σ m ((l',.iter s' p')::r):=
 ⟨.inl ⟨l,_,hl,hm,hs,hp⟩,h⟩
def aO.lG {l' p p':Nat}{s s':List UInt8}(hl:oD lo σ l'=some l')(hm:look m l'=some (.iter s p))(hs:s'=s)(hp:p'=p)(h:aO lo c σ m r):aO lo c σ m ((l',.iter s' p')::r):=.it l' hl hm hs hp h
def aO.rw {l':Nat}{s s':List UInt8}(l:Nat)(hl:oD lo σ l=some l')(hm:look m l=some (.row s))(hs:s'=s)(h:aO lo c σ m r):aO lo c σ m ((l',.row s')::r):=
 ⟨.inl ⟨l,_,hl,hm,hs⟩,h⟩
def aO.bl {l' l1 l2 n n':Nat}{u u':Bool}(l:Nat)(hl:oD lo σ l=some l')(hm:look m l=some (.bld (some l1) n u))(h1:oD lo σ l1=some l2)(hn:n'=n)(hu:u'=u)(h:aO lo c σ m r):aO lo c σ m ((l',.bld (some l2) n' u')::r):=
 ⟨.inl ⟨l,_,hl,hm,⟨l2,h1,rfl⟩,hn,hu⟩,h⟩
def aO.b0 {l' n n':Nat}{u u':Bool}(l:Nat)(hl:oD lo σ l=some l')(hm:look m l=some (.bld none n u))(hn:n'=n)(hu:u'=u)(h:aO lo c σ m r):aO lo c σ m ((l',.bld none n' u')::r):=
 ⟨.inl ⟨l,_,hl,hm,rfl,hn,hu⟩,h⟩
end
mutual
def xC (m:List (Nat×bO)):Sh->D->D
 | .a,d=>match d with
  | .aC=>.sl 0 []
  |d=>d
 | .sl k cs,d=>match d with
  | .aC=>.sl k []
  | .own l k' i c=>.sl k' ((((bp m l).drop i).take c).map fun e=>match e with
   | .agg ds=>.agg (xL m cs ds)
   |e=>xH m cs e)
  |d=>d
 | .pt cs,d=>match d with
  | .ptr l k i o=>.ref k ((bp m l).map fun e=>match e with
   | .agg ds=>.agg (xL m cs ds)
   |e=>xH m cs e) i o
  |d=>d
def xH (m:List (Nat×bO)):List Sh->D->D
 |[],d=>d
 |s::_,d=>xC m s d
def xL (m:List (Nat×bO)):List Sh->List D->List D
 |[],ds=>ds
 |s::r,ds=>match ds with
  |[]=>[]
  |d::ds=>xC m s d::xL m r ds
end
def xV (m:List (Nat×bO))(cs:List Sh):D->D
 | .agg ds=>.agg (xL m cs ds)
 |e=>xH m cs e
mutual
def UR (m:List (Nat×bO)):Sh->D->Prop
 | .a,d=>d.bC=true
 | .sl _ cs,d=>match d with
  | .own l k' i c=>fJ m l k' (i+c)/\∀e∈((bp m l).drop i).take c,(match e with
   | .agg ds=>RS m cs ds
   |e=>US m cs e)
  |d=>d.bC=true
 | .pt cs,d=>match d with
  | .ptr l k _ _=>fJ m l k 0/\∀e∈bp m l,(match e with
   | .agg ds=>RS m cs ds
   |e=>US m cs e)
  |d=>d.bC=true
def US (m:List (Nat×bO)):List Sh->D->Prop
 |[],d=>d.bC=true
 |s::_,d=>UR m s d
def RS (m:List (Nat×bO)):List Sh->List D->Prop
 |[],ds=>bB ds=true
 |s::r,ds=>match ds with
  |[]=>True
  |d::ds=>UR m s d/\RS m r ds
end
def RU (m:List (Nat×bO))(cs:List Sh):D->Prop
 | .agg ds=>RS m cs ds
 |e=>US m cs e
mutual
theorem RR (m:List (Nat×bO)):∀(s:Sh) (d:D),pz m s d=xC m s d/\(mA m s d↔UR m s d)
 | .a,d=>by cases d<;>simp only[pz,xC,mA,UR]<;>exact⟨trivial,trivial⟩
 | .sl k cs,d=>by
  cases d<;>simp only[pz,xC,mA,UR]<;>first
   |exact⟨trivial,trivial⟩
   |skip
  rename_i l k' i c;exact⟨ar (D.sl k') (List.map_congr_left fun e _=>(GY m cs e).1),and_congr_right fun _=>forall_congr' fun e=>imp_congr_right fun _=>(GY m cs e).2⟩
 | .pt cs,d=>by
  cases d<;>simp only[pz,xC,mA,UR]<;>first
   |exact⟨trivial,trivial⟩
   |skip
  rename_i l k' i c;exact⟨ar (fun x=>D.ref k' x i c) (List.map_congr_left fun e _=>(GY m cs e).1),and_congr_right fun _=>forall_congr' fun e=>imp_congr_right fun _=>(GY m cs e).2⟩
theorem GY (m:List (Nat×bO)):∀(cs:List Sh) (d:D),ko m cs d=(match d with
   | .agg ds=>.agg (xL m cs ds)
   |e=>xH m cs e)/\(jc m cs d↔(match d with
   | .agg ds=>RS m cs ds
   |e=>US m cs e))
 |[],d=>by cases d<;>simp only[ko,xH,xL,jc,US,RS,D.bC]<;>first|exact⟨trivial,Iff.rfl⟩|exact⟨trivial,trivial⟩
 |s::r,d=>by
  cases d<;>simp only[ko,xH,jc,US]<;>first
   |exact RR m s _
   |skip
  rename_i ds;exact⟨ar D.agg (KA m (s::r) ds).1,(KA m (s::r) ds).2⟩
theorem KA (m:List (Nat×bO)):∀(cs:List Sh) (ds:List D),pA m cs ds=xL m cs ds/\(m8 m cs ds↔RS m cs ds)
 |[],ds=>by simp only[pA,xL,m8,RS];exact⟨trivial,trivial⟩
 |s::r,[]=>by simp only[pA,xL,m8,RS];exact⟨trivial,trivial⟩
 |s::r,d::ds=>by
  simp only[pA,xL,m8,RS,(RR m s d).1,(KA m r ds).1];exact⟨trivial,and_congr (RR m s d).2 (KA m r ds).2⟩
end
theorem CY (m:List (Nat×bO))(cs:List Sh)(d:D):ko m cs d=xV m cs d/\(jc m cs d↔RU m cs d):=by
 have:=GY m cs d;cases d<;>exact this
def n5 (m:List (Nat×bO)):List (List Sh)->List D->List D
 |_,[]=>[]
 |[],d::r=>xV m [.a] d::n5 m [] r
 |s::ss,d::r=>xV m s d::n5 m ss r
def kM (m:List (Nat×bO)):List (List Sh)->List D->Prop
 |_,[]=>True
 |[],d::r=>RU m [.a] d/\kM m [] r
 |s::ss,d::r=>RU m s d/\kM m ss r
theorem ea (m:List (Nat×bO)):∀(ss:List (List Sh)) (ds:List D),iR m ss ds=n5 m ss ds/\(j8 m ss ds↔kM m ss ds)
 |ss,[]=>by simp[iR,n5,j8,kM]
 |[],d::r=>by
  simp only[iR,n5,j8,kM,(CY m [.a] d).1,(ea m [] r).1];exact⟨trivial,and_congr (CY m _ d).2 (ea m [] r).2⟩
 |s::ss,d::r=>by
  simp only[iR,n5,j8,kM,(CY m s d).1,(ea m ss r).1];exact⟨trivial,and_congr (CY m _ d).2 (ea m ss r).2⟩
def VW (a:aF)(d:D):Ex->List bR->St->Prop:=fun e env st=>e.home/\qD st.m env a.res/\Ke a env st/\TL a env st=d
def Om (a:aF)(env:List bR)(m:List (Nat×bO)):D:=match a.res with
 |[r]=>xV m (a.rsh.getD 0 []) (Gl m env r)
 |rs=>.tup (n5 m a.rsh (qE m env rs))
def CZ (a:aF)(env:List bR)(m:List (Nat×bO)):Prop:=match a.res with
 |[r]=>RU m (a.rsh.getD 0 []) (Gl m env r)
 |rs=>kM m a.rsh (qE m env rs)
def W8 {a:aF}{d:D}{e:Ex}{nx:Nat}{m:List (Nat×bO)}(he:e.home)(h1:qD m env a.res)(h2:CZ a env m)(h3:Om a env m=d):VW a d e env ⟨nx,m⟩:=by
 refine⟨he,h1, ?_, ?_⟩
 ·unfold Ke;unfold CZ at h2;split<;>rename_i hr
  ·rw[hr]at h2;exact(CY _ _ _).2.2 h2
  ·split at h2
   ·rename_i hr2;exact absurd hr2 (hr _)
   ·exact(ea _ _ _).2.2 h2
 grind [TL,Om,CY,ea]
def L8 (a:aF)(k:Nat)(vd sd:D):Ex->List bR->St->Prop:=fun e env st=>e.home/\qD st.m env a.res/\(lU a env st).bC=true/\lU a env st=vd/\look st.m 0=some (.buf k [sd])/\sd.bC=true
def il {a:aF}{k:Nat}{vd sd:D}{e:Ex}{nx:Nat}{m:List (Nat×bO)}(he:e.home)(h1:qD m env a.res)(h2:lU a env ⟨nx,m⟩=vd)(h3:look m 0=some (.buf k [sd]))(hn:vd.bC=true)(hs:sd.bC=true):L8 a k vd sd e env ⟨nx,m⟩:=⟨he,h1,by rw[h2];exact hn,h2,h3,hs⟩
end
end
section
section
variable {Y:Ctx} {draw:Bool} {r:List GI} {env rs:List bR} {nx:Nat} {m:List (Nat×bO)} {K:List bR->St->Prop} {g:Option (Nat×Bool)} {f:Bool}
def at8 (s:List UInt8)(i:Nat):Int:=((s.getD i 0).toNat:Int)
def vu (s:List UInt8)(i:Nat):0<=at8 s i/\at8 s i<256:=by
 have:=(s.getD i 0).toNat_lt;unfold at8;omega
def D.Wp:D->Bool
 | .str _=>true
 |_=>false
def wrap_i64 {a:Int}(h1:-9223372036854775808<=a)(h2:a<=9223372036854775807):IntKind.i64.wrap a=a:=IntWalk.i64_in _ ae
def pQ (a b:List UInt8):(a==b)=decide (a=b):=by
 grind
def getD_map {α:Type} [Inhabited α]{q:α->D}{xs:List α}{i:Nat}(h:i<xs.length):(xs.map q).getD i .any=q xs[i]! :=by
 simp[List.getD,h]
def Xg (b:UInt8):(D.int .u8 b.toNat).u8=b:=by simp[D.u8]
def Sv (s:List UInt8):D.str ((s.map fun b=>D.int .u8 b.toNat).map D.u8)=.str s:=by
 congr 1;rw[List.map_map]
 conv=>rhs;rw[<-List.map_id s]
 apply List.map_congr_left;intro b _;exact Xg b
def GF (rs:List bR):Option (Nat×Bool)->Bool->Prop
 |none,f=>f=true
 |some (j,w),f=>∃ok b,cB [] rs (.l j)=⟨ok,.bool b⟩/\(ok&&(b==w))=f
def GF.flag (h:GF rs g f):flag rs.reverse g=f/\Be rs.reverse g:=by
 cases g with
 |none=>exact⟨h.symm,trivial⟩
 |some jw=>
  obtain⟨j,w⟩:=jw;obtain⟨ok,b,h1,h2⟩:=h;have h3:rs.reverse.getD j .un=⟨ok,.bool b⟩:=by rw[<-h1,<-nn];rfl
  simp only[Abs.flag,Be,h3,h2,D.isBool];exact⟨trivial,fun _=>trivial⟩
def QX {i:aN}(hM:i.dI=false)(hF:i.uJ draw g=false)(hC:g.isSome=true->i.calm=true)(hg:GF rs g f)(d:D)(ho:f=true->i.dZ Y (cB env rs) m)
  (hv:f=true->i.val Y (cB env rs) m (nx+rs.length)=d) (m':List (Nat×bO)) (hm:i.cP Y (cB env rs) m (nx+rs.length)=m')
  (h:(f=true->i.He draw (cB env rs))->aI Y draw r env (⟨f,d⟩::rs) nx m' K):aI Y draw (⟨i,g⟩::r) env rs nx m K:=by
 obtain⟨hf,hb⟩:=hg.flag;unfold aI;rw[nI hM hF,nn,hf];refine⟨?_,ho,fun ha=>⟨d,by simpa using hv, ?_⟩⟩
 ·cases g with
  |none=>trivial
  |some jw=>exact⟨hC rfl,hb⟩
 grind [aI]
def ik {i:aN}(hC:i.calm=true)(hg:GF rs g f)(d:D)(ho:f=true->i.dZ Y (cB env rs) m)
  (hv:f=true->i.val Y (cB env rs) m (nx+rs.length)=d) (m':List (Nat×bO)) (hm:i.cP Y (cB env rs) m (nx+rs.length)=m')
  (h:(f=true->i.He draw (cB env rs))->aI Y draw r env (⟨f,d⟩::rs) nx m' K):aI Y draw (⟨i,g⟩::r) env rs nx m K:=
 QX (by cases i<;>first|rfl|cases hC) (by simp[aN.uJ,hC]) (fun _=>hC) hg d ho hv m' hm h
def bN {i:aN}(hC:i.pure=true)(hg:GF rs g f)(d:D)(ho:f=true->i.dZ Y (cB env rs) m)
  (hv:f=true->i.val Y (cB env rs) m (nx+rs.length)=d) 
  (h:(f=true->i.He draw (cB env rs))->aI Y draw r env (⟨f,d⟩::rs) nx m K):aI Y draw (⟨i,g⟩::r) env rs nx m K:=
 ik (Nu hC) hg d ho hv m (QR hC) h
def rH {i:aN}(hM:i.dI=false)(d:D)(ho:i.dZ Y (cB env rs) m)
  (hv:i.val Y (cB env rs) m (nx+rs.length)=d) (m':List (Nat×bO)) (hm:i.cP Y (cB env rs) m (nx+rs.length)=m')
  (h:i.He draw (cB env rs)->aI Y draw r env (⟨true,d⟩::rs) nx m' K):aI Y draw (⟨i,none⟩::r) env rs nx m K:=
 QX hM (by simp[aN.uJ]) (fun h=>by cases h) rfl d (fun _=>ho) (fun _=>hv) m' hm (fun ha=>h (ha rfl))
def r_mv {x:Src}{fx:Bool}{d:D}(h:aI Y draw r env (⟨f,d⟩::rs) nx m K)(hg:GF rs g f:=by exact df)(hx:cB env rs x=⟨fx,d⟩:=by exact rfl)(kx:f=true->fx=true:=by exact bW):aI Y draw (⟨.mv x,g⟩::r) env rs nx m K:=
 bN rfl hg _ (fun hf=>by simp[aN.dZ,hx,kx hf]) (fun hf=>by simp[aN.val,hx]) (fun ha=>h)
def r_not {x:Src}{fx:Bool}{b:Bool}(h:aI Y draw r env (⟨f,.bool (!b)⟩::rs) nx m K)(hg:GF rs g f:=by exact df)(hx:cB env rs x=⟨fx,.bool b⟩:=by exact rfl)(kx:f=true->fx=true:=by exact bW):aI Y draw (⟨.un .not x,g⟩::r) env rs nx m K:=
 bN rfl hg _ (fun hf=>by simp[aN.dZ,hx,kx hf]) (fun hf=>by simp[aN.val,hx]) (fun ha=>h)
def r_or {c b:Src}{fc fb t y:Bool}(h:aI Y draw r env (⟨f,.bool (t ||y)⟩::rs) nx m K)(hg:GF rs g f:=by exact df)(hc:cB env rs c=⟨fc,.bool t⟩:=by exact rfl)(hb:cB env rs b=⟨fb,.bool y⟩:=by exact rfl)(kc:f=true->fc=true:=by exact bW)(kb:f=true->t=false->fb=true:=by intro h1 h2;first|(rw[h2];exact rfl)|(rw[h2,h1];rfl)|(rw[h1,h2];rfl)|simp_all):aI Y draw (⟨.pick c (.c (.bool true)) b,g⟩::r) env rs nx m K:=
 bN rfl hg _ (fun hf=>by simp only[aN.dZ,hc,hb];exact⟨kc hf,fun _=>rfl,fun e=>kb hf e⟩) (fun hf=>by simp only[aN.val,hc,hb];cases t<;>rfl) (fun _=>h)
def r_and {c a:Src}{fc fa t y:Bool}(h:aI Y draw r env (⟨f,.bool (t&&y)⟩::rs) nx m K)(hg:GF rs g f:=by exact df)(hc:cB env rs c=⟨fc,.bool t⟩:=by exact rfl)(ha:cB env rs a=⟨fa,.bool y⟩:=by exact rfl)(kc:f=true->fc=true:=by exact bW)(ka:f=true->t=true->fa=true:=by intro h1 h2;first|(rw[h2];exact rfl)|(rw[h2,h1];rfl)|(rw[h1,h2];rfl)|simp_all):aI Y draw (⟨.pick c a (.c (.bool false)),g⟩::r) env rs nx m K:=
 bN rfl hg _ (fun hf=>by simp only[aN.dZ,hc,ha];exact⟨kc hf,fun e=>ka hf e,fun _=>rfl⟩) (fun hf=>by simp only[aN.val,hc,ha];cases t<;>rfl) (fun _=>h)
def TE {x y:Src}{fx fy:Bool}{a b:Int}(h:aI Y draw r env (⟨f,.int .i64 (a+b)⟩::rs) nx m K)(hg:GF rs g f:=by exact df)(hx:cB env rs x=⟨fx,.int .i64 a⟩:=by exact rfl)(hy:cB env rs y=⟨fy,.int .i64 b⟩:=by exact rfl)(kx:f=true->fx=true:=by exact bW)(ky:f=true->fy=true:=by exact bW)(hb:f=true->-9223372036854775808<=a+b/\a+b<=9223372036854775807:=by exact G0):aI Y draw (⟨.bin .add x y,g⟩::r) env rs nx m K:=
 bN rfl hg _ (fun hf=>by simp[aN.dZ,hx,hy,kx hf,ky hf,jx]) (fun hf=>by simp only[aN.val,hx,hy,jQ];rw[wrap_i64 (hb hf).1 (hb hf).2]) (fun ha=>h)
def An {x y:Src}{fx fy:Bool}{k:IntKind}{a b:Int}(v:Int)(h:aI Y draw r env (⟨f,.int k v⟩::rs) nx m K)(hg:GF rs g f:=by exact df)(hx:cB env rs x=⟨fx,.int k a⟩:=by exact rfl)(hy:cB env rs y=⟨fy,.int k b⟩:=by exact rfl)(kx:f=true->fx=true:=by exact bW)(ky:f=true->fy=true:=by exact bW)(hb:f=true->k.wrap (a+b)=v):aI Y draw (⟨.bin .add x y,g⟩::r) env rs nx m K:=
 bN rfl hg _ (fun hf=>by simp[aN.dZ,hx,hy,kx hf,ky hf,jx]) (fun hf=>by simp only[aN.val,hx,hy,jQ];rw[hb hf]) (fun ha=>h)
def J9 {x y:Src}{fx fy:Bool}{a b:Int}(h:aI Y draw r env (⟨f,.int .i64 (a-b)⟩::rs) nx m K)(hg:GF rs g f:=by exact df)(hx:cB env rs x=⟨fx,.int .i64 a⟩:=by exact rfl)(hy:cB env rs y=⟨fy,.int .i64 b⟩:=by exact rfl)(kx:f=true->fx=true:=by exact bW)(ky:f=true->fy=true:=by exact bW)(hb:f=true->-9223372036854775808<=a-b/\a-b<=9223372036854775807:=by exact G0):aI Y draw (⟨.bin .sub x y,g⟩::r) env rs nx m K:=
 bN rfl hg _ (fun hf=>by simp[aN.dZ,hx,hy,kx hf,ky hf,jx]) (fun hf=>by simp only[aN.val,hx,hy,jQ];rw[wrap_i64 (hb hf).1 (hb hf).2]) (fun ha=>h)
def tP {x y:Src}{fx fy:Bool}{k:IntKind}{a b:Int}(v:Int)(h:aI Y draw r env (⟨f,.int k v⟩::rs) nx m K)(hg:GF rs g f:=by exact df)(hx:cB env rs x=⟨fx,.int k a⟩:=by exact rfl)(hy:cB env rs y=⟨fy,.int k b⟩:=by exact rfl)(kx:f=true->fx=true:=by exact bW)(ky:f=true->fy=true:=by exact bW)(hb:f=true->k.wrap (a-b)=v):aI Y draw (⟨.bin .sub x y,g⟩::r) env rs nx m K:=
 bN rfl hg _ (fun hf=>by simp[aN.dZ,hx,hy,kx hf,ky hf,jx]) (fun hf=>by simp only[aN.val,hx,hy,jQ];rw[hb hf]) (fun ha=>h)
def oC {x y:Src}{fx fy:Bool}{a b:Int}(h:aI Y draw r env (⟨f,.int .i64 (a*b)⟩::rs) nx m K)(hg:GF rs g f:=by exact df)(hx:cB env rs x=⟨fx,.int .i64 a⟩:=by exact rfl)(hy:cB env rs y=⟨fy,.int .i64 b⟩:=by exact rfl)(kx:f=true->fx=true:=by exact bW)(ky:f=true->fy=true:=by exact bW)(hb:f=true->-9223372036854775808<=a*b/\a*b<=9223372036854775807:=by exact G0):aI Y draw (⟨.bin .mul x y,g⟩::r) env rs nx m K:=
 bN rfl hg _ (fun hf=>by simp[aN.dZ,hx,hy,kx hf,ky hf,jx]) (fun hf=>by simp only[aN.val,hx,hy,jQ];rw[wrap_i64 (hb hf).1 (hb hf).2]) (fun ha=>h)
def Q8 {x y:Src}{fx fy:Bool}{k:IntKind}{a b:Int}(v:Int)(h:aI Y draw r env (⟨f,.int k v⟩::rs) nx m K)(hg:GF rs g f:=by exact df)(hx:cB env rs x=⟨fx,.int k a⟩:=by exact rfl)(hy:cB env rs y=⟨fy,.int k b⟩:=by exact rfl)(kx:f=true->fx=true:=by exact bW)(ky:f=true->fy=true:=by exact bW)(hb:f=true->k.wrap (a*b)=v):aI Y draw (⟨.bin .mul x y,g⟩::r) env rs nx m K:=
 bN rfl hg _ (fun hf=>by simp[aN.dZ,hx,hy,kx hf,ky hf,jx]) (fun hf=>by simp only[aN.val,hx,hy,jQ];rw[hb hf]) (fun ha=>h)
def r_quo {x y:Src}{fx fy:Bool}{k:IntKind}{a b:Int}(v:Int)(h:aI Y draw r env (⟨f,.int k v⟩::rs) nx m K)(hg:GF rs g f:=by exact df)(hx:cB env rs x=⟨fx,.int k a⟩:=by exact rfl)(hy:cB env rs y=⟨fy,.int k b⟩:=by exact rfl)(kx:f=true->fx=true:=by exact bW)(ky:f=true->fy=true:=by exact bW)(hn:f=true->b≠0)(hb:f=true->k.wrap (a.tdiv b)=v):aI Y draw (⟨.bin .quo x y,g⟩::r) env rs nx m K:=
 bN rfl hg _ (fun hf=>by simp[aN.dZ,hx,hy,kx hf,ky hf,jx,hn hf]) (fun hf=>by simp only[aN.val,hx,hy,jQ];rw[hb hf]) (fun ha=>h)
def J7 {x y:Src}{fx fy:Bool}{k:IntKind}{a b:Int}(v:Int)(h:aI Y draw r env (⟨f,.int k v⟩::rs) nx m K)(hg:GF rs g f:=by exact df)(hx:cB env rs x=⟨fx,.int k a⟩:=by exact rfl)(hy:cB env rs y=⟨fy,.int k b⟩:=by exact rfl)(kx:f=true->fx=true:=by exact bW)(ky:f=true->fy=true:=by exact bW)(hn:f=true->b≠0)(hb:f=true->a.tmod b=v):aI Y draw (⟨.bin .rem x y,g⟩::r) env rs nx m K:=
 bN rfl hg _ (fun hf=>by simp[aN.dZ,hx,hy,kx hf,ky hf,jx,hn hf]) (fun hf=>by simp only[aN.val,hx,hy,jQ];rw[hb hf]) (fun ha=>h)
def J8 {x y:Src}{fx fy:Bool}{k k2:IntKind}{a b:Int}(v:Int)(h:aI Y draw r env (⟨f,.int k v⟩::rs) nx m K)(hg:GF rs g f:=by exact df)(hx:cB env rs x=⟨fx,.int k a⟩:=by exact rfl)(hy:cB env rs y=⟨fy,.int k2 b⟩:=by exact rfl)(kx:f=true->fx=true:=by exact bW)(ky:f=true->fy=true:=by exact bW)(hn:f=true->0<=b:=by exact ue)(hb:f=true->k.wrap (a*2^(min b.toNat k.bits))=v):aI Y draw (⟨.bin .shl x y,g⟩::r) env rs nx m K:=
 bN rfl hg _ (fun hf=>by simp[aN.dZ,hx,hy,kx hf,ky hf,jx,hn hf]) (fun hf=>by simp only[aN.val,hx,hy,jQ];rw[hb hf]) (fun ha=>h)
def uS {x y:Src}{fx fy:Bool}{k k2:IntKind}{a b:Int}(v:Int)(h:aI Y draw r env (⟨f,.int k v⟩::rs) nx m K)(hg:GF rs g f:=by exact df)(hx:cB env rs x=⟨fx,.int k a⟩:=by exact rfl)(hy:cB env rs y=⟨fy,.int k2 b⟩:=by exact rfl)(kx:f=true->fx=true:=by exact bW)(ky:f=true->fy=true:=by exact bW)(hn:f=true->0<=b:=by exact ue)(hb:f=true->a.fdiv (2^(min b.toNat k.bits))=v):aI Y draw (⟨.bin .shr x y,g⟩::r) env rs nx m K:=
 bN rfl hg _ (fun hf=>by simp[aN.dZ,hx,hy,kx hf,ky hf,jx,hn hf]) (fun hf=>by simp only[aN.val,hx,hy,jQ];rw[hb hf]) (fun ha=>h)
def wh {x y:Src}{fx fy:Bool}{k:IntKind}{a b:Int}(v:Int)(h:aI Y draw r env (⟨f,.int k v⟩::rs) nx m K)(hg:GF rs g f:=by exact df)(hx:cB env rs x=⟨fx,.int k a⟩:=by exact rfl)(hy:cB env rs y=⟨fy,.int k b⟩:=by exact rfl)(kx:f=true->fx=true:=by exact bW)(ky:f=true->fy=true:=by exact bW)(hb:f=true->k.wrap (((BitVec.ofInt k.bits a)&&&(BitVec.ofInt k.bits b)).toNat)=v):aI Y draw (⟨.bin .and x y,g⟩::r) env rs nx m K:=
 bN rfl hg _ (fun hf=>by simp[aN.dZ,hx,hy,kx hf,ky hf,jx]) (fun hf=>by simp only[aN.val,hx,hy,jQ];rw[hb hf]) (fun ha=>h)
def J4 {x y:Src}{fx fy:Bool}{k:IntKind}{a b:Int}(v:Int)(h:aI Y draw r env (⟨f,.int k v⟩::rs) nx m K)(hg:GF rs g f:=by exact df)(hx:cB env rs x=⟨fx,.int k a⟩:=by exact rfl)(hy:cB env rs y=⟨fy,.int k b⟩:=by exact rfl)(kx:f=true->fx=true:=by exact bW)(ky:f=true->fy=true:=by exact bW)(hb:f=true->k.wrap (((BitVec.ofInt k.bits a) |||(BitVec.ofInt k.bits b)).toNat)=v):aI Y draw (⟨.bin .or x y,g⟩::r) env rs nx m K:=
 bN rfl hg _ (fun hf=>by simp[aN.dZ,hx,hy,kx hf,ky hf,jx]) (fun hf=>by simp only[aN.val,hx,hy,jQ];rw[hb hf]) (fun ha=>h)
def DS {x y:Src}{fx fy:Bool}{k:IntKind}{a b:Int}(v:Int)(h:aI Y draw r env (⟨f,.int k v⟩::rs) nx m K)(hg:GF rs g f:=by exact df)(hx:cB env rs x=⟨fx,.int k a⟩:=by exact rfl)(hy:cB env rs y=⟨fy,.int k b⟩:=by exact rfl)(kx:f=true->fx=true:=by exact bW)(ky:f=true->fy=true:=by exact bW)(hb:f=true->k.wrap (((BitVec.ofInt k.bits a)^^^(BitVec.ofInt k.bits b)).toNat)=v):aI Y draw (⟨.bin .xor x y,g⟩::r) env rs nx m K:=
 bN rfl hg _ (fun hf=>by simp[aN.dZ,hx,hy,kx hf,ky hf,jx]) (fun hf=>by simp only[aN.val,hx,hy,jQ];rw[hb hf]) (fun ha=>h)
def Q6 {x y:Src}{fx fy:Bool}{k:IntKind}{a b:Int}(h:aI Y draw r env (⟨f,.bool (decide (a<b))⟩::rs) nx m K)(hg:GF rs g f:=by exact df)(hx:cB env rs x=⟨fx,.int k a⟩:=by exact rfl)(hy:cB env rs y=⟨fy,.int k b⟩:=by exact rfl)(kx:f=true->fx=true:=by exact bW)(ky:f=true->fy=true:=by exact bW):aI Y draw (⟨.bin .lss x y,g⟩::r) env rs nx m K:=
 bN rfl hg _ (fun hf=>by simp[aN.dZ,hx,hy,kx hf,ky hf,jx]) (fun hf=>by simp only[aN.val,hx,hy,jQ]<;>rfl) (fun ha=>h)
def WZ {x y:Src}{fx fy:Bool}{k:IntKind}{a b:Int}(h:aI Y draw r env (⟨f,.bool (decide (a<=b))⟩::rs) nx m K)(hg:GF rs g f:=by exact df)(hx:cB env rs x=⟨fx,.int k a⟩:=by exact rfl)(hy:cB env rs y=⟨fy,.int k b⟩:=by exact rfl)(kx:f=true->fx=true:=by exact bW)(ky:f=true->fy=true:=by exact bW):aI Y draw (⟨.bin .leq x y,g⟩::r) env rs nx m K:=
 bN rfl hg _ (fun hf=>by simp[aN.dZ,hx,hy,kx hf,ky hf,jx]) (fun hf=>by simp only[aN.val,hx,hy,jQ]<;>rfl) (fun ha=>h)
def Im {x y:Src}{fx fy:Bool}{k:IntKind}{a b:Int}(h:aI Y draw r env (⟨f,.bool (decide (b<a))⟩::rs) nx m K)(hg:GF rs g f:=by exact df)(hx:cB env rs x=⟨fx,.int k a⟩:=by exact rfl)(hy:cB env rs y=⟨fy,.int k b⟩:=by exact rfl)(kx:f=true->fx=true:=by exact bW)(ky:f=true->fy=true:=by exact bW):aI Y draw (⟨.bin .gtr x y,g⟩::r) env rs nx m K:=
 bN rfl hg _ (fun hf=>by simp[aN.dZ,hx,hy,kx hf,ky hf,jx]) (fun hf=>by simp only[aN.val,hx,hy,jQ]<;>rfl) (fun ha=>h)
def WU {x y:Src}{fx fy:Bool}{k:IntKind}{a b:Int}(h:aI Y draw r env (⟨f,.bool (decide (b<=a))⟩::rs) nx m K)(hg:GF rs g f:=by exact df)(hx:cB env rs x=⟨fx,.int k a⟩:=by exact rfl)(hy:cB env rs y=⟨fy,.int k b⟩:=by exact rfl)(kx:f=true->fx=true:=by exact bW)(ky:f=true->fy=true:=by exact bW):aI Y draw (⟨.bin .geq x y,g⟩::r) env rs nx m K:=
 bN rfl hg _ (fun hf=>by simp[aN.dZ,hx,hy,kx hf,ky hf,jx]) (fun hf=>by simp only[aN.val,hx,hy,jQ]<;>rfl) (fun ha=>h)
def WS {x y:Src}{fx fy:Bool}{k:IntKind}{a b:Int}(h:aI Y draw r env (⟨f,.bool (decide (a=b))⟩::rs) nx m K)(hg:GF rs g f:=by exact df)(hx:cB env rs x=⟨fx,.int k a⟩:=by exact rfl)(hy:cB env rs y=⟨fy,.int k b⟩:=by exact rfl)(kx:f=true->fx=true:=by exact bW)(ky:f=true->fy=true:=by exact bW):aI Y draw (⟨.bin .eql x y,g⟩::r) env rs nx m K:=
 bN rfl hg _ (fun hf=>by simp[aN.dZ,hx,hy,kx hf,ky hf,jx]) (fun hf=>by simp only[aN.val,hx,hy,jQ]<;>rfl) (fun ha=>h)
def W1 {x y:Src}{fx fy:Bool}{k:IntKind}{a b:Int}(h:aI Y draw r env (⟨f,.bool (!decide (a=b))⟩::rs) nx m K)(hg:GF rs g f:=by exact df)(hx:cB env rs x=⟨fx,.int k a⟩:=by exact rfl)(hy:cB env rs y=⟨fy,.int k b⟩:=by exact rfl)(kx:f=true->fx=true:=by exact bW)(ky:f=true->fy=true:=by exact bW):aI Y draw (⟨.bin .neq x y,g⟩::r) env rs nx m K:=
 bN rfl hg _ (fun hf=>by simp[aN.dZ,hx,hy,kx hf,ky hf,jx]) (fun hf=>by simp only[aN.val,hx,hy,jQ]<;>rfl) (fun ha=>h)
def Q7 {x y:Src}{fx fy:Bool}{a b:List UInt8}(h:aI Y draw r env (⟨f,.bool (Op.bytesLess a b)⟩::rs) nx m K)(hg:GF rs g f:=by exact df)(hx:cB env rs x=⟨fx,.str a⟩:=by exact rfl)(hy:cB env rs y=⟨fy,.str b⟩:=by exact rfl)(kx:f=true->fx=true:=by exact bW)(ky:f=true->fy=true:=by exact bW):aI Y draw (⟨.bin .lss x y,g⟩::r) env rs nx m K:=
 bN rfl hg _ (fun hf=>by simp[aN.dZ,hx,hy,kx hf,ky hf,jx]) (fun hf=>by simp only[aN.val,hx,hy,jQ,pQ]) (fun ha=>h)
def W0 {x y:Src}{fx fy:Bool}{a b:List UInt8}(h:aI Y draw r env (⟨f,.bool (Op.bytesLess a b ||decide (a=b))⟩::rs) nx m K)(hg:GF rs g f:=by exact df)(hx:cB env rs x=⟨fx,.str a⟩:=by exact rfl)(hy:cB env rs y=⟨fy,.str b⟩:=by exact rfl)(kx:f=true->fx=true:=by exact bW)(ky:f=true->fy=true:=by exact bW):aI Y draw (⟨.bin .leq x y,g⟩::r) env rs nx m K:=
 bN rfl hg _ (fun hf=>by simp[aN.dZ,hx,hy,kx hf,ky hf,jx]) (fun hf=>by simp only[aN.val,hx,hy,jQ,pQ]) (fun ha=>h)
def Io {x y:Src}{fx fy:Bool}{a b:List UInt8}(h:aI Y draw r env (⟨f,.bool (!(Op.bytesLess a b ||decide (a=b)))⟩::rs) nx m K)(hg:GF rs g f:=by exact df)(hx:cB env rs x=⟨fx,.str a⟩:=by exact rfl)(hy:cB env rs y=⟨fy,.str b⟩:=by exact rfl)(kx:f=true->fx=true:=by exact bW)(ky:f=true->fy=true:=by exact bW):aI Y draw (⟨.bin .gtr x y,g⟩::r) env rs nx m K:=
 bN rfl hg _ (fun hf=>by simp[aN.dZ,hx,hy,kx hf,ky hf,jx]) (fun hf=>by simp only[aN.val,hx,hy,jQ,pQ]) (fun ha=>h)
def WV {x y:Src}{fx fy:Bool}{a b:List UInt8}(h:aI Y draw r env (⟨f,.bool (!Op.bytesLess a b)⟩::rs) nx m K)(hg:GF rs g f:=by exact df)(hx:cB env rs x=⟨fx,.str a⟩:=by exact rfl)(hy:cB env rs y=⟨fy,.str b⟩:=by exact rfl)(kx:f=true->fx=true:=by exact bW)(ky:f=true->fy=true:=by exact bW):aI Y draw (⟨.bin .geq x y,g⟩::r) env rs nx m K:=
 bN rfl hg _ (fun hf=>by simp[aN.dZ,hx,hy,kx hf,ky hf,jx]) (fun hf=>by simp only[aN.val,hx,hy,jQ,pQ]) (fun ha=>h)
def WT {x y:Src}{fx fy:Bool}{a b:List UInt8}(h:aI Y draw r env (⟨f,.bool (decide (a=b))⟩::rs) nx m K)(hg:GF rs g f:=by exact df)(hx:cB env rs x=⟨fx,.str a⟩:=by exact rfl)(hy:cB env rs y=⟨fy,.str b⟩:=by exact rfl)(kx:f=true->fx=true:=by exact bW)(ky:f=true->fy=true:=by exact bW):aI Y draw (⟨.bin .eql x y,g⟩::r) env rs nx m K:=
 bN rfl hg _ (fun hf=>by simp[aN.dZ,hx,hy,kx hf,ky hf,jx]) (fun hf=>by simp only[aN.val,hx,hy,jQ,pQ]) (fun ha=>h)
def W2 {x y:Src}{fx fy:Bool}{a b:List UInt8}(h:aI Y draw r env (⟨f,.bool (!decide (a=b))⟩::rs) nx m K)(hg:GF rs g f:=by exact df)(hx:cB env rs x=⟨fx,.str a⟩:=by exact rfl)(hy:cB env rs y=⟨fy,.str b⟩:=by exact rfl)(kx:f=true->fx=true:=by exact bW)(ky:f=true->fy=true:=by exact bW):aI Y draw (⟨.bin .neq x y,g⟩::r) env rs nx m K:=
 bN rfl hg _ (fun hf=>by simp[aN.dZ,hx,hy,kx hf,ky hf,jx]) (fun hf=>by simp only[aN.val,hx,hy,jQ,pQ]) (fun ha=>h)
def c8 {x y:Src}{fx fy:Bool}{a b:List UInt8}(h:aI Y draw r env (⟨f,.str (a++b)⟩::rs) nx m K)(hg:GF rs g f:=by exact df)(hx:cB env rs x=⟨fx,.str a⟩:=by exact rfl)(hy:cB env rs y=⟨fy,.str b⟩:=by exact rfl)(kx:f=true->fx=true:=by exact bW)(ky:f=true->fy=true:=by exact bW)(hb:f=true->a.length+b.length<=9223372036854775807):aI Y draw (⟨.bin .add x y,g⟩::r) env rs nx m K:=
 bN rfl hg _ (fun hf=>by simp[aN.dZ,hx,hy,kx hf,ky hf,jx,hb hf]) (fun hf=>by simp only[aN.val,hx,hy,jQ]) (fun ha=>h)
def r_eqP {x y:Src}{fx fy:Bool}{ag:Bool}{ks:List CK}{a b:D}{v:Bool}(h:aI Y draw r env (⟨f,.bool (v)⟩::rs) nx m K)(hb:iZ a.cells b.cells=v)(hg:GF rs g f:=by exact df)(hx:cB env rs x=⟨fx,a⟩:=by exact rfl)(hy:cB env rs y=⟨fy,b⟩:=by exact rfl)(kx:f=true->fx=true:=by exact bW)(ky:f=true->fy=true:=by exact bW)(h1:f=true->a.isAgg=ag/\b.isAgg=ag/\gy ks a.cells/\gy ks b.cells:=by exact xP):aI Y draw (⟨.eqA false ag ks x y,g⟩::r) env rs nx m K:=
 bN rfl hg _ (fun hf=>by simp only[aN.dZ,hx,hy];exact⟨kx hf,ky hf,h1 hf⟩) (fun hf=>by simp only[aN.val,hx,hy];rw[hb];rfl) (fun ha=>h)
def r_eqN {x y:Src}{fx fy:Bool}{ag:Bool}{ks:List CK}{a b:D}{v:Bool}(h:aI Y draw r env (⟨f,.bool (!v)⟩::rs) nx m K)(hb:iZ a.cells b.cells=v)(hg:GF rs g f:=by exact df)(hx:cB env rs x=⟨fx,a⟩:=by exact rfl)(hy:cB env rs y=⟨fy,b⟩:=by exact rfl)(kx:f=true->fx=true:=by exact bW)(ky:f=true->fy=true:=by exact bW)(h1:f=true->a.isAgg=ag/\b.isAgg=ag/\gy ks a.cells/\gy ks b.cells:=by exact xP):aI Y draw (⟨.eqA true ag ks x y,g⟩::r) env rs nx m K:=
 bN rfl hg _ (fun hf=>by simp only[aN.dZ,hx,hy];exact⟨kx hf,ky hf,h1 hf⟩) (fun hf=>by simp only[aN.val,hx,hy];rw[hb];rfl) (fun ha=>h)
def oA {x:Src}{fx:Bool}{k k2:IntKind}{a:Int}(v:Int)(h:aI Y draw r env (⟨f,.int k v⟩::rs) nx m K)(hg:GF rs g f:=by exact df)(hx:cB env rs x=⟨fx,.int k2 a⟩:=by exact rfl)(kx:f=true->fx=true:=by exact bW)(hb:f=true->k.wrap a=v):aI Y draw (⟨.cvi k x,g⟩::r) env rs nx m K:=
 bN rfl hg _ (fun hf=>by simp[aN.dZ,hx,kx hf]) (fun hf=>by simp only[aN.val,hx];rw[hb hf]) (fun ha=>h)
def Q5 {x:Src}{fx:Bool}{s:List UInt8}(h:(f=true->draw=false->s.length<=9223372036854775807)->aI Y draw r env (⟨f,.int .i64 s.length⟩::rs) nx m K)(hg:GF rs g f:=by exact df)(hx:cB env rs x=⟨fx,.str s⟩:=by exact rfl)(kx:f=true->fx=true:=by exact bW):aI Y draw (⟨.lenS x,g⟩::r) env rs nx m K:=
 bN rfl hg _ (fun hf=>by simp[aN.dZ,hx,kx hf]) (fun hf=>by simp[aN.val,hx]) (fun ha=>h (fun hf hd=>by have:=ha hf;subst hd;simpa[aN.He,hx,kx hf]using this))
def Q3 {x:Src}{fx:Bool}{α:Type}{k:Nat}{q:α->D}{xs:List α}(h:(f=true->draw=false->xs.length<=9223372036854775807)->aI Y draw r env (⟨f,.int .i64 xs.length⟩::rs) nx m K)(hg:GF rs g f:=by exact df)(hx:cB env rs x=⟨fx,.sl k (xs.map q)⟩:=by exact rfl)(kx:f=true->fx=true:=by exact bW):aI Y draw (⟨.len x,g⟩::r) env rs nx m K:=
 bN rfl hg _ (fun hf=>by simp[aN.dZ,hx,kx hf]) (fun hf=>by simp[aN.val,hx]) (fun ha=>h (fun hf hd=>by have:=ha hf;subst hd;simpa[aN.He,hx,kx hf]using this))
def Q4 {x:Src}{fx:Bool}{l k i n:Nat}(h:(f=true->draw=false->n<=9223372036854775807)->aI Y draw r env (⟨f,.int .i64 n⟩::rs) nx m K)(hg:GF rs g f:=by exact df)(hx:cB env rs x=⟨fx,.own l k i n⟩:=by exact rfl)(kx:f=true->fx=true:=by exact bW):aI Y draw (⟨.len x,g⟩::r) env rs nx m K:=
 bN rfl hg _ (fun hf=>by simp[aN.dZ,hx,kx hf]) (fun hf=>by simp[aN.val,hx]) (fun ha=>h (fun hf hd=>by have:=ha hf;subst hd;simpa[aN.He,hx,kx hf]using this))
def WY {x:Src}{fx:Bool}(h:aI Y draw r env (⟨f,.int .i64 0⟩::rs) nx m K)(hg:GF rs g f:=by exact df)(hx:cB env rs x=⟨fx,.aC⟩:=by exact rfl)(kx:f=true->fx=true:=by exact bW):aI Y draw (⟨.len x,g⟩::r) env rs nx m K:=
 bN rfl hg _ (fun hf=>by simp[aN.dZ,hx,kx hf]) (fun hf=>by simp[aN.val,hx]) (fun ha=>h)
def W3 {x:Src}{fx:Bool}{l k i o:Nat}(h:aI Y draw r env (⟨f,.ptr l k i o⟩::rs) nx m K)(hg:GF rs g f:=by exact df)(hx:cB env rs x=⟨fx,.ptr l k i o⟩:=by exact rfl)(kx:f=true->fx=true:=by exact bW):aI Y draw (⟨.nilck x,g⟩::r) env rs nx m K:=
 bN rfl hg _ (fun hf=>by simp[aN.dZ,hx,kx hf]) (fun hf=>by simp[aN.val,hx]) (fun ha=>h)
def W4 {x:Src}{fx:Bool}{k i o:Nat}{es:List D}(h:aI Y draw r env (⟨f,.ref k es i o⟩::rs) nx m K)(hg:GF rs g f:=by exact df)(hx:cB env rs x=⟨fx,.ref k es i o⟩:=by exact rfl)(kx:f=true->fx=true:=by exact bW):aI Y draw (⟨.nilck x,g⟩::r) env rs nx m K:=
 bN rfl hg _ (fun hf=>by simp[aN.dZ,hx,kx hf]) (fun hf=>by simp[aN.val,hx]) (fun ha=>h)
def r_faP {x:Src}{fx:Bool}{off l k i o:Nat}(h:aI Y draw r env (⟨f,.ptr l k i (o+off)⟩::rs) nx m K)(hg:GF rs g f:=by exact df)(hx:cB env rs x=⟨fx,.ptr l k i o⟩:=by exact rfl)(kx:f=true->fx=true:=by exact bW):aI Y draw (⟨.fa off x,g⟩::r) env rs nx m K:=
 bN rfl hg _ (fun hf=>by simp[aN.dZ,hx,kx hf]) (fun hf=>by simp[aN.val,hx]) (fun ha=>h)
def r_faR {x:Src}{fx:Bool}{off k i o:Nat}{es:List D}(h:aI Y draw r env (⟨f,.ref k es i (o+off)⟩::rs) nx m K)(hg:GF rs g f:=by exact df)(hx:cB env rs x=⟨fx,.ref k es i o⟩:=by exact rfl)(kx:f=true->fx=true:=by exact bW):aI Y draw (⟨.fa off x,g⟩::r) env rs nx m K:=
 bN rfl hg _ (fun hf=>by simp[aN.dZ,hx,kx hf]) (fun hf=>by simp[aN.val,hx]) (fun ha=>h)
def ca {x y:Src}{fx fy:Bool}{α:Type}{k:Nat}{q:α->D}{xs:List α}{i:Int}{kk:IntKind}(j:Nat)(h:aI Y draw r env (⟨f,.ref k (xs.map q) j 0⟩::rs) nx m K)(hg:GF rs g f:=by exact df)(hx:cB env rs x=⟨fx,.sl k (xs.map q)⟩:=by exact rfl)(hy:cB env rs y=⟨fy,.int kk i⟩:=by exact rfl)(kx:f=true->fx=true:=by exact bW)(ky:f=true->fy=true:=by exact bW)(hj:f=true->i=(j:Int):=by exact vc)(hb:f=true->j<xs.length:=by exact ue):aI Y draw (⟨.ia k x y,g⟩::r) env rs nx m K:=
 bN rfl hg _ (fun hf=>by simp only[aN.dZ,hx,hy,bP];exact⟨kx hf,ky hf,trivial,by have:=hj hf;omega,by have:=hj hf;have:=hb hf;omega⟩) (fun hf=>by simp only[aN.val,hx,hy];rw[hj hf];rfl) (fun ha=>h)
def jJ {x y:Src}{fx fy:Bool}{l k i0 n:Nat}{i:Int}{kk:IntKind}(j:Nat)(h:aI Y draw r env (⟨f,.ptr l k (i0+j) 0⟩::rs) nx m K)(hg:GF rs g f:=by exact df)(hx:cB env rs x=⟨fx,.own l k i0 n⟩:=by exact rfl)(hy:cB env rs y=⟨fy,.int kk i⟩:=by exact rfl)(kx:f=true->fx=true:=by exact bW)(ky:f=true->fy=true:=by exact bW)(hj:f=true->i=(j:Int):=by exact vc)(hb:f=true->j<n:=by exact ue):aI Y draw (⟨.ia k x y,g⟩::r) env rs nx m K:=
 bN rfl hg _ (fun hf=>by simp only[aN.dZ,hx,hy];exact⟨kx hf,ky hf,trivial,by have:=hj hf;omega,by have:=hj hf;have:=hb hf;omega⟩) (fun hf=>by simp only[aN.val,hx,hy];rw[hj hf];rfl) (fun ha=>h)
def rE {x y:Src}{fx fy:Bool}{l k k2 n i0 o:Nat}{i:Int}{kk:IntKind}(j:Nat)(h:aI Y draw r env (⟨f,.ptr l k2 i0 (o+j*k)⟩::rs) nx m K)(hg:GF rs g f:=by exact df)(hx:cB env rs x=⟨fx,.ptr l k2 i0 o⟩:=by exact rfl)(hy:cB env rs y=⟨fy,.int kk i⟩:=by exact rfl)(kx:f=true->fx=true:=by exact bW)(ky:f=true->fy=true:=by exact bW)(hj:f=true->i=(j:Int):=by exact vc)(hb:f=true->j<n:=by exact ue):aI Y draw (⟨.iaP n k x y,g⟩::r) env rs nx m K:=
 bN rfl hg _ (fun hf=>by simp only[aN.dZ,hx,hy];exact⟨kx hf,ky hf,by have:=hj hf;omega,by have:=hj hf;have:=hb hf;omega⟩) (fun hf=>by simp only[aN.val,hx,hy];rw[hj hf];rfl) (fun ha=>h)
def Ip {x y:Src}{fx fy:Bool}{k k2 n i0 o:Nat}{es:List D}{i:Int}{kk:IntKind}(j:Nat)(h:aI Y draw r env (⟨f,.ref k2 es i0 (o+j*k)⟩::rs) nx m K)(hg:GF rs g f:=by exact df)(hx:cB env rs x=⟨fx,.ref k2 es i0 o⟩:=by exact rfl)(hy:cB env rs y=⟨fy,.int kk i⟩:=by exact rfl)(kx:f=true->fx=true:=by exact bW)(ky:f=true->fy=true:=by exact bW)(hj:f=true->i=(j:Int):=by first|exact fun _=>rfl|(intro _;omega))(hb:f=true->j<n:=by intro _;omega):aI Y draw (⟨.iaP n k x y,g⟩::r) env rs nx m K:=
 bN rfl hg _ (fun hf=>by simp only[aN.dZ,hx,hy];exact⟨kx hf,ky hf,by have:=hj hf;omega,by have:=hj hf;have:=hb hf;omega⟩) (fun hf=>by simp only[aN.val,hx,hy];rw[hj hf];rfl) (fun ha=>h)
def oB {x y:Src}{fx fy:Bool}{s:List UInt8}{i:Int}{kk:IntKind}(j:Nat)(h:aI Y draw r env (⟨f,.int .u8 (at8 s j)⟩::rs) nx m K)(hg:GF rs g f:=by exact df)(hx:cB env rs x=⟨fx,.str s⟩:=by exact rfl)(hy:cB env rs y=⟨fy,.int kk i⟩:=by exact rfl)(kx:f=true->fx=true:=by exact bW)(ky:f=true->fy=true:=by exact bW)(hj:f=true->i=(j:Int):=by exact vc)(hb:f=true->j<s.length:=by exact ue):aI Y draw (⟨.ixS x y,g⟩::r) env rs nx m K:=
 bN rfl hg _ (fun hf=>by simp only[aN.dZ,hx,hy];exact⟨kx hf,ky hf,by have:=hj hf;omega,by have:=hj hf;have:=hb hf;omega⟩) (fun hf=>by simp only[aN.val,hx,hy];rw[hj hf];rfl) (fun ha=>h)
def J6 {x y:Src}{fx fy:Bool}{n k:Nat}{ag:Bool}{cs:List D}{i:Int}{kk:IntKind}(j:Nat)(v:D)(h:aI Y draw r env (⟨f,v⟩::rs) nx m K)(hg:GF rs g f:=by exact df)(hx:cB env rs x=⟨fx,.agg cs⟩:=by exact rfl)(hy:cB env rs y=⟨fy,.int kk i⟩:=by exact rfl)(kx:f=true->fx=true:=by exact bW)(ky:f=true->fy=true:=by exact bW)(hj:f=true->i=(j:Int):=by exact vc)(hb:f=true->j<n:=by exact ue)(hl:cs.length=n*k:=by exact rfl)(h1:ag=false->k=1:=by intro h;first|exact rfl|cases h)(hv:f=true->cut cs (j*k) k ag=v):aI Y draw (⟨.ixA n k ag x y,g⟩::r) env rs nx m K:=
 bN rfl hg _ (fun hf=>by simp only[aN.dZ,hx,hy];exact⟨kx hf,ky hf,h1,by have:=hj hf;omega,by have:=hj hf;have:=hb hf;omega,hl⟩) (fun hf=>by simp only[aN.val,hx,hy];rw[<-hv hf,hj hf];rfl) (fun ha=>h)
def QY {x y:Src}{fx fy:Bool}{α:Type}{k:Nat}{q:α->D}{xs:List α}{i:Int}{kk:IntKind}(h:aI Y draw r env (⟨f,.ref k (xs.map q) i.toNat 0⟩::rs) nx m K)(hg:GF rs g f:=by exact df)(hx:cB env rs x=⟨fx,.sl k (xs.map q)⟩:=by exact rfl)(hy:cB env rs y=⟨fy,.int kk i⟩:=by exact rfl)(kx:f=true->fx=true:=by exact bW)(ky:f=true->fy=true:=by exact bW)(hb:f=true->0<=i/\i<(xs.length:Nat):=by exact G0):aI Y draw (⟨.ia k x y,g⟩::r) env rs nx m K:=
 bN rfl hg _ (fun hf=>by simp only[aN.dZ,hx,hy,bP];exact⟨kx hf,ky hf,trivial,(hb hf).1,(hb hf).2⟩) (fun hf=>by simp only[aN.val,hx,hy]<;>rfl) (fun ha=>h)
def WW {x y:Src}{fx fy:Bool}{l k i0 n:Nat}{i:Int}{kk:IntKind}(h:aI Y draw r env (⟨f,.ptr l k (i0+i.toNat) 0⟩::rs) nx m K)(hg:GF rs g f:=by exact df)(hx:cB env rs x=⟨fx,.own l k i0 n⟩:=by exact rfl)(hy:cB env rs y=⟨fy,.int kk i⟩:=by exact rfl)(kx:f=true->fx=true:=by exact bW)(ky:f=true->fy=true:=by exact bW)(hb:f=true->0<=i/\i<(n:Nat):=by exact G0):aI Y draw (⟨.ia k x y,g⟩::r) env rs nx m K:=
 bN rfl hg _ (fun hf=>by simp only[aN.dZ,hx,hy,bP];exact⟨kx hf,ky hf,trivial,(hb hf).1,(hb hf).2⟩) (fun hf=>by simp only[aN.val,hx,hy]<;>rfl) (fun ha=>h)
def WX {x y:Src}{fx fy:Bool}{s:List UInt8}{i:Int}{kk:IntKind}(h:aI Y draw r env (⟨f,.int .u8 (at8 s i.toNat)⟩::rs) nx m K)(hg:GF rs g f:=by exact df)(hx:cB env rs x=⟨fx,.str s⟩:=by exact rfl)(hy:cB env rs y=⟨fy,.int kk i⟩:=by exact rfl)(kx:f=true->fx=true:=by exact bW)(ky:f=true->fy=true:=by exact bW)(hb:f=true->0<=i/\i<(s.length:Nat):=by exact G0):aI Y draw (⟨.ixS x y,g⟩::r) env rs nx m K:=
 bN rfl hg _ (fun hf=>by simp only[aN.dZ,hx,hy,bP];exact⟨kx hf,ky hf,(hb hf).1,(hb hf).2⟩) (fun hf=>by simp only[aN.val,hx,hy]<;>rfl) (fun ha=>h)
def jd {x y:Src}{fx fy:Bool}{s:List UInt8}{k2:IntKind}{a:Int}(i:Nat)(h:aI Y draw r env (⟨f,.str (s.drop i)⟩::rs) nx m K)(hg:GF rs g f:=by exact df)(hx:cB env rs x=⟨fx,.str s⟩:=by exact rfl)(hy:cB env rs y=⟨fy,.int k2 a⟩:=by exact rfl)(kx:f=true->fx=true:=by exact bW)(ky:f=true->fy=true:=by exact bW)(hi:f=true->a=(i:Int):=by exact vc)(hb:f=true->i<=s.length:=by exact ue):aI Y draw (⟨.slS x (some y) none,g⟩::r) env rs nx m K:=
 bN rfl hg _ (fun hf=>by simp only[aN.dZ,Nj,dO,hx,hy];have:=hb hf;have:=hi hf;refine⟨kx hf,ky hf,trivial, ?_⟩;simp only[oV,eJ,cO,cL,Int.ofNat_eq_natCast];omega) (fun hf=>by simp only[aN.val,dO,eJ,hx,hy];rw[hi hf];simp) (fun ha=>h)
def Ap {x y:Src}{fx fy:Bool}{α:Type}{k:Nat}{q:α->D}{s:List α}{k2:IntKind}{a:Int}(i:Nat)(h:aI Y draw r env (⟨f,.sl k ((s.drop i).map q)⟩::rs) nx m K)(hg:GF rs g f:=by exact df)(hx:cB env rs x=⟨fx,.sl k (s.map q)⟩:=by exact rfl)(hy:cB env rs y=⟨fy,.int k2 a⟩:=by exact rfl)(kx:f=true->fx=true:=by exact bW)(ky:f=true->fy=true:=by exact bW)(hi:f=true->a=(i:Int):=by exact vc)(hb:f=true->i<=s.length:=by exact ue):aI Y draw (⟨.slA k x (some y) none,g⟩::r) env rs nx m K:=
 bN rfl hg _ (fun hf=>by simp only[aN.dZ,Nj,dO,hx,hy,bP];have:=hb hf;have:=hi hf;refine⟨kx hf,ky hf,trivial,trivial, ?_⟩;simp only[oV,eJ,cO,cL,Int.ofNat_eq_natCast];omega) (fun hf=>by simp only[aN.val,dO,eJ,hx,hy];rw[hi hf];first|(simp only[List.take_length,Int.toNat_natCast,List.map_drop];done)|simp[List.map_drop,List.map_take]) (fun ha=>h)
def pC {x z:Src}{fx fz:Bool}{s:List UInt8}{k3:IntKind}{c:Int}(j:Nat)(h:aI Y draw r env (⟨f,.str (s.take j)⟩::rs) nx m K)(hg:GF rs g f:=by exact df)(hx:cB env rs x=⟨fx,.str s⟩:=by exact rfl)(hz:cB env rs z=⟨fz,.int k3 c⟩:=by exact rfl)(kx:f=true->fx=true:=by exact bW)(kz:f=true->fz=true:=by exact bW)(hj:f=true->c=(j:Int):=by exact vc)(hb:f=true->j<=s.length:=by exact ue):aI Y draw (⟨.slS x none (some z),g⟩::r) env rs nx m K:=
 bN rfl hg _ (fun hf=>by simp only[aN.dZ,Nj,dO,hx,hz];have:=hb hf;have:=hj hf;refine⟨kx hf,trivial,kz hf, ?_⟩;simp only[oV,eJ,cO,cL,Int.ofNat_eq_natCast];omega) (fun hf=>by simp only[aN.val,dO,eJ,hx,hz];rw[hj hf];simp) (fun ha=>h)
def pB {x z:Src}{fx fz:Bool}{α:Type}{k:Nat}{q:α->D}{s:List α}{k3:IntKind}{c:Int}(j:Nat)(h:aI Y draw r env (⟨f,.sl k ((s.take j).map q)⟩::rs) nx m K)(hg:GF rs g f:=by exact df)(hx:cB env rs x=⟨fx,.sl k (s.map q)⟩:=by exact rfl)(hz:cB env rs z=⟨fz,.int k3 c⟩:=by exact rfl)(kx:f=true->fx=true:=by exact bW)(kz:f=true->fz=true:=by exact bW)(hj:f=true->c=(j:Int):=by exact vc)(hb:f=true->j<=s.length:=by exact ue):aI Y draw (⟨.slA k x none (some z),g⟩::r) env rs nx m K:=
 bN rfl hg _ (fun hf=>by simp only[aN.dZ,Nj,dO,hx,hz,bP];have:=hb hf;have:=hj hf;refine⟨kx hf,trivial,kz hf,trivial, ?_⟩;simp only[oV,eJ,cO,cL,Int.ofNat_eq_natCast];omega) (fun hf=>by simp only[aN.val,dO,eJ,hx,hz];rw[hj hf];first|(simp only[List.take_length,Int.toNat_natCast,List.map_drop];done)|simp[List.map_drop,List.map_take]) (fun ha=>h)
def uT {x z:Src}{fx fz:Bool}{l k i0 n:Nat}{k3:IntKind}{c:Int}(j:Nat)(h:aI Y draw r env (⟨f,.own l k i0 j⟩::rs) nx m K)(hg:GF rs g f:=by exact df)(hx:cB env rs x=⟨fx,.own l k i0 n⟩:=by exact rfl)(hz:cB env rs z=⟨fz,.int k3 c⟩:=by exact rfl)(kx:f=true->fx=true:=by exact bW)(kz:f=true->fz=true:=by exact bW)(hj:f=true->c=(j:Int):=by exact vc)(hb:f=true->j<=n:=by exact ue):aI Y draw (⟨.slA k x none (some z),g⟩::r) env rs nx m K:=
 bN rfl hg _ (fun hf=>by simp only[aN.dZ,Nj,dO,hx,hz];have:=hb hf;have:=hj hf;refine⟨kx hf,trivial,kz hf,trivial, ?_⟩;simp only[oV,eJ,cO,cL,Int.ofNat_eq_natCast];omega) (fun hf=>by simp only[aN.val,dO,eJ,hx,hz];rw[hj hf];simp) (fun ha=>h)
def Aq {x y z:Src}{fx fy fz:Bool}{s:List UInt8}{k2:IntKind}{a:Int}(i:Nat){k3:IntKind}{c:Int}(j:Nat)(h:aI Y draw r env (⟨f,.str ((s.take j).drop i)⟩::rs) nx m K)(hg:GF rs g f:=by exact df)(hx:cB env rs x=⟨fx,.str s⟩:=by exact rfl)(hy:cB env rs y=⟨fy,.int k2 a⟩:=by exact rfl)(hz:cB env rs z=⟨fz,.int k3 c⟩:=by exact rfl)(kx:f=true->fx=true:=by exact bW)(ky:f=true->fy=true:=by exact bW)(kz:f=true->fz=true:=by exact bW)(hi:f=true->a=(i:Int):=by exact vc)(hj:f=true->c=(j:Int):=by exact vc)(hb:f=true->i<=j/\j<=s.length:=by exact G0):aI Y draw (⟨.slS x (some y) (some z),g⟩::r) env rs nx m K:=
 bN rfl hg _ (fun hf=>by simp only[aN.dZ,Nj,dO,hx,hy,hz];have:=hb hf;have:=hi hf;have:=hj hf;refine⟨kx hf,ky hf,kz hf, ?_⟩;simp only[oV,eJ,cO,cL,Int.ofNat_eq_natCast];omega) (fun hf=>by simp only[aN.val,dO,eJ,hx,hy,hz];rw[hi hf,hj hf];simp) (fun ha=>h)
def Q9 {x y z:Src}{fx fy fz:Bool}{α:Type}{k:Nat}{q:α->D}{s:List α}{k2:IntKind}{a:Int}(i:Nat){k3:IntKind}{c:Int}(j:Nat)(h:aI Y draw r env (⟨f,.sl k (((s.take j).drop i).map q)⟩::rs) nx m K)(hg:GF rs g f:=by exact df)(hx:cB env rs x=⟨fx,.sl k (s.map q)⟩:=by exact rfl)(hy:cB env rs y=⟨fy,.int k2 a⟩:=by exact rfl)(hz:cB env rs z=⟨fz,.int k3 c⟩:=by exact rfl)(kx:f=true->fx=true:=by exact bW)(ky:f=true->fy=true:=by exact bW)(kz:f=true->fz=true:=by exact bW)(hi:f=true->a=(i:Int):=by exact vc)(hj:f=true->c=(j:Int):=by exact vc)(hb:f=true->i<=j/\j<=s.length:=by exact G0):aI Y draw (⟨.slA k x (some y) (some z),g⟩::r) env rs nx m K:=
 bN rfl hg _ (fun hf=>by simp only[aN.dZ,Nj,dO,hx,hy,hz,bP];have:=hb hf;have:=hi hf;have:=hj hf;refine⟨kx hf,ky hf,kz hf,trivial, ?_⟩;simp only[oV,eJ,cO,cL,Int.ofNat_eq_natCast];omega) (fun hf=>by simp only[aN.val,dO,eJ,hx,hy,hz];rw[hi hf,hj hf];first|(simp only[List.take_length,Int.toNat_natCast,List.map_drop];done)|simp[List.map_drop,List.map_take]) (fun ha=>h)
def gB {x:Src}{fx:Bool}{i:Nat}{ds:List D}(v:D)(h:aI Y draw r env (⟨f,v⟩::rs) nx m K)(hg:GF rs g f:=by exact df)(hx:cB env rs x=⟨fx,.tup ds⟩:=by exact rfl)(kx:f=true->fx=true:=by exact bW)(hv:f=true->ds.getD i .any=v:=by exact fun _=>rfl)(hb:f=true->i<ds.length:=by intro _;simp only[ay,aB];omega):aI Y draw (⟨.ext x i,g⟩::r) env rs nx m K:=
 bN rfl hg _ (fun hf=>by simp only[aN.dZ,hx];exact⟨kx hf,hb hf⟩) (fun hf=>by simp only[aN.val,hx];exact hv hf) (fun ha=>h)
def dr {z:List D}{ps:List (Nat×Nat×Src)}(v:List D)(h:aI Y draw r env (⟨f,.agg v⟩::rs) nx m K)(hg:GF rs g f:=by exact df)(hv:f=true->zv (cB env rs) z ps=v:=by exact fun _=>rfl)(ho:f=true->BS (cB env rs) z.length ps:=by exact xP):aI Y draw (⟨.build z ps,g⟩::r) env rs nx m K:=
 bN rfl hg _ (fun hf=>ho hf) (fun hf=>by simp only[aN.val];rw[hv hf]) (fun _=>h)
def bz {z:List D}{ps:List (Nat×Nat×Src)}(d:D)(h:aI Y draw r env (⟨f,d⟩::rs) nx m K)(hg:GF rs g f:=by exact df)(hv:f=true->D.agg (zv (cB env rs) z ps)=d:=by exact fun _=>rfl)(ho:f=true->BS (cB env rs) z.length ps:=by exact xP):aI Y draw (⟨.build z ps,g⟩::r) env rs nx m K:=
 bN rfl hg _ (fun hf=>ho hf) (fun hf=>by simp only[aN.val];exact hv hf) (fun _=>h)
def Wu {e:D}{n o:Nat}{ag:Bool}(h:e.isAgg=ag):oo e n n o ag=e:=by simp[oo,h]
def cJ {x:Src}{fx:Bool}{n l:Nat}{ag:Bool}{d:D}(h:aI Y draw r env (⟨f,d⟩::rs) nx m K)(hg:GF rs g f:=by exact df)(hx:cB env rs x=⟨fx,.ptr l n 0 0⟩:=by exact rfl)(kx:f=true->fx=true:=by exact bW)(hl:f=true->look m l=some (.buf n [d]):=by exact fun _=>rfl)(ha:f=true->d.isAgg=ag:=by exact fun _=>rfl):aI Y draw (⟨.ld n ag x,g⟩::r) env rs nx m K:=
 ik rfl hg _ (fun hf=>by simp only[aN.dZ,hx,FA,fJ,hl hf];exact⟨kx hf,⟨trivial,aT⟩,ae⟩) (fun hf=>by simp only[aN.val,hx,Ez,bp,hl hf,jE];exact Wu (ha hf)) m rfl (fun ha=>h)
def bI {x:Src}{fx:Bool}{n l k o:Nat}{ag:Bool}{d:D}(v:D)(h:aI Y draw r env (⟨f,v⟩::rs) nx m K)(hg:GF rs g f:=by exact df)(hx:cB env rs x=⟨fx,.ptr l k 0 o⟩:=by exact rfl)(kx:f=true->fx=true:=by exact bW)(hl:f=true->look m l=some (.buf k [d]):=by exact fun _=>rfl)(hv:f=true->oo d k n o ag=v:=by exact fun _=>rfl)(ho:o+n<=k:=by omega):aI Y draw (⟨.ld n ag x,g⟩::r) env rs nx m K:=
 ik rfl hg _ (fun hf=>by simp only[aN.dZ,hx,FA,fJ,hl hf];exact⟨kx hf,⟨trivial,aT⟩,ho⟩) (fun hf=>by simp only[aN.val,hx,Ez,bp,hl hf,jE];exact hv hf) m rfl (fun ha=>h)
def r_ldE {x:Src}{fx:Bool}{n l k i o:Nat}{ag:Bool}{es:List D}(v:D)(h:aI Y draw r env (⟨f,v⟩::rs) nx m K)(hg:GF rs g f:=by exact df)(hx:cB env rs x=⟨fx,.ptr l k i o⟩:=by exact rfl)(kx:f=true->fx=true:=by exact bW)(hl:f=true->look m l=some (.buf k es):=by exact fun _=>rfl)(hi:f=true->i<es.length)(hv:f=true->oo (es.getD i .any) k n o ag=v)(ho:o+n<=k:=by omega):aI Y draw (⟨.ld n ag x,g⟩::r) env rs nx m K:=
 ik rfl hg _ (fun hf=>by simp only[aN.dZ,hx,FA,fJ,hl hf];exact⟨kx hf,⟨trivial,by have:=hi hf;omega⟩,ho⟩) (fun hf=>by simp only[aN.val,hx,Ez,bp,hl hf];exact hv hf) m rfl (fun ha=>h)
def qt {x:Src}{fx:Bool}{α:Type} [Inhabited α]{n l k i o:Nat}{ag:Bool}{q:α->D}{xs:List α}(v:D)(h:aI Y draw r env (⟨f,v⟩::rs) nx m K)(hg:GF rs g f:=by exact df)(hx:cB env rs x=⟨fx,.ptr l k i o⟩:=by exact rfl)(kx:f=true->fx=true:=by exact bW)(hl:f=true->look m l=some (.buf k (xs.map q)):=by exact fun _=>rfl)(hi:f=true->i<xs.length:=by exact ue)(hv:f=true->oo (q xs[i]!) k n o ag=v:=by exact fun _=>rfl)(ho:o+n<=k:=by omega):aI Y draw (⟨.ld n ag x,g⟩::r) env rs nx m K:=
 ik rfl hg _ (fun hf=>by simp only[aN.dZ,hx,FA,fJ,hl hf,bP];exact⟨kx hf,⟨trivial,by have:=hi hf;omega⟩,ho⟩) (fun hf=>by simp only[aN.val,hx,Ez,bp,hl hf];rw[getD_map (hi hf)];exact hv hf) m rfl (fun ha=>h)
def b8 {x:Src}{fx:Bool}{α:Type} [Inhabited α]{n k i o:Nat}{ag:Bool}{q:α->D}{xs:List α}(v:D)(h:aI Y draw r env (⟨f,v⟩::rs) nx m K)(hg:GF rs g f:=by exact df)(hx:cB env rs x=⟨fx,.ref k (xs.map q) i o⟩:=by exact rfl)(kx:f=true->fx=true:=by exact bW)(hi:f=true->i<xs.length:=by exact ue)(hv:f=true->oo (q xs[i]!) k n o ag=v:=by exact fun _=>rfl)(ho:o+n<=k:=by omega):aI Y draw (⟨.ld n ag x,g⟩::r) env rs nx m K:=
 ik rfl hg _ (fun hf=>by simp only[aN.dZ,hx,FA,bP];exact⟨kx hf,hi hf,ho⟩) (fun hf=>by simp only[aN.val,hx,Ez];rw[getD_map (hi hf)];exact hv hf) m rfl (fun ha=>h)
def fF {x:Src}{fx:Bool}{n k i o:Nat}{ag:Bool}{es:List D}(v:D)(h:aI Y draw r env (⟨f,v⟩::rs) nx m K)(hg:GF rs g f:=by exact df)(hx:cB env rs x=⟨fx,.ref k es i o⟩:=by exact rfl)(kx:f=true->fx=true:=by exact bW)(hi:f=true->i<es.length:=by intro _;simp only[ay,aB];omega)(hv:f=true->oo (es.getD i .any) k n o ag=v:=by exact fun _=>rfl)(ho:o+n<=k:=by omega):aI Y draw (⟨.ld n ag x,g⟩::r) env rs nx m K:=
 ik rfl hg _ (fun hf=>by simp only[aN.dZ,hx,FA];exact⟨kx hf,hi hf,ho⟩) (fun hf=>by simp only[aN.val,hx,Ez];exact hv hf) m rfl (fun ha=>h)
def DT {x:Src}{fx:Bool}{n k i o:Nat}{ag:Bool}{es:List D}(v:D)(h:aI Y draw r env (⟨f,v⟩::rs) nx m K)(hg:GF rs g f:=by exact df)(hx:cB env rs x=⟨fx,.ref k es i o⟩:=by exact rfl)(kx:f=true->fx=true:=by exact bW)(hi:f=true->i<es.length:=by intro _;simp only[ay,aB];omega)(hv:f=true->oo (es.getD i .any) k n o ag=v:=by exact fun _=>rfl)(ho:o+n<=k:=by omega):aI Y draw (⟨.ldI n ag x,g⟩::r) env rs nx m K:=
 bN rfl hg _ (fun hf=>by simp only[aN.dZ,hx,FA];exact⟨kx hf,hi hf,ho⟩) (fun hf=>by simp only[aN.val,hx,Ez];exact hv hf) (fun ha=>h)
def r_box {x:Src}{fx:Bool}{k:Nat}{d:D}{L:Nat}{m2:List (Nat×bO)}(h:aI Y draw r env (⟨f,.ptr L k 0 0⟩::rs) nx m2 K)(hg:GF rs g f:=by exact df)(hx:cB env rs x=⟨fx,d⟩:=by exact rfl)(kx:f=true->fx=true:=by exact bW)(hc:d.cells.length=k:=by exact rfl)(hL:nx+rs.length=L:=by exact wH)(hm:du m L (.buf k [d])=m2:=by simp only[du,cX,Nat.reduceEqDiff,ba,bc,Nat.reduceAdd,reduceCtorEq];exact rfl):aI Y draw (⟨.box k x,g⟩::r) env rs nx m K:=
 ik rfl hg _ (fun hf=>by simp only[aN.dZ,hx];exact⟨kx hf,hc⟩) (fun hf=>by simp only[aN.val,hx,hL]) _ (by simp only[aN.cP,hx,hL];exact hm) (fun _=>h)
def r_mkB {L:Nat}{m2:List (Nat×bO)}(h:aI Y draw r env (⟨f,.ptr L 2 0 0⟩::rs) nx m2 K)(hg:GF rs g f:=by exact df)(hL:nx+rs.length=L:=by exact wH)(hm:du m L (.bld none 0 false)=m2:=by simp only[du,cX,Nat.reduceEqDiff,ba,bc,Nat.reduceAdd,reduceCtorEq];exact rfl):aI Y draw (⟨.mkB,g⟩::r) env rs nx m K:=
 ik rfl hg _ (fun _=>trivial) (fun hf=>by simp only[aN.val,hL]) _ (by simp only[aN.cP,hL];exact hm) (fun _=>h)
def r_s2b {x:Src}{fx:Bool}{s:List UInt8}{L:Nat}{m2:List (Nat×bO)}(h:aI Y draw r env (⟨f,.own L 1 0 s.length⟩::rs) nx m2 K)(hg:GF rs g f:=by exact df)(hx:cB env rs x=⟨fx,.str s⟩:=by exact rfl)(kx:f=true->fx=true:=by exact bW)(hL:nx+rs.length=L:=by exact wH)(hm:du m L (.buf 1 (s.map fun b=>.int .u8 b.toNat))=m2:=by simp only[du,cX,Nat.reduceEqDiff,ba,bc,Nat.reduceAdd,reduceCtorEq];exact rfl):aI Y draw (⟨.s2b x,g⟩::r) env rs nx m K:=
 ik rfl hg _ (fun hf=>by simp only[aN.dZ,hx];exact⟨kx hf,trivial⟩) (fun hf=>by simp only[aN.val,hx,hL]) _ (by simp only[aN.cP,hx,hL];exact hm) (fun _=>h)
def r_rng {x:Src}{fx:Bool}{s:List UInt8}{L:Nat}{m2:List (Nat×bO)}(h:aI Y draw r env (⟨f,.it L⟩::rs) nx m2 K)(hg:GF rs g f:=by exact df)(hx:cB env rs x=⟨fx,.str s⟩:=by exact rfl)(kx:f=true->fx=true:=by exact bW)(hL:nx+rs.length=L:=by exact wH)(hm:du m L (.iter s 0)=m2:=by simp only[du,cX,Nat.reduceEqDiff,ba,bc,Nat.reduceAdd,reduceCtorEq];exact rfl):aI Y draw (⟨.ui x,g⟩::r) env rs nx m K:=
 ik rfl hg _ (fun hf=>by simp only[aN.dZ,hx];exact⟨kx hf,trivial⟩) (fun hf=>by simp only[aN.val,hx,hL]) _ (by simp only[aN.cP,hx,hL];exact hm) (fun _=>h)
def de {k n:Nat}{z:D}{ps:List (Nat×Src)}{L:Nat}{m2:List (Nat×bO)}(es:List D)(h:aI Y draw r env (⟨f,.own L k 0 n⟩::rs) nx m2 K)(hg:GF rs g f:=by exact df)(he:m4 (cB env rs) (List.replicate n z) ps=es:=by exact rfl)(ho:f=true->tt (cB env rs) k n ps:=by exact xP)(hz:z.cells.length=k:=by exact rfl)(hL:nx+rs.length=L:=by exact wH)(hm:du m L (.buf k es)=m2:=by simp only[du,cX,Nat.reduceEqDiff,ba,bc,Nat.reduceAdd,reduceCtorEq];exact rfl):aI Y draw (⟨.bsl k z n ps,g⟩::r) env rs nx m K:=
 ik rfl hg _ (fun hf=>⟨hz,ho hf⟩) (fun hf=>by simp only[aN.val,hL]) _ (by simp only[aN.cP,he,hL];exact hm) (fun _=>h)
def UM {k:Nat}{z:D}{x y:Src}{k1 k2:IntKind}{a c:Int}{L:Nat}{m2:List (Nat×bO)}(n:Nat)(h:aI Y draw r env (⟨true,.own L k 0 n⟩::rs) nx m2 K)(hx:cB env rs x=⟨true,.int k1 a⟩:=by exact rfl)(hy:cB env rs y=⟨true,.int k2 c⟩:=by exact rfl)(hn:a=(n:Int):=by first|exact rfl|omega)(hc:a<=c/\c<=1073741824:=by constructor<;>omega)(hz:z.cells.length=k:=by exact rfl)(hL:nx+rs.length=L:=by exact wH)(hm:du m L (.buf k (List.replicate n z))=m2:=by simp only[du,cX,Nat.reduceEqDiff,ba,bc,Nat.reduceAdd,reduceCtorEq];exact rfl):aI Y draw (⟨.mks k z x y,none⟩::r) env rs nx m K:=
 rH rfl _ (by simp only[aN.dZ,hx,hy];exact⟨trivial,trivial,hz,ae,hc.1,hc.2⟩) (by simp only[aN.val,hx,hL,D.nat,hn];rfl) _ (by simp only[aN.cP,hx,hL,D.nat,hn];exact hm) (fun _=>h)
def aU {n l k o:Nat}{x y:Src}{d v:D}{m2:List (Nat×bO)}(e:D)(h:aI Y draw r env (⟨true,.any⟩::rs) nx m2 K)(hx:cB env rs x=⟨true,.ptr l k 0 o⟩:=by exact rfl)(hy:cB env rs y=⟨true,v⟩:=by exact rfl)(hl:look m l=some (.buf k [d]):=by exact rfl)(hc:v.cells.length=n:=by exact rfl)(he:tZ d k n o v=e:=by exact rfl)(ho:o+n<=k:=by omega)(hm:du m l (.buf k [e])=m2:=by simp only[du,cX,Nat.reduceEqDiff,ba,bc,Nat.reduceAdd,reduceCtorEq];exact rfl):aI Y draw (⟨.st n x y,none⟩::r) env rs nx m K:=
 rH rfl _ (by simp only[aN.dZ,hx,hy,fJ,hl];exact⟨trivial,trivial,hc,⟨trivial,aT⟩,ho⟩) rfl _ (by simp only[aN.cP,hx,hy,bp,hl,jE,List.set_cons_zero,he];exact hm) (fun _=>h)
def Ar {n l k i o:Nat}{x y:Src}{v:D}{es:List D}{m2:List (Nat×bO)}(es2:List D)(h:aI Y draw r env (⟨true,.any⟩::rs) nx m2 K)(hx:cB env rs x=⟨true,.ptr l k i o⟩:=by exact rfl)(hy:cB env rs y=⟨true,v⟩:=by exact rfl)(hl:look m l=some (.buf k es):=by exact rfl)(hi:i<es.length)(hc:v.cells.length=n:=by exact rfl)(he:es.set i (tZ (es.getD i .any) k n o v)=es2)(ho:o+n<=k:=by omega)(hm:du m l (.buf k es2)=m2:=by simp only[du,cX,Nat.reduceEqDiff,ba,bc,Nat.reduceAdd,reduceCtorEq];exact rfl):aI Y draw (⟨.st n x y,none⟩::r) env rs nx m K:=
 rH rfl _ (by simp only[aN.dZ,hx,hy,fJ,hl];exact⟨trivial,trivial,hc,⟨trivial,ae⟩,ho⟩) rfl _ (by simp only[aN.cP,hx,hy,bp,hl,he];exact hm) (fun _=>h)
def sQ (m:List (Nat×bO))(k:Nat)(d:D)(ys:List D):Prop:=De m k d/\qA m d=ys
def sQ.sl {k:Nat}{es:List D}:sQ m k (.sl k es) es:=⟨rfl,rfl⟩
def sQ.aC {k:Nat}:sQ m k .aC []:=⟨trivial,rfl⟩
def sQ.own {l k i n:Nat}{es:List D}(hl:look m l=some (.buf k es))(hb:i+n<=es.length):sQ m k (.own l k i n) ((es.drop i).take n):=⟨⟨rfl,by simp only[fJ,hl];exact⟨trivial,hb⟩⟩,by simp only[qA,bp,hl]⟩
def sQ.all {l k n:Nat}{es:List D}(hl:look m l=some (.buf k es))(hb:n=es.length):sQ m k (.own l k 0 n) es:=by
 have:=sQ.own (i:=0) (n:=n) hl ae;simpa[hb]using this
def sQ.str {s:List UInt8}:sQ m 1 (.str s) (s.map fun b=>.int .u8 b.toNat):=⟨rfl,rfl⟩
def WR {k n:Nat}{x y:Src}{d:D}{ys:List D}{L:Nat}{m2:List (Nat×bO)}(h:aI Y draw r env (⟨true,.own L k 0 n⟩::rs) nx m2 K)(hx:cB env rs x=⟨true,.aC⟩:=by exact rfl)(hy:cB env rs y=⟨true,d⟩:=by exact rfl)(he:sQ m k d ys)(hn:ys.length=n)(hb:n<=1073741824:=by omega)(hL:nx+rs.length=L:=by exact wH)(hm:du m L (.buf k ys)=m2:=by simp only[du,cX,Nat.reduceEqDiff,ba,bc,Nat.reduceAdd,reduceCtorEq];exact rfl):aI Y draw (⟨.app k x y,none⟩::r) env rs nx m K:=
 rH rfl _ (by simp only[aN.dZ,hx,hy,he.2,hn];exact⟨trivial,trivial,he.1,hb⟩) (by simp only[aN.val,hx,hy,he.2,hn,hL]) _ (by simp only[aN.cP,hx,hy,he.2,hL];exact hm) (fun _=>h)
def J3 {k n:Nat}{y:Src}{fy:Bool}{d:D}{ys:List D}{L:Nat}{m2:List (Nat×bO)}(h:aI Y draw r env (⟨f,.own L k 0 n⟩::rs) nx m2 K)(hg:GF rs g f:=by exact df)(hy:cB env rs y=⟨fy,d⟩:=by exact rfl)(ky:f=true->fy=true:=by exact bW)(he:sQ m k d ys)(hn:ys.length=n)(hb:n<=1073741824:=by omega)(hL:nx+rs.length=L:=by exact wH)(hm:du m L (.buf k ys)=m2:=by simp only[du,cX,Nat.reduceEqDiff,ba,bc,Nat.reduceAdd,reduceCtorEq];exact rfl):aI Y draw (⟨.appN k y,g⟩::r) env rs nx m K:=
 ik rfl hg _ (fun hf=>by simp only[aN.dZ,hy,he.2,hn];exact⟨ky hf,he.1,hb⟩) (fun hf=>by simp only[aN.val,hy,he.2,hn,hL]) _ (by simp only[aN.cP,hy,he.2,hL];exact hm) (fun _=>h)
def Ao {k l i a n:Nat}{x y:Src}{d:D}{xs ys:List D}{L:Nat}{m2:List (Nat×bO)}(zs:List D)(h:aI Y draw r env (⟨true,.own L k 0 n⟩::rs) nx m2 K)(hx:cB env rs x=⟨true,.own l k i a⟩:=by exact rfl)(hy:cB env rs y=⟨true,d⟩:=by exact rfl)(hl:look m l=some (.buf k xs):=by exact rfl)(ha:i+a<=xs.length)(he:sQ m k d ys)(hz:(xs.drop i).take a++ys=zs)(hn:a+ys.length=n)(hb:n<=1073741824:=by omega)(hL:nx+rs.length=L:=by exact wH)(hm:du (cX m l) L (.buf k zs)=m2:=by simp only[du,cX,Nat.reduceEqDiff,ba,bc,Nat.reduceAdd,reduceCtorEq];exact rfl):aI Y draw (⟨.app k x y,none⟩::r) env rs nx m K:=
 rH rfl _ (by simp only[aN.dZ,hx,hy,he.2,fJ,hl,hn];exact⟨trivial,trivial,he.1,trivial,⟨trivial,ha⟩,hb⟩) (by simp only[aN.val,hx,hy,he.2,hn,hL]) _ (by simp only[aN.cP,hx,hy,he.2,bp,hl,hz,hL];exact hm) (fun _=>h)
def jX {α:Type}{q:α->D}{xs:List α}{e:α}{k l ly:Nat}{x y:Src}{L:Nat}{m2:List (Nat×bO)}(h:aI Y draw r env (⟨true,.own L k 0 (xs++[e]).length⟩::rs) nx m2 K)(hx:cB env rs x=⟨true,.own l k 0 xs.length⟩:=by exact rfl)(hy:cB env rs y=⟨true,.own ly k 0 1⟩:=by exact rfl)(hl:look m l=some (.buf k (xs.map q)):=by exact rfl)(he:look m ly=some (.buf k [q e]):=by exact rfl)(hb:xs.length+1<=1073741824:=by omega)(hL:nx+rs.length=L:=by exact wH)(hm:du (cX m l) L (.buf k ((xs++[e]).map q))=m2:=by simp only[du,cX,Nat.reduceEqDiff,ba,bc,Nat.reduceAdd,reduceCtorEq];exact rfl):aI Y draw (⟨.app k x y,none⟩::r) env rs nx m K:=
 Ao (zs:=(xs++[e]).map q) (hx:=hx) (hy:=hy) (hl:=hl) (ha:=aT) (he:=sQ.all (es:=[q e]) he rfl) (hz:=by rw[cn,ek aT];simp) (hn:=aT) (hb:=cH) (hL:=hL) (hm:=hm) (h:=h)
def QW {α:Type}{q:α->D}{xs ys:List α}{k l:Nat}{x y:Src}{d:D}{L:Nat}{m2:List (Nat×bO)}(h:aI Y draw r env (⟨true,.own L k 0 (xs++ys).length⟩::rs) nx m2 K)(hx:cB env rs x=⟨true,.own l k 0 xs.length⟩:=by exact rfl)(hy:cB env rs y=⟨true,d⟩:=by exact rfl)(hl:look m l=some (.buf k (xs.map q)):=by exact rfl)(he:sQ m k d (ys.map q))(hb:xs.length+ys.length<=1073741824:=by omega)(hL:nx+rs.length=L:=by exact wH)(hm:du (cX m l) L (.buf k ((xs++ys).map q))=m2:=by simp only[du,cX,Nat.reduceEqDiff,ba,bc,Nat.reduceAdd,reduceCtorEq];exact rfl):aI Y draw (⟨.app k x y,none⟩::r) env rs nx m K:=
 Ao (zs:=(xs++ys).map q) (hx:=hx) (hy:=hy) (hl:=hl) (ha:=aT) (he:=he) (hz:=by rw[cn,ek aT];simp) (hn:=aT) (hb:=cH) (hL:=hL) (hm:=hm) (h:=h)
def FW {x:Src}{fx:Bool}{d:D}{ys:List D}(s:List UInt8)(h:aI Y draw r env (⟨f,.str s⟩::rs) nx m K)(hg:GF rs g f:=by exact df)(hx:cB env rs x=⟨fx,d⟩:=by exact rfl)(kx:f=true->fx=true:=by exact bW)(he:f=true->sQ m 1 d ys)(hs:f=true->ys=s.map fun b=>.int .u8 b.toNat)(hd:d.Wp=false:=by exact rfl):aI Y draw (⟨.b2s x,g⟩::r) env rs nx m K:=
 ik rfl hg _ (fun hf=>by
  simp only[aN.dZ,hx,(he hf).2,hs hf];refine⟨kx hf,(by cases d<;>first|trivial|(cases hd)),(he hf).1,fun e hm=>?_⟩;obtain⟨b,_,rfl⟩:=dX.1 hm;have:=b.toNat_lt;exact⟨rfl,ae,ae⟩) (fun hf=>by simp only[aN.val,hx,(he hf).2,hs hf];rw[Sv]) m rfl (fun _=>h)
def DV {x:Src}{l pos:Nat}{s:List UInt8}{m2:List (Nat×bO)}(c w:Nat)(h:aI Y draw r env (⟨true,.tup [.bool true,.int .i64 pos,.int .i32 c]⟩::rs) nx m2 K)(hx:cB env rs x=⟨true,.it l⟩:=by exact rfl)(hl:look m l=some (.iter s pos):=by exact rfl)(hp:pos<s.length)(hc:vz s pos=(c,w))(hm:du m l (.iter s (pos+w))=m2:=by simp only[du,cX,Nat.reduceEqDiff,ba,bc,Nat.reduceAdd,reduceCtorEq];exact rfl):aI Y draw (⟨.A5 x,none⟩::r) env rs nx m K:=
 rH rfl _ (by simp only[aN.dZ,hx,hl];exact⟨trivial,trivial⟩) (by simp only[aN.val,hx,hl,hc,hp,decide_true,cond_true]) _ (by simp only[aN.cP,hx,hl,hc,hp,decide_true,cond_true];exact hm) (fun _=>h)
def DU {x:Src}{l pos:Nat}{s:List UInt8}(h:aI Y draw r env (⟨true,.tup [.bool false]⟩::rs) nx m K)(hx:cB env rs x=⟨true,.it l⟩:=by exact rfl)(hl:look m l=some (.iter s pos):=by exact rfl)(hp:¬pos<s.length):aI Y draw (⟨.A5 x,none⟩::r) env rs nx m K:=
 rH rfl _ (by simp only[aN.dZ,hx,hl];exact⟨trivial,trivial⟩) (by simp only[aN.val,hx,hl,hp,decide_false,cond_false]) _ (by simp only[aN.cP,hx,hl,hp,decide_false,cond_false]) (fun _=>h)
def ai {n:Nat}{args:List Src}{sh:List (List Sh)}{ak4:List D}{v:D}(h:aI Y draw r env (⟨f,v⟩::rs) nx m K)(hg:GF rs g f:=by exact df)(hc:Y.pre n ak4/\Y.val n ak4=v)(ha:f=true->n5 m sh (iX (cB env rs) args)=ak4:=by exact fun _=>rfl)(ho:f=true->xb (cB env rs) args:=by exact xP)(hp:f=true->kM m sh (iX (cB env rs) args):=by exact xP)(hk:f=true->tj (iX (cB env rs) args) v=true:=by exact fun _=>rfl):aI Y draw (⟨.call n args sh,g⟩::r) env rs nx m K:=
 ik rfl hg _ (fun hf=>by simp only[aN.dZ,(ea _ _ _).1,ha hf,hc.2];exact⟨ho hf,(ea _ _ _).2.2 (hp hf),hc.1,hk hf⟩) (fun hf=>by simp only[aN.val,(ea _ _ _).1,ha hf,hc.2]) m rfl (fun _=>h)
def dc {n:Nat}{args:List Src}{sh:List (List Sh)}{ak4:List D}{v:D}(h:aI Y draw r env (⟨f,v⟩::rs) nx m K)(hg:GF rs g f:=by exact df)(hc:f=true->Y.pre n ak4/\Y.val n ak4=v)(ha:f=true->n5 m sh (iX (cB env rs) args)=ak4:=by exact fun _=>rfl)(ho:f=true->xb (cB env rs) args:=by exact xP)(hp:f=true->kM m sh (iX (cB env rs) args):=by exact xP)(hk:f=true->tj (iX (cB env rs) args) v=true:=by exact fun _=>rfl):aI Y draw (⟨.call n args sh,g⟩::r) env rs nx m K:=
 ik rfl hg _ (fun hf=>by simp only[aN.dZ,(ea _ _ _).1,ha hf,(hc hf).2];exact⟨ho hf,(ea _ _ _).2.2 (hp hf),(hc hf).1,hk hf⟩) (fun hf=>by simp only[aN.val,(ea _ _ _).1,ha hf,(hc hf).2]) m rfl (fun _=>h)
def TF {n:Nat}{x:Src}{fx:Bool}{caps:List D}{args:List Src}{sh:List (List Sh)}{ak4:List D}{v:D}(h:aI Y draw r env (⟨f,v⟩::rs) nx m K)(hg:GF rs g f:=by exact df)(hx:cB env rs x=⟨fx,.fn n caps⟩:=by exact rfl)(kx:f=true->fx=true:=by exact bW)(hb:n<1000000:=by decide)(hc:f=true->Y.pre n ak4/\Y.val n ak4=v)(ha:f=true->n5 m sh (iX (cB env rs) args++caps)=ak4:=by exact fun _=>rfl)(ho:f=true->xb (cB env rs) args:=by exact xP)(hp:f=true->kM m sh (iX (cB env rs) args++caps):=by exact xP)(hk:f=true->tj (iX (cB env rs) args++caps) v=true:=by exact fun _=>rfl):aI Y draw (⟨.callv x args sh,g⟩::r) env rs nx m K:=
 ik rfl hg _ (fun hf=>by simp only[aN.dZ,hx,(ea _ _ _).1,ha hf,(hc hf).2];exact⟨kx hf,ho hf,hb,(ea _ _ _).2.2 (hp hf),(hc hf).1,hk hf⟩) (fun hf=>by simp only[aN.val,hx,(ea _ _ _).1,ha hf,(hc hf).2]) m rfl (fun _=>h)
def UL {n:Nat}{caps:List Src}(cs:List D)(h:aI Y draw r env (⟨f,.fn n cs⟩::rs) nx m K)(hg:GF rs g f:=by exact df)(hc:f=true->iX (cB env rs) caps=cs:=by exact fun _=>rfl)(ho:f=true->xb (cB env rs) caps:=by exact xP):aI Y draw (⟨.mkf n caps,g⟩::r) env rs nx m K:=
 bN rfl hg _ (fun hf=>ho hf) (fun hf=>by simp only[aN.val,hc hf]) (fun _=>h)
def nv {n l k:Nat}{x:Src}{args:List Src}{sh:List (List Sh)}{d v e:D}{ak4:List D}{m2:List (Nat×bO)}(h:aI Y draw r env (⟨true,v⟩::rs) nx m2 K)(hx:cB env rs x=⟨true,.ptr l k 0 0⟩:=by exact rfl)(hl:look m l=some (.buf k [d]):=by exact rfl)(hd:d.bC=true:=by exact rfl)(hc:Y.fp n d ak4/\Y.fv n d ak4=v/\Y.fs n d ak4=e)(ha:n5 [] sh (iX (cB env rs) args)=ak4:=by exact rfl)(ho:xb (cB env rs) args:=by repeat' first|exact trivial|exact rfl|refine And.intro ?_ ?_|decide)(hn:bB (iX (cB env rs) args)=true:=by exact rfl)(hm:du m l (.buf k [e])=m2:=by simp only[du,cX,Nat.reduceEqDiff,ba,bc,Nat.reduceAdd,reduceCtorEq];exact rfl):aI Y draw (⟨.callF n x args sh,none⟩::r) env rs nx m K:=
 rH rfl _ (by simp only[aN.dZ,hx,fJ,bp,hl,jE,(ea _ _ _).1,ha];exact⟨trivial,ho,hn,trivial,trivial,⟨trivial,aT⟩,aT,hd,hc.1⟩) (by simp only[aN.val,hx,bp,hl,jE,(ea _ _ _).1,ha,hc.2.1]) _ (by simp only[aN.cP,hx,bp,hl,jE,(ea _ _ _).1,ha,hc.2.2];exact hm) (fun _=>h)
end
end
end Go.Abs
section
namespace Go.Abs
abbrev au:=List UInt8
structure cY where
 major:Int
 minor:Int
 patch:Int
 pre:au
 build:au
 deriving Inhabited,DecidableEq
def cY.D (v:cY):D:=.agg [.int .i64 v.major,.int .i64 v.minor,.int .i64 v.patch,.str v.pre,.str v.build]
structure vl where
 name:au
 v:cY
 shelf:au
 sum:Int
 feats:List au
 deriving Inhabited,DecidableEq
def vl.D (x:vl):D:=.agg [.str x.name,.int .i64 x.v.major,.int .i64 x.v.minor,.int .i64 x.v.patch,.str x.v.pre,.str x.v.build,.str x.shelf,.int .u64 x.sum,.sl 1 (x.feats.map D.str)]
structure Env where
 e0:au
 e1:au
 e2:au
 deriving Inhabited,DecidableEq
def Env.D (e:Env):D:=.agg [.str e.e0,.str e.e1,.str e.e2]
structure Et where
 env:Env
 lines:List vl
 deriving Inhabited,DecidableEq
def Et.D (l:Et):D:=.agg [.str l.env.e0,.str l.env.e1,.str l.env.e2,.sl 9 (l.lines.map vl.D)]
end Go.Abs
namespace Go.Abs
theorem uC (a b:List UInt8):Wd (.str a) (.str b)=decide (a=b):=pQ a b
theorem xY (k k2:IntKind)(a b:Int):Wd (.int k a) (.int k2 b)=decide (a=b):=rfl
def cY.eq (a b:cY):iZ (cY.D a).cells (cY.D b).cells=decide (a=b):=by
 obtain⟨a1,a2,a3,a4,a5⟩:=a;obtain⟨b1,b2,b3,b4,b5⟩:=b
 grind [cY.D,D.cells,iZ,uC,xY]
def Env.eq (a b:Env):iZ (Env.D a).cells (Env.D b).cells=decide (a=b):=by
 obtain⟨a1,a2,a3⟩:=a;obtain⟨b1,b2,b3⟩:=b
 grind [Env.D,D.cells,iZ,uC,xY]
theorem cY.inj {a b:cY}(h:cY.D a=cY.D b):a=b:=by
 obtain⟨a1,a2,a3,a4,a5⟩:=a;obtain⟨b1,b2,b3,b4,b5⟩:=b
 grind [cY.D]
theorem Env.inj {a b:Env}(h:Env.D a=Env.D b):a=b:=by
 obtain⟨a1,a2,a3⟩:=a;obtain⟨b1,b2,b3⟩:=b
 grind [Env.D]
theorem map_inj {α:Type}{q:α->D}(hq:∀a b,q a=q b->a=b):∀{xs ys:List α},xs.map q=ys.map q->xs=ys
 |[],[],_=>rfl
 |[],_::_,h=>by simp at h
 |_::_,[],h=>by simp at h
 |a::r,b::s,h=>by
  simp only[List.map_cons,uf]at h;rw[hq a b h.1,map_inj hq h.2]
theorem str_inj (a b:List UInt8)(h:D.str a=D.str b):a=b:=by simpa using h
theorem vl.inj {a b:vl}(h:vl.D a=vl.D b):a=b:=by
 obtain⟨a1,⟨v1,v2,v3,v4,v5⟩,a2,a3,a4⟩:=a;obtain⟨b1,⟨w1,w2,w3,w4,w5⟩,b2,b3,b4⟩:=b
 grind [vl.D,map_inj,str_inj]
theorem Et.inj {a b:Et}(h:Et.D a=Et.D b):a=b:=by
 obtain⟨⟨a1,a2,a3⟩,a4⟩:=a;obtain⟨⟨b1,b2,b3⟩,b4⟩:=b
 grind [Et.D,map_inj,vl.inj]
end Go.Abs
end
section
namespace Go.Abs
def allI (p:Nat->Bool):Nat->Nat->Bool
 |_,0=>true
 |i,k+1=>p i&&allI p (i+1) k
def cV (p:Nat->Bool)(i n:Nat):Bool:=allI p i (n-i)
theorem aV {p:Nat->Bool}{i n:Nat}(h:i<n):cV p i n=(p i&&cV p (i+1) n):=by
 unfold cV;rw[show n-i=(n-(i+1))+1 by omega];rfl
def cr {p:Nat->Bool}{i n:Nat}(h:n<=i):cV p i n=true:=by
 unfold cV;rw[show n-i=0 by omega];rfl
theorem EM {p:Nat->Bool}:∀{k i:Nat},allI p i k=true↔∀j,i<=j->j<i+k->p j=true
 |0,i=>by simp[allI];intro j h1 h2;omega
 |k+1,i=>by
  simp only[allI,bw,EM (k:=k)]
  grind
theorem eD {p:Nat->Bool}{i n:Nat}:cV p i n=true↔∀j,i<=j->j<n->p j=true:=by
 grind [cV,EM]
end Go.Abs
namespace Go.Abs
def aM {a a' b b':D}(h1:a=a')(h2:b=b'):D.tup [a,b]=D.tup [a',b']:=by rw[h1,h2]
def eW {a a' b b' c c':D}(h1:a=a')(h2:b=b')(h3:c=c'):D.tup [a,b,c]=D.tup [a',b',c']:=by rw[h1,h2,h3]
end Go.Abs
namespace Go.Abs
def ld8 (s:au)(i:Nat):oo (D.int .u8 (s[i]!).toNat) 1 1 0 false=.int .u8 (at8 s i):=by
 simp only[oo,D.isAgg,at8];simp;rfl
end Go.Abs
namespace Go.Abs
def uz (s:au)(pos:Nat)(h:pos<s.length):∃c w,vz s pos=(c,w)/\1<=w/\((w=1/\(c:Int)=at8 s pos/\c<128)\/(128<=c/\128<=at8 s pos)):=by
 refine⟨(vz s pos).1,(vz s pos).2,rfl, ?_⟩;have e:vz s pos=Lib.decodeN (s.length-pos) (s.getD pos 0).toNat (s.getD (pos+1) 0).toNat (s.getD (pos+2) 0).toNat (s.getD (pos+3) 0).toNat:=Lib.decode_N ⟨⟨s⟩⟩ pos;rw[e];unfold at8;generalize (s.getD pos 0).toNat=b0;generalize (s.getD (pos+1) 0).toNat=b1;generalize (s.getD (pos+2) 0).toNat=b2;generalize (s.getD (pos+3) 0).toNat=b3;generalize s.length-pos=n;by_cases hb:b0<128
 ·unfold Lib.decodeN;rw[ax hb];exact⟨aQ _,.inl ⟨rfl,rfl,hb⟩⟩
 ·unfold Lib.decodeN
  grind
end Go.Abs
namespace Go.Abs
def oI {α:Type}{q:α->D}{xs:List α}{m:List (Nat×bO)}{l:Nat}(hq:∀x,xV m [.a] (q x)=q x)(hl:look m l=some (.buf 1 (xs.map q))):xV m [.sl 1 [.a]] (.own l 1 0 xs.length)=.sl 1 (xs.map q):=by
 show D.sl 1 _=_;simp only[bp,hl,cn,a7,List.map_map];congr 1;apply List.map_congr_left;intro x _;have:=hq x;simp only[Function.comp];generalize q x=d at this;cases d<;>exact this
def mH {α:Type}{q:α->D}{xs:List α}{m:List (Nat×bO)}{l:Nat}(hq:∀x,RU m [.a] (q x))(hl:look m l=some (.buf 1 (xs.map q))):RU m [.sl 1 [.a]] (.own l 1 0 xs.length):=by
 grind [RU,US,UR,fJ,bp,a7]
end Go.Abs
end
namespace Go.Abs
def ij (c:Int):Bool:=decide (97<=c)&&decide (c<=122)
def bm (c:Int):Bool:=decide (48<=c)&&decide (c<=57)
def yo (c:Int):Bool:=ij c ||bm c ||decide (c=95)
def cG (s:au):Bool:=decide (1<=s.length)&&decide (s.length<=12)&&cV (fun i=>yo (at8 s i)) 0 s.length
def Wx (s:au)(i:Nat):Bool:=(ij (at8 s i) ||bm (at8 s i) ||decide (at8 s i=45))&& !(decide (at8 s i=45)&&decide (at8 s (i-1)=45))
def dJ (s:au):Bool:=decide (1<=s.length)&&decide (s.length<=16)&&ij (at8 s 0)&& !decide (at8 s (s.length-1)=45)&&cV (Wx s) 1 s.length
def oQ (s:au)(i:Nat):Bool:=ij (at8 s i) ||(bm (at8 s i)&& !decide (i=0)) ||(decide (at8 s i=45)&& !decide (i=0)&& !decide (i=s.length-1)&& !decide (at8 s (i-1)=45))
def To (s:au)(h1:1<=s.length)(h2:s.length<=16):dJ s=cV (oQ s) 0 s.length:=by
 rw[Bool.eq_iff_iff];simp only[dJ,cz h1,cz h2,gp,bw,bE,bD,eD];constructor
 ·rintro⟨⟨h3,h4⟩,h5⟩ j _ hj;rcases Nat.eq_zero_or_pos j with rfl|hp
  ·simp[oQ,h3]
  ·have:=h5 j hp hj;simp only[Wx,bw,dh,bE,dT,aW,bD]at this;simp only[oQ,bw,dh,bE,aW,bD];rcases this with⟨(h6|h6)|h6,h7⟩
   ·exact Or.inl (Or.inl h6)
   ·exact Or.inl (Or.inr ⟨h6,ae⟩)
   ·refine Or.inr ⟨⟨⟨h6,ae⟩, ?_⟩, ?_⟩
    ·rintro rfl;exact h4 h6
    ·rcases h7 with h7|h7
     ·exact absurd h6 h7
     ·exact h7
 ·intro h;have h0:=h 0 ae ae;have hlow:ij (at8 s 0)=true:=by simpa[oQ]using h0
  refine⟨⟨hlow, ?_⟩,fun j hj1 hj2=>?_⟩
  ·intro he;have hl:=h (s.length-1) ae ae;rcases Nat.eq_or_lt_of_le h1 with e|e
   ·rw[<-e]at he;simp only[Nat.sub_self]at he;simp only[ij,bw,aW]at hlow;omega
   ·simp only[oQ,he,ij,bm]at hl;simp at hl
  ·have:=h j ae hj2;simp only[oQ,bw,dh,bE,aW,bD]at this;simp only[Wx,bw,dh,bE,dT,aW,bD];rcases this with(h6|h6)|h6
   ·refine⟨Or.inl (Or.inl h6),Or.inl ?_⟩;simp only[ij,bw,aW]at h6;omega
   ·refine⟨Or.inl (Or.inr h6.1),Or.inl ?_⟩;have:=h6.1;simp only[bm,bw,aW]at this;omega
   ·exact⟨Or.inr h6.1.1.1,Or.inr h6.2⟩
def ee (s:au):Nat:=s.foldl (fun n b=>n*10+(b.toNat-48)) 0
def gW (s:au):Bool:=decide (1<=s.length)&&decide (s.length<=9)&& !(decide (1<s.length)&&decide (at8 s 0=48))&&cV (fun i=>bm (at8 s i)) 0 s.length&&decide (ee s<=9999)
def eV (s:au):Int:=if gW s=true then(ee s:Int)else 0
theorem kW (s:au)(i:Nat)(h:i<s.length):s.take (i+1)=s.take i++[s.getD i 0]:=by
 rw[List.take_succ];simp[h]
def w9 (s:au)(i:Nat)(h:i<s.length):ee (s.take (i+1))=ee (s.take i)*10+((at8 s i).toNat-48):=by
 rw[kW s i h];simp[ee,List.foldl_append,at8]
def Ni (s:au):ee s+23<=23*10^s.length:=by
 have:∀(s:au) (n k:Nat),n+23<=23*10^k->s.foldl (fun n b=>n*10+(b.toNat-48)) n+23<=23*10^(k+s.length):=by
  intro s;induction s with
  |nil=>intro n k h;simpa using h
  |cons b r ih=>
   intro n k h;have hb:=b.toNat_lt;have:=ih (n*10+(b.toNat-48)) (k+1) (by rw[Nat.pow_succ];omega);simp only[List.foldl_cons,ay];rw[show k+(r.length+1)=k+1+r.length by omega];exact this
 have:=this s 0 0 aT;simpa[ee]using this
def uR (s:au)(i:Nat)(h:i<=9):ee (s.take i)<=23000000000:=by
 have h1:=Ni (s.take i);have h2:(s.take i).length<=9:=cH;have h3:10^(s.take i).length<=10^9:=Nat.pow_le_pow_right ae h2;omega
def FK (s:au):∀n:Nat,s.foldl (fun n b=>n*10+(b.toNat-48)) n=n*10^s.length+ee s:=by
 unfold ee;induction s with
 |nil=>intro n;simp
 |cons b r ih=>
  intro n;simp only[List.foldl_cons,ay];rw[ih,ih (0*10+(b.toNat-48)),Nat.pow_succ];simp only[Nat.zero_mul,bU,Nat.add_mul];rw[Nat.mul_assoc n 10,Nat.mul_comm 10];omega
def wZ (b:UInt8)(r:au):ee (b::r)=(b.toNat-48)*10^r.length+ee r:=by
 have:=FK r (0*10+(b.toNat-48));simp only[ee,List.foldl_cons]at this⊢;rw[this];simp
def wN {b:UInt8}{r:au}(h:cV (fun i=>bm (at8 (b::r) i)) 0 (b::r).length=true):bm b.toNat=true/\cV (fun i=>bm (at8 r i)) 0 r.length=true:=by
 rw[eD]at h;refine⟨by simpa[at8]using h 0 ae aT, ?_⟩;rw[eD];intro j _ hj;simpa[at8]using h (j+1) ae cH
def Ch:∀(s:au),cV (fun i=>bm (at8 s i)) 0 s.length=true->ee s<10^s.length
 |[],_=>by simp[ee]
 |b::r,h=>by
  obtain⟨h1,h2⟩:=wN h;have:=Ch r h2;rw[wZ,ay,Nat.pow_succ];simp only[bm,bw,aW]at h1;have h3:b.toNat-48<=9:=ae;have:=fk (10^r.length) h3;omega
def Nh {b:UInt8}{r:au}(h:49<=b.toNat):10^r.length<=ee (b::r):=by
 rw[wZ];have:=fk (10^r.length) (show 1<=b.toNat-48 by omega);omega
theorem DG (s:au):gW s=(decide (1<=s.length)&&decide (s.length<=4)&& !(decide (1<s.length)&&decide (at8 s 0=48))&&cV (fun i=>bm (at8 s i)) 0 s.length):=by
 unfold gW;cases hd:cV (fun i=>bm (at8 s i)) 0 s.length with
 |false=>simp
 |true=>
  have hlt:=Ch s hd;by_cases h4:s.length<=4
  ·have:10^s.length<=10^4:=Nat.pow_le_pow_right ae h4;rw[cz h4,cz (by omega:s.length<=9),cz (by omega:ee s<=9999)];simp
  ·rw[dk h4]
   match s,hd,h4 with
   |b::r,hd,h4=>
    by_cases h0:at8 (b::r) 0=48
    ·rw[cz h0,cz (by omega:1<(b::r).length)];simp
    ·have h1:=(wN hd).1;simp only[bm,bw,aW]at h1;have h2:49<=b.toNat:=by
      simp[at8]at h0;omega
     have h3:=Nh (r:=r) h2;have:10^4<=10^r.length:=Nat.pow_le_pow_right ae (by simp at h4;omega);rw[dk (by omega:¬ee (b::r)<=9999)];simp
def dg (n:Nat):UInt8:=UInt8.ofNat (48+n)
def Db:Nat->Nat->au
 |0,n=>[dg n]
 |f+1,n=>if n<10 then [dg n]else Db f (n/10)++[dg (n%10)]
def dC (n:Nat):au:=Db n n
def Jo:∀(f g n:Nat),n<=f->n<=g->Db f n=Db g n
 |0,0,n,_,_=>rfl
 |0,g+1,n,h,_=>by
  obtain rfl:n=0:=ae;simp[Db]
 |f+1,0,n,_,h=>by
  obtain rfl:n=0:=ae;simp[Db]
 |f+1,g+1,n,h1,h2=>by
  simp only[Db];split
  ·rfl
  ·rw[Jo f g (n/10) ae ae]
theorem nk {n:Nat}(h:n<10):dC n=[dg n]:=by
 unfold dC;cases n<;>simp[Db,h]
theorem ov {n:Nat}(h:9<n):dC n=dC (n/10)++[dg (n%10)]:=by
 unfold dC;obtain⟨k,rfl⟩:∃k,n=k+1:=⟨n-1,ae⟩
 simp only[Db];rw[aj ae,Jo k ((k+1) /10) _ ae ae]
def eo:∀(k n:Nat),n<10^k->0<k->(dC n).length<=k:=by
 intro k;induction k with
 |zero=>intro n _ h;omega
 |succ k ih=>
  intro n h _;by_cases h10:n<10
  ·rw[nk h10];simp
  ·rw[ov ae];have hk:0<k:=by
    rcases Nat.eq_zero_or_pos k with rfl|h0
    ·simp at h;omega
    ·exact h0
   have:=ih (n/10) (by rw[Nat.pow_succ]at h;omega) hk;simp;omega
theorem BL {n:Nat}(h:n<10):((dg n).toNat:Int)=48+n:=by
 have:(48+n)%256=48+n:=Nat.mod_eq_of_lt ae;simp[dg,this]
def cj (b:Int):au->au->List au
 |[],cur=>[cur]
 |c::r,cur=>if(c.toNat:Int)=b then cur::cj b r []else cj b r (cur++[c])
def ak (s:au)(b:Int):List au:=cj b s []
def ma (s:au)(i:Nat)(h:i<s.length):s.drop i=s.getD i 0::s.drop (i+1):=by
 rw[jD h];simp[h]
def Cz {s:au}{b:Int}{i fr:Nat}(h:i<s.length)(he:at8 s i=b):cj b (s.drop i) ((s.take i).drop fr)=((s.take i).drop fr)::cj b (s.drop (i+1)) ((s.take (i+1)).drop (i+1)):=by
 rw[ma s i h];have h2:(s.take (i+1)).drop (i+1)=[]:=aT;rw[h2];simp only[cj];rw[ax (by simpa[at8]using he)]
def CA {s:au}{b:Int}{i fr:Nat}(h:i<s.length)(hf:fr<=i)(he:¬at8 s i=b):cj b (s.drop i) ((s.take i).drop fr)=cj b (s.drop (i+1)) ((s.take (i+1)).drop fr):=by
 rw[ma s i h,kW s i h,List.drop_append_of_le_length cH];simp only[cj];rw[aj (by simpa[at8]using he)]
def AJ {s:au}{b:Int}{i fr:Nat}(h:s.length<=i):cj b (s.drop i) ((s.take i).drop fr)=[s.drop fr]:=by
 rw[k8 h,ek h];rfl
def tV (b:Int):∀(s cur:au),(cj b s cur).length<=s.length+1
 |[],cur=>by simp[cj]
 |c::r,cur=>by
  simp only[cj];split
  ·have:=tV b r [];simp;omega
  ·have:=tV b r (cur++[c]);simp;omega
theorem dD (s:au)(b:Int):(ak s b).length<=s.length+1:=tV b s []
theorem eR (b:Int)(s cur:au):1<=(cj b s cur).length:=by
 induction s generalizing cur with
 |nil=>simp[cj]
 |cons c r ih=>
  simp only[cj];split
  ·simp
  ·exact ih _
def jM (s:au)(b:Int)(i:Nat):au×au:=match(s.drop i).findIdx? (fun c=>decide ((c.toNat:Int)=b))with
 |some k=>(s.drop (i+k+1),s.take (i+k))
 |none=>([],s)
def e7 (s:au)(b:Int):au×au:=jM s b 0
def Hu {s:au}{b:Int}{i:Nat}(h:i<s.length)(he:at8 s i=b):jM s b i=(s.drop (i+1),s.take i):=by
 unfold jM;rw[ma s i h,List.findIdx?_cons];simp only[at8]at he;rw[ax (by simpa using he)];rfl
def Hv {s:au}{b:Int}{i:Nat}(h:i<s.length)(he:¬at8 s i=b):jM s b i=jM s b (i+1):=by
 unfold jM;rw[ma s i h,List.findIdx?_cons];simp only[at8]at he;simp only[he,decide_false,gS,bc];cases(s.drop (i+1)).findIdx? (fun c=>decide ((c.toNat:Int)=b))with
 |none=>rfl
 |some k=>simp only[Option.map_some];rw[show i+(k+1)=i+1+k by omega]
def ER {s:au}{b:Int}{i:Nat}(h:s.length<=i):jM s b i=([],s):=by
 unfold jM;rw[k8 h];rfl
def nw (c:Int):Bool:=ij c ||bm c ||decide (c=45)
def rS (t:au):Bool:=decide (1<=t.length)&&decide (t.length<=8)&&cV (fun i=>nw (at8 t i)) 0 t.length
def cR (t:au):Bool:=cV (fun i=>bm (at8 t i)) 0 t.length&&decide (0<t.length)
def iz (p:Bool)(t:au):Bool:=rS t&& !(p&&cR t&& !gW t)
def oF (s:au)(p:Bool):Bool:=decide ((ak s 46).length<=4)&&cV (fun i=>iz p (ak s 46)[i]!) 0 (ak s 46).length
def rT (s:au)(p:Bool):Bool:=decide (s=[]) ||oF s p
def pW (n:Int):Bool:=decide (0<=n)&&decide (n<=9999)
def eY (v:cY):Bool:=pW v.major&&pW v.minor&&pW v.patch&&rT v.pre true&&rT v.build false
def sO (v:cY):au:=dC v.major.toNat++[46]++dC v.minor.toNat++[46]++dC v.patch.toNat++(if v.pre=[]then []else 45::v.pre)++(if v.build=[]then []else 43::v.build)
def j3 (v:cY):au:=if eY v=true then sO v else []
def cY.sm (v:cY):Prop:=v.pre.length<=1048576/\v.build.length<=1048576
def Tw (a b:Int):Int:=IntKind.u64.wrap ((BitVec.ofInt 64 a |||BitVec.ofInt 64 b).toNat)
def AX (a b:Int):Int:=IntKind.u64.wrap ((BitVec.ofInt 64 a^^^BitVec.ofInt 64 b).toNat)
def uY (a:Int)(k:Nat):Int:=IntKind.u64.wrap (a*2^k)
def sY (a:Int)(k:Nat):Int:=a.fdiv (2^k)
def W9 (h:Int)(k:Nat):Int:=Tw (uY h k) (sY h (64-k))
def Ko (h:Int)(c:Int):Int:=IntKind.u64.wrap (W9 (AX h c) 13*18397679294719823053)
def wy (s:au):Int:=s.foldl (fun h c=>Ko h c.toNat) 11400714819323198485
def GA (s:au):Int:=AX (wy s) (sY (wy s) 29)
def CH (s:au)(i:Nat)(h:i<s.length):wy (s.take (i+1))=Ko (wy (s.take i)) (at8 s i):=by
 grind [kW,wy,at8]
def JS (n:Int)(i:Nat):Nat:=(BitVec.ofInt 64 (sY n (4*i))&&&15#64).toNat
theorem zV (n:Int)(i:Nat):JS n i<16:=by
 unfold JS;rw[BitVec.toNat_and];exact Nat.lt_of_le_of_lt Nat.and_le_right aG
def Qg (n:Int)(i:Nat):IntKind.u64.wrap ((BitVec.ofInt 64 (sY n (4*i))&&&BitVec.ofInt 64 15).toNat)=(JS n i:Nat):=by
 have h:=zV n i;unfold JS at h⊢;have e:BitVec.ofInt 64 15=15#64:=aG;rw[e,IntKind.wrap_u64];omega
def iG (k:Nat):UInt8:=([48,49,50,51,52,53,54,55,56,57,97,98,99,100,101,102]:au).getD k 0
def ei (n:Int):au:=(List.range 16).map fun j=>iG (JS n (15-j))
theorem gu (n:Int):(ei n).length=16:=by simp[ei]
def I3 (n:Int)(k:Nat)(h:k<16):(ei n).take (k+1)=(ei n).take k++[([48,49,50,51,52,53,54,55,56,57,97,98,99,100,101,102]:au).getD (JS n (15-k)) 0]:=by
 grind [kW,gu,ei,iG]
def S9 (k:Nat)(h:k<10):((iG k).toNat:Int)=48+k:=by
 have:∀k:Fin 10,((iG k.1).toNat:Int)=48+k.1:=aG
 exact this ⟨k,h⟩
def S6 (k:Nat)(h:10<=k)(h2:k<16):((iG k).toNat:Int)=87+k:=by
 have:∀k:Fin 16,10<=k.1->((iG k.1).toNat:Int)=87+k.1:=aG
 exact this ⟨k,h2⟩ h
def va (n:Int)(i:Nat):au:=List.replicate (16-i) 0++(ei n).drop (16-i)
theorem sB (n:Int)(i:Nat):(va n i).length=16:=by simp[va,gu]
def Oa (n:Int):va n 16=ei n:=by simp[va]
def Ob (n:Int)(i:Nat)(h:i<16):va n (i+1)=(va n i).set (15-i) (iG (JS n i)):=by
 apply List.ext_getElem
 ·simp[sB]
 grind [sB,va,ei]
def nU (c:Int):Bool:=bm c ||(decide (97<=c)&&decide (c<=102))
def HP (c:Int):Int:=if bm c=true then c-48 else c-87
def rI (n c:Int):Int:=Tw (uY n 4) (HP c)
def qu (s:au):Int:=s.foldl (fun n c=>rI n c.toNat) 0
def Au (s:au)(i:Nat)(h:i<s.length):qu (s.take (i+1))=rI (qu (s.take i)) (at8 s i):=by
 grind [kW,qu,at8]
def kN (s:au):Bool:=decide (s.length=16)&&cV (fun i=>nU (at8 s i)) 0 s.length
def n6 (s:au):Int:=if kN s=true then qu s else 0
def Env.at (e:Env):Nat->au
 |0=>e.e0
 |1=>e.e1
 |_=>e.e2
def Env.ld (e:Env){i:Nat}(h:i<3):oo (Env.D e) 3 1 (0+i*1) false=.str (e.at i):=by
 match i,h with
 |0,_=>rfl
 |1,_=>rfl
 |2,_=>rfl
def Et.ld (l:Et){i:Nat}(h:i<3):oo (Et.D l) 4 1 (0+i*1) false=.str (l.env.at i):=by
 match i,h with
 |0,_=>rfl
 |1,_=>rfl
 |2,_=>rfl
def Env.cut (e:Env){i:Nat}(h:i<3):Abs.cut [.str e.e0,.str e.e1,.str e.e2] (i*1) 1 false=.str (e.at i):=by
 match i,h with
 |0,_=>rfl
 |1,_=>rfl
 |2,_=>rfl
def vl.sm (x:vl):Prop:=x.v.sm/\x.name.length<=1048576/\x.shelf.length<=1048576/\x.feats.length<=1048576/\∀t∈x.feats,t.length<=1048576
def Et.sm (l:Et):Prop:=l.lines.length<=1048576/\(∀x∈l.lines,x.sm)/\∀i,(l.env.at i).length<=1048576
theorem bA {α:Type} [Inhabited α]{l:List α}{i:Nat}(h:i<l.length):l[i]! ∈l:=by
 simp[h]
structure Kp where
 name:au
 v:cY
 deriving Inhabited,DecidableEq
def Kp.D (x:Kp):D:=.agg [.str x.name,.int .i64 x.v.major,.int .i64 x.v.minor,.int .i64 x.v.patch,.str x.v.pre,.str x.v.build]
def Ru {α:Type} [Inhabited α] [DecidableEq α]{a b:List α}(h:a.length=b.length):decide (a=b)=cV (fun i=>decide (a[i]! =b[i]!)) 0 a.length:=by
 rw[Bool.eq_iff_iff,aW,eD];constructor
 ·rintro rfl j _ _;simp
 ·intro hj;apply List.ext_getElem h
  grind
def vl.same {a b:vl}(e1:a.name=b.name)(e2:a.v=b.v)(e3:a.shelf=b.shelf)(e4:a.sum=b.sum)(e5:a.feats.length=b.feats.length):decide (a=b)=cV (fun i=>decide (a.feats[i]! =b.feats[i]!)) 0 a.feats.length:=by
 rw[<-Ru e5];obtain⟨a1,a2,a3,a4,a5⟩:=a;obtain⟨b1,b2,b3,b4,b5⟩:=b
 grind
def aP (b:au):List au->au
 |[]=>[]
 |[t]=>t
 |t::u::r=>t++b++aP b (u::r)
theorem gD (b t:au)(r:List au)(h:r≠[]):aP b (t::r)=t++b++aP b r:=by
 cases r with
 |nil=>exact absurd rfl h
 |cons u r=>rfl
def qX {α:Type}(q:α->au)(B:Nat):∀l:List α,(∀x∈l,(q x).length<=B)->((l.map q).flatten).length<=l.length*B
 |[],_=>aT
 |a::r,h=>by
  have h1:=h a (.head _);have h2:=qX q B r fun x hx=>h x (.tail _ hx)
  simp only[List.map_cons,List.flatten_cons,bG,ay,Nat.succ_mul];omega
def AQ (v:cY)(h:v.sm):(j3 v).length<=2097200:=by
 unfold j3;split
 ·rename_i hv;simp only[eY,bw]at hv;obtain⟨⟨⟨⟨hv1,hv2⟩,hv3⟩,_⟩,_⟩:=hv;simp only[pW,bw,aW]at hv1 hv2 hv3;have hl1:=eo 4 v.major.toNat ae ae;have hl2:=eo 4 v.minor.toNat ae ae;have hl3:=eo 4 v.patch.toNat ae ae;obtain⟨h1,h2⟩:=h
  grind [sO]
 ·simp
def Env.sm (e:Env):Prop:=∀i,(e.at i).length<=1048576
end Go.Abs
section
namespace Go.Abs
def WO (v n:Int):Int:=if n<1 then 0 else if v.tmod n<0 then v.tmod n+n else v.tmod n
def I6 (v n:Int)(h:1<=n):-n<v.tmod n/\v.tmod n<n:=⟨Int.lt_tmod_of_pos v ae,Int.tmod_lt_of_pos v ae⟩
def atI (l:List Int)(i:Int):Int:=if i<0\/(l.length:Int)<=i then i.tmod 3 else l[i.toNat]!
structure Gs where
 l:List Int
 i:Int
 deriving Inhabited
def Gs.D (g:Gs):D:=.agg [.sl 1 (g.l.map (D.int .i64)),.int .i64 g.i]
def Gs.val (g:Gs)(n:Int):Int:=WO (atI g.l g.i) n
def Gs.A5 (g:Gs):Gs:=⟨g.l,g.i+1⟩
def ic (s:au)(b:UInt8):au×au×Bool:=match s.findIdx? (fun c=>c==b)with
 |some k=>(s.take k,s.drop (k+1),true)
 |none=>(s,[],false)
def cE (s p:au):au×Bool:=if p.isPrefixOf s=true then(s.drop p.length,true)else(s,false)
def Pj (s:au)(b:UInt8):(ic s b).1.length<=s.length/\((ic s b).2.2=true->(ic s b).1.length+1<=s.length):=by
 unfold ic;split
 ·rename_i k h;have:=List.findIdx?_eq_some_iff_findIdx_eq.1 h;simp only[fj];omega
 ·simp
structure Uo where
 s:au
 at':Nat
 n:Nat
def Uo.D (r:Uo):D:=.agg [.str r.s,.int .i64 (r.at':Nat),.int .i64 (r.n:Nat)]
def Uo.ln (r:Uo):au×au×Bool:=ic (r.s.drop r.at') 10
def Uo.A5 (r:Uo):Uo:=⟨r.s,if r.ln.2.2=true then r.at'+(r.ln.1.length+1)else r.at',r.n+1⟩
def lj:cY:=⟨0,0,0,[],[]⟩
def pJ (s:au):Option cY:=
 let a:=e7 s 43
 let b:=e7 a.2 45
 let l:=ak b.2 46
 if l.length=3/\gW l[0]! =true/\gW l[1]! =true/\gW l[2]! =true then
  let v:cY:=⟨eV l[0]!,eV l[1]!,eV l[2]!,b.1,a.1⟩
  if eY v=true/\j3 v=s then some v else none
 else none
def Na (l:List au)(i:Nat):D:=.agg [.int .i64 (if 0<i then eV l[0]! else 0),.int .i64 (if 1<i then eV l[1]! else 0),.int .i64 (if 2<i then eV l[2]! else 0)]
def FG (l:List au)(i:Nat)(h:i<3):tZ (Na l i) 3 1 (0+i*1) (.int .i64 (eV l[i]!))=Na l (i+1):=by
 match i,h with
 |0,_=>rfl
 |1,_=>rfl
 |2,_=>rfl
def ou (s:au)(b:Int):(e7 s b).1.length<=s.length/\(e7 s b).2.length<=s.length:=by
 grind [e7,jM]
def tW (b:Int):∀(s cur:au),∀t∈cj b s cur,t.length<=cur.length+s.length
 |[],cur,t,h=>by simp only[cj,cN]at h;subst h;simp
 |c::r,cur,t,h=>by
  simp only[cj]at h;split at h
  ·rcases bV.1 h with rfl|h
   ·simp
   ·have:=tW b r [] t h;simp at this⊢;omega
  ·have:=tW b r (cur++[c]) t h;simp at this⊢;omega
def eH (s:au)(b:Int){t:au}(h:t∈ak s b):t.length<=s.length:=by
 have:=tW b s [] t h;simpa using this
theorem qf (s:au)(b:Int){i:Nat}(h:i<(ak s b).length):((ak s b)[i]!).length<=s.length:=eH s b (bA h)
end Go.Abs
namespace Go.Abs
def Br (s:au):Int:=if(pJ s).isSome=true then 0 else 5
end Go.Abs
namespace Go.Abs
end Go.Abs
namespace Go.Abs
def TU {s:au}(h:s.length<=1048576):((pJ s).getD lj).sm:=by
 have h0:lj.sm:=⟨by simp[lj],by simp[lj]⟩;cases hq:pJ s with
 |none=>exact h0
 |some v=>
  simp only[Option.getD_some];simp only[pJ]at hq;split at hq
  ·split at hq
   ·obtain rfl:=b9 hq;have h1:=ou s 43;have h2:=ou (e7 s 43).2 45;exact⟨by simp only;omega,by simp only;omega⟩
   ·cases hq
  ·cases hq
end Go.Abs
namespace Go.Abs
def HD (s p:au):(cE s p).1.length<=s.length:=by
 unfold cE;split<;>simp
end Go.Abs
namespace Go.Abs
variable {e:Env} {f:Nat} {r:Uo} {ls:List vl}
end Go.Abs
namespace Go.Abs
end Go.Abs
end
namespace Go.Abs
section
section
variable {Y:Ctx} {draw:Bool} {r:List GI} {env rs:List bR} {nx:Nat} {m:List (Nat×bO)} {K:List bR->St->Prop} {g:Option (Nat×Bool)} {f:Bool}
def cy {n:Nat}{args:List Src}{ak4:List D}{v:D}{nx':Nat}{m':List (Nat×bO)}(h:aI Y draw r env (⟨true,v⟩::rs) nx' m' K)
  (hc:∀K':D->St->Prop,K' v ⟨nx'+rs.length,m'⟩->Y.tr n ak4 ⟨nx+rs.length,m⟩ K') (hn:nx<=nx') (ha:iX (cB env rs) args=ak4:=by exact rfl)
  (ho:xb (cB env rs) args:=by repeat' first|exact trivial|exact rfl|refine And.intro ?_ ?_):aI Y draw (⟨.callM n args,none⟩::r) env rs nx m K:=by
 unfold aI;show True/\(true=true->xb (Src.ev env rs.reverse) args/\Y.tr n (iX (Src.ev env rs.reverse) args) {nx:=nx+rs.reverse.length,m:=m} _)/\(true=false->_)
 grind [nn,aI]
def W6 {l k i0 n:Nat}{x y z:Src}{fx fy fz:Bool}{kh km:IntKind}{h' m':Int}(j:Nat)(h:aI Y draw r env (⟨f,.own l k i0 j⟩::rs) nx m K)(hg:GF rs g f:=by exact df)(hx:cB env rs x=⟨fx,.own l k i0 n⟩:=by exact rfl)(hy:cB env rs y=⟨fy,.int kh h'⟩:=by exact rfl)(hz:cB env rs z=⟨fz,.int km m'⟩:=by exact rfl)
  (kx:f=true->fx=true:=by exact bW) (ky:f=true->fy=true:=by exact bW) (kz:f=true->fz=true:=by exact bW)
  (hj:f=true->h'=(j:Int)) (hb:f=true->(j:Int)<=m'/\m'<=(n:Int)):aI Y draw (⟨.slX k x y z,g⟩::r) env rs nx m K:=
 bN rfl hg _ (fun hf=>by have h1:=hj hf;have h2:=hb hf;simp only[aN.dZ,hx,hy,hz];exact⟨kx hf,ky hf,kz hf,ae,ae,trivial,h2.2⟩) (fun hf=>by simp only[aN.val,hx,hy];rw[hj hf,Int.toNat_natCast]) (fun _=>h)
def W5 {α:Type}{q:α->D}{s:List α}{k:Nat}{x y z:Src}{fx fy fz:Bool}{kh km:IntKind}{h' m':Int}(j:Nat)(h:aI Y draw r env (⟨f,.sl k ((s.take j).map q)⟩::rs) nx m K)(hg:GF rs g f:=by exact df)(hx:cB env rs x=⟨fx,.sl k (s.map q)⟩:=by exact rfl)(hy:cB env rs y=⟨fy,.int kh h'⟩:=by exact rfl)(hz:cB env rs z=⟨fz,.int km m'⟩:=by exact rfl)
  (kx:f=true->fx=true:=by exact bW) (ky:f=true->fy=true:=by exact bW) (kz:f=true->fz=true:=by exact bW)
  (hj:f=true->h'=(j:Int)) (hb:f=true->(j:Int)<=m'/\m'<=(s.length:Int)):aI Y draw (⟨.slX k x y z,g⟩::r) env rs nx m K:=
 bN rfl hg _ (fun hf=>by have h1:=hj hf;have h2:=hb hf;simp only[aN.dZ,hx,hy,hz,bP];exact⟨kx hf,ky hf,kz hf,ae,ae,trivial,h2.2⟩) (fun hf=>by simp only[aN.val,hx,hy];rw[hj hf,Int.toNat_natCast,List.map_take]) (fun _=>h)
def gA {n:Nat}{args:List Src}{ak4:List D}{ι:Type}(P:ι->Prop)(V:ι->D)(nx':Nat)(M:ι->List (Nat×bO))(h:∀i,P i->aI Y draw r env (⟨true,V i⟩::rs) nx' (M i) K)
  (hc:∀K':D->St->Prop,(∀i,P i->K' (V i) ⟨nx'+rs.length,M i⟩)->Y.tr n ak4 ⟨nx+rs.length,m⟩ K') (hn:nx<=nx') (ha:iX (cB env rs) args=ak4:=by exact rfl)
  (ho:xb (cB env rs) args:=by repeat' first|exact trivial|exact rfl|refine And.intro ?_ ?_):aI Y draw (⟨.callM n args,none⟩::r) env rs nx m K:=by
 unfold aI;show True/\(true=true->xb (Src.ev env rs.reverse) args/\Y.tr n (iX (Src.ev env rs.reverse) args) {nx:=nx+rs.reverse.length,m:=m} _)/\(true=false->_)
 grind [nn,aI]
def Cn {n j:Nat}{w:Bool}{args:List Src}{ak4:List D}{ι:Type}(P:ι->Prop)(V:ι->D)(nx':Nat)(M:ι->List (Nat×bO))(h:∀i,P i->aI Y draw r env (⟨true,V i⟩::rs) nx' (M i) K)(hg:GF rs (some (j,w)) true:=by exact⟨_,_,rfl,rfl⟩)
  (hc:∀K':D->St->Prop,(∀i,P i->K' (V i) ⟨nx'+rs.length,M i⟩)->Y.tr n ak4 ⟨nx+rs.length,m⟩ K') (hn:nx<=nx') (ha:iX (cB env rs) args=ak4:=by exact rfl)
  (ho:xb (cB env rs) args:=by repeat' first|exact trivial|exact rfl|refine And.intro ?_ ?_):aI Y draw (⟨.callM n args,some (j,w)⟩::r) env rs nx m K:=by
 unfold aI;show Be rs.reverse (some (j,w))/\(flag rs.reverse (some (j,w))=true->xb (Src.ev env rs.reverse) args/\Y.tr n (iX (Src.ev env rs.reverse) args) {nx:=nx+rs.reverse.length,m:=m} _)/\(flag rs.reverse (some (j,w))=false->_);obtain⟨hg1,hg2⟩:=hg.flag
 grind [nn,aI]
def J5 {n j:Nat}{w:Bool}{args:List Src}(h:aI Y draw r env (⟨false,.any⟩::rs) nx m K)(hg:GF rs (some (j,w)) false:=by exact⟨_,_,rfl,rfl⟩):aI Y draw (⟨.callM n args,some (j,w)⟩::r) env rs nx m K:=by
 unfold aI;show Be rs.reverse (some (j,w))/\(flag rs.reverse (some (j,w))=true->_)/\(flag rs.reverse (some (j,w))=false->_);obtain⟨hg1,hg2⟩:=hg.flag
 grind [aI]
def QV {c a:Src}{fc t:Bool}(h:aI Y draw r env (⟨f,.bool false⟩::rs) nx m K)(hg:GF rs g f:=by exact df)(hc:cB env rs c=⟨fc,.bool t⟩:=by exact rfl)(kc:f=true->fc=true:=by exact fun _=>rfl)(ht:t=false:=by exact rfl):aI Y draw (⟨.pick c a (.c (.bool false)),g⟩::r) env rs nx m K:=by
 subst ht;refine bN rfl hg _ (fun hf=>?_) (fun hf=>?_) (fun _=>h)
 ·simp only[aN.dZ,hc];exact⟨kc hf,⟨fun h=>absurd h aT,fun _=>rfl⟩⟩
 ·simp only[aN.val,hc];have:cB env rs (.c (.bool false))=⟨true,.bool false⟩:=rfl;rw[this];cases(cB env rs a).d<;>rfl
def nH {n:Nat}{x:Src}{caps:List D}{args:List Src}{ak4:List D}{ι:Type}(P:ι->Prop)(V:ι->D)(nx':Nat)(M:ι->List (Nat×bO))(h:∀i,P i->aI Y draw r env (⟨true,V i⟩::rs) nx' (M i) K)
  (hc:∀K':D->St->Prop,(∀i,P i->K' (V i) ⟨nx'+rs.length,M i⟩)->Y.tr (C5 n) ak4 ⟨nx+rs.length,m⟩ K') (hn:nx<=nx') (hx:cB env rs x=⟨true,.fn n caps⟩:=by exact rfl) (ha:A7 n (iX (cB env rs) args) caps=ak4:=by exact rfl)
  (ho:xb (cB env rs) args:=by repeat' first|exact trivial|exact rfl|refine And.intro ?_ ?_):aI Y draw (⟨.callvM x args,none⟩::r) env rs nx m K:=by
 unfold aI;show PL rs.reverse (.callvM x args) none/\(Src.ev env rs.reverse x).ok=true/\xb (Src.ev env rs.reverse) args/\match(Src.ev env rs.reverse x).d with
   | .fn n caps=>Y.tr (C5 n) (A7 n (iX (Src.ev env rs.reverse) args) caps) {nx:=nx+rs.reverse.length,m:=m} _
   |_=>False
 rw[nn,List.length_reverse];simp only[hx,ha];refine⟨trivial,trivial,ho,hc _ fun i hi=>⟨by show nx+rs.length<=nx'+rs.length;omega, ?_⟩⟩
 grind [aI]
def Q0 {x:Src}{fx:Bool}{α:Type} [Inhabited α]{n k i o:Nat}{ag:Bool}{q:α->D}{xs:List α}(v:D)(h:aI Y draw r env (⟨f,v⟩::rs) nx m K)(hg:GF rs g f:=by exact df)(hx:cB env rs x=⟨fx,.ref k (xs.map q) i o⟩:=by exact rfl)(kx:f=true->fx=true:=by exact bW)(hi:f=true->i<xs.length:=by exact ue)(hv:f=true->oo (q xs[i]!) k n o ag=v:=by exact fun _=>rfl)(ho:o+n<=k:=by omega):aI Y draw (⟨.ldU n ag x,g⟩::r) env rs nx m K:=
 ik rfl hg _ (fun hf=>by simp only[aN.dZ,hx,FA,bP];exact⟨kx hf,hi hf,ho⟩) (fun hf=>by simp only[aN.val,hx,Ez];rw[getD_map (hi hf)];exact hv hf) m rfl (fun ha=>h)
def QZ {x:Src}{fx:Bool}{n l k o:Nat}{ag:Bool}{d:D}(v:D)(h:aI Y draw r env (⟨f,v⟩::rs) nx m K)(hg:GF rs g f:=by exact df)(hx:cB env rs x=⟨fx,.ptr l k 0 o⟩:=by exact rfl)(kx:f=true->fx=true:=by exact bW)(hl:f=true->look m l=some (.buf k [d]):=by exact fun _=>rfl)(hv:f=true->oo d k n o ag=v:=by exact fun _=>rfl)(ho:o+n<=k:=by omega)(hd:f=true->d.bC=false:=by exact fun _=>rfl):aI Y draw (⟨.ldU n ag x,g⟩::r) env rs nx m K:=
 ik rfl hg _ (fun hf=>by simp only[aN.dZ,hx,FA,fJ,hl hf];exact⟨kx hf,⟨⟨trivial,aT⟩,ho⟩,by simp only[bp,hl hf,bB,hd hf];rfl⟩) (fun hf=>by simp only[aN.val,hx,Ez,bp,hl hf,jE];exact hv hf) m rfl (fun ha=>h)
end
end
end Go.Abs
section
namespace Go.Abs
def Wz:List au->D
 |[]=>.aC
 |a::r=>.sl 1 ((a::r).map D.str)
def Cg:∀l,(Wz l).bC=true
 |[]=>rfl
 |a::r=>rfl
def vl.N (x:vl):Go.Abs.D:=.agg [.str x.name,.int .i64 x.v.major,.int .i64 x.v.minor,.int .i64 x.v.patch,.str x.v.pre,.str x.v.build,.str x.shelf,.int .u64 x.sum,Wz x.feats]
def vl.pN (x:vl):x.N.bC=true:=by
 have:=Cg x.feats;simp only[vl.N,D.bC,bB,this,oS]
end Go.Abs
namespace Go.Abs
def vl.F (name:au)(v:cY)(shelf:au)(sum:Int)(fs:Go.Abs.D):Go.Abs.D:=.agg [.str name,.int .i64 v.major,.int .i64 v.minor,.int .i64 v.patch,.str v.pre,.str v.build,.str shelf,.int .u64 sum,fs]
mutual
theorem Wh (l k:Nat)(es:List D):∀d:D,d.bC=true->kj l k es d=d
 | .agg a,h=>by simp only[kj,zz l k es a (by simpa[D.bC]using h)]
 | .tup a,h=>by simp only[kj,zz l k es a (by simpa[D.bC]using h)]
 | .fn n a,h=>by simp only[kj,zz l k es a (by simpa[D.bC]using h)]
 | .own ..,h=>by simp[D.bC]at h
 | .ptr ..,h=>by simp[D.bC]at h
 | .it ..,h=>by simp[D.bC]at h
 | .any,_| .bool _,_| .int ..,_| .str _,_| .aC,_| .sl ..,_| .ref ..,_| .nilp,_| .nilf,_=>rfl
theorem zz (l k:Nat)(es:List D):∀ds:List D,bB ds=true->m5 l k es ds=ds
 |[],_=>rfl
 |d::r,h=>by
  simp only[bB,bw]at h;simp only[m5,Wh l k es d h.1,zz l k es r h.2]
end
end Go.Abs
namespace Go.Abs
end Go.Abs
namespace Go.Abs
end Go.Abs
namespace Go.Abs
end Go.Abs
namespace Go.Abs
end Go.Abs
namespace Go.Abs
end Go.Abs
end
section
namespace Go.Abs
end Go.Abs
namespace Go.Abs
def Kp.eq (a b:Kp):iZ (Kp.D a).cells (Kp.D b).cells=decide (a=b):=by
 obtain⟨n1,⟨a1,a2,a3,a4,a5⟩⟩:=a;obtain⟨n2,⟨b1,b2,b3,b4,b5⟩⟩:=b
 grind [Kp.D,D.cells,iZ,uC,xY]
structure vl.ok (n:Nat)(x:vl):Prop where
 pre:x.v.pre.length<=3
 build:x.v.build.length<=2
 name:x.name.length<=16
 shelf:x.shelf.length<=16
 nf:x.feats.length<=n
 ft:∀t∈x.feats,t.length<=16
 sum:0<=x.sum/\x.sum<18446744073709551616
structure Et.ok (n:Nat)(l:Et):Prop where
 len:l.lines.length<=4
 lines:∀x∈l.lines,x.ok n
 env:∀i,(l.env.at i).length<=16
def Et.ok.sm {n:Nat}{l:Et}(h:l.ok n)(hn:n<=1000):l.sm:=by
 refine⟨by have:=h.len;omega,fun x hx=>?_,fun i=>by have:=h.env i;omega⟩;have k:=h.lines x hx;have k1:=k.pre;have k2:=k.build;have k3:=k.name;have k4:=k.shelf;have k5:=k.nf;exact⟨⟨ae,ae⟩,ae,ae,ae,fun t ht=>by have:=k.ft t ht;omega⟩
def vl.ok.mono {n m:Nat}{x:vl}(h:x.ok n)(hm:n<=m):x.ok m:=⟨h.pre,h.build,h.name,h.shelf,c9 h.nf hm,h.ft,h.sum⟩
end Go.Abs
end
namespace Go.Abs
section
def lk {α:Type}:List (Nat×α)->Nat->α->α
 |[],_,d=>d
 |(a,b)::r,n,d=>bif Nat.beq a n then b else lk r n d
structure Row where
 key:Nat
 pre:List D->Prop
 val:List D->D
structure RowF where
 pre:D->List D->Prop
 val:D->List D->D
 new:D->List D->D
def Row.no:Row:=⟨0,fun _=>False,fun _=>.any⟩
def RowF.no:RowF:=⟨fun _ _=>False,fun _ _=>.any,fun _ _=>.any⟩
section
variable [dz] {P:Program} {ν:List (Nat×Nat)} {cP:List Nat} {Y:Ctx}
end
end
section
variable [dz]
section
variable {P:Program} {ν:List (Nat×Nat)} {cP:List Nat} {Y:Ctx}
def RD.re {x x':X}{σ:List (Nat×Nat)}(hw:x'.w=x.w)(hI:x'.I=x.I)(hβ:∀l l',oD 0 σ l=some l'->x'.β l'=x.β l){v:Value}{d d':D}(hv:RD ν x v d)(hd:R3 0 σ d d'):RD ν x' v d':=by
 rcases hd with⟨rfl,hn⟩|hd|hd
 ·exact hv.bC hn (fun _ h=>by rw[hI];exact h) (fun _ _=>by rw[hw])
 ·grind [RD.rn]
 grind [RD.nl]
def oJ.re {x x':X}{σ:List (Nat×Nat)}(hw:x'.w=x.w)(hI:x'.I=x.I)(hβ:∀l l',oD 0 σ l=some l'->x'.β l'=x.β l){b base tot:Nat}{b0 blk:bO}(o2:oJ ν x b base tot b0)(q3:sR 0 σ b0 blk):oJ ν x' b base tot blk:=by
 cases b0 with
 |iter s p=>
  cases blk with
  |iter s' p'=>simp only[sR]at q3;obtain⟨rfl,rfl⟩:=q3;simp only[oJ,hw]at o2⊢;exact o2
  |_=>simp[sR]at q3
 |row s=>
  cases blk with
  |row s'=>simp only[sR]at q3;subst q3;simp only[oJ,hw]at o2⊢;exact o2
  |_=>simp[sR]at q3
 |bld o n u=>
  cases blk with
  |bld o' n' u'=>
   simp only[sR]at q3;obtain⟨q3,rfl,rfl⟩:=q3;obtain⟨p1,v,p2,p3⟩:=o2;refine⟨p1,v,by rw[hw];exact p2, ?_⟩;cases o with
   |none=>simp only at q3;subst q3;exact p3
   |some l0=>
    obtain⟨l1,q4,rfl⟩:=q3;obtain⟨g,t,p4,p5,p6⟩:=p3;exact⟨g,t,p4,p5,by rw[hβ l0 l1 q4];exact p6⟩
  |_=>simp[sR]at q3
 |buf k es=>
  cases blk with
  |iter s' p'=>simp[sR]at q3
  |row s'=>simp[sR]at q3
  |bld o' n' u'=>simp[sR]at q3
  |buf k' es'=>
   simp only[sR]at q3;obtain⟨rfl,q3⟩:=q3;obtain⟨p1,p2,cc,T,fr,p3,p4,p5,p6⟩:=o2;rw[<-hw]at p3;rcases q3 with⟨rfl,hn⟩|q3|q3
   ·exact⟨p1,p2,cc,T,fr,p3,p4,p5,fun i hi=>⟨(p6 i hi).1,fun j hj=>⟨((p6 i hi).2 j hj).1,RD.re hw hI hβ ((p6 i hi).2 j hj).2 (.inl ⟨rfl,lN (dw hn i) j⟩)⟩⟩⟩
   ·obtain⟨r1,r2⟩:=mC q3;refine⟨p1,ae,cc,T,fr,p3,p4,p5,fun i hi=>?_⟩;have hi':i<es.length:=ae;obtain⟨s1,s2⟩:=Cu (r2 i hi');exact⟨s1.trans (p6 i hi').1,fun j hj=>⟨((p6 i hi').2 j hj).1,RD.re hw hI hβ ((p6 i hi').2 j hj).2 (.inr (.inl (s2 j (by rw[(p6 i hi').1];exact hj))))⟩⟩
   ·obtain⟨r1,r2⟩:=qH q3;refine⟨p1,ae,cc,T,fr,p3,p4,p5,fun i hi=>?_⟩;have hi':i<es.length:=ae;obtain⟨s1,s2⟩:=Bx (r2 i hi');exact⟨s1.trans (p6 i hi').1,fun j hj=>⟨((p6 i hi').2 j hj).1,RD.re hw hI hβ ((p6 i hi').2 j hj).2 (.inr (.inr (s2 j (by rw[(p6 i hi').1];exact hj))))⟩⟩
def Kg {lo c:Nat}{σ:List (Nat×Nat)}{l l':Nat}(h0:iU 0 c σ=true)(h:oD 0 σ l=some l'):l'<c/\(l,l')∈σ:=by
 obtain⟨h1,h2⟩:=uX h0 h
 grind
def uQ {c:Nat}:∀{σ:List (Nat×Nat)}{a b:Nat},iU 0 c σ=true->(a,b)∈σ->oD 0 σ a=some b
 |[],a,b,_,h=>by cases h
 |(a0,b0)::r,a,b,h0,h=>by
  unfold oD;simp only[iU,bw,List.all_eq_true,bE]at h0;obtain⟨_,_,p4,p5⟩:=h0;rcases bV.1 h with h|h
  ·simp only[ep]at h;obtain⟨rfl,rfl⟩:=h;simp
  ·have:=(p4 _ h).1;simp only at this;have hne:Nat.beq a0 a=false:=by
    cases hb:Nat.beq a0 a with
    |false=>rfl
    |true=>obtain rfl:=Nat.eq_of_beq_eq_true hb;simp at this
   rw[hne];exact uQ p5 h
structure Fr (σi σo:List (Nat×Nat))(q q1:Nat)(m0 m1:List (Nat×bO))(st st':St):Prop where
 oki:iU 0 q σi=true
 oko:iU 0 st'.nx σo=true
 nx:st.nx<=st'.nx
 lt:∀l i,(l,i)∈σi->look st.m l≠none
 io:∀i l,(i,l)∈σo->(l,i)∈σi\/st.nx<=l
 m0:∀i b,look m0 i=some b->∃l b',(l,i)∈σi/\look st.m l=some b'/\sR 0 σi b' b
 m1:∀l b,look st'.m l=some b->(∃i b1,(i,l)∈σo/\look m1 i=some b1/\sR 0 σo b1 b)\/(nr σo l=none/\(∀i,(l,i)∉σi)/\look st.m l=some b)
def SO {fid:Nat}{fn:Func}{af:aF}{K:D->St->Prop}(hΓ:Ok P ν cP Y)(hmix:P.follows .mixedOrders=true)(hf:P.funcs[fid]? =some fn)(hc:compile P ν cP fn=some af)
  {x:X} {args:Array Value} {ds cs:List D} {st:St} {σi:List (Nat×Nat)} {q:Nat} {m0:List (Nat×bO)} (hl:args.size=ds.length) (hargs:∀i,i<ds.length->RD ν x (args.getD i undef) (ds.getD i .any))
  (hs:fW ν x (look st.m)) (hfr:fU st x) (hlen:cs.length=ds.length) (hds:∀i,i<ds.length->R3 0 σi (ds.getD i .any) (cs.getD i .any)) (hnp:cs.length=af.np)
  (oki:iU 0 q σi=true) (hlt:∀l i,(l,i)∈σi->look st.m l≠none) (hm0:∀i b,look m0 i=some b->∃l b',(l,i)∈σi/\look st.m l=some b'/\sR 0 σi b' b)
  (hw:bH (Y.at q) af.body (fun e env st1=>e.home/\qD st1.m env af.res/\∃(σo:List (Nat×Nat)) (q1:Nat) (m1:List (Nat×bO)) (st':St) (vd':D),Fr σi σo q q1 m0 m1 st st'/\R3 0 σo (lU af env st1) vd'/\K vd' st'/\∀i,look st1.m i=look m1 i) (gw af cs) ⟨q,m0⟩):
  Calls P fid args x.w fun
   | .returned v,w'=>∃x' d st',K d st'/\x'.w=w'/\Step x x'/\RD ν x' v d/\fW ν x' (look st'.m)/\fU st' x'
   |_,_=>False:=by
 obtain⟨body,c1,c2,c3,c4,c5,c6⟩:=jj hc
 let x0:X:=⟨x.w,x.I,fun i=>(nr σi i).bind x.β⟩
 have hx0:∀l i,(l,i)∈σi->x0.β i=x.β l:=fun l i h=>by simp only[x0,ya oki h,Option.bind_some]
 have hβ0:∀l i,oD 0 σi l=some i->x0.β i=x.β l:=fun l i h=>hx0 l i (Kg (lo:=0) oki h).2
 have hx0':∀i p,x0.β i=some p->∃l,(l,i)∈σi/\x.β l=some p/\i<q:=by
  intro i p h;obtain⟨l,h1,h2⟩:=Option.bind_eq_some_iff.1 (show(nr σi i).bind x.β=some p from h);exact⟨l,mr h1,h2,rY oki (mr h1)⟩
 have hs0:fW ν x0 (look m0):=by
  refine⟨fun i blk b base tot e1 e2=>?_,fun i j b base tot base' tot' e1 e2 e3 e4=>?_,hs.imm,fun i b base tot e=>?_,dz.le x _ (fun _ h=>h) (fun _ _=>rfl) hs.gd⟩
  ·obtain⟨l,b',h1,h2,h3⟩:=hm0 i blk e1;rw[hx0 l i h1]at e2;obtain⟨o1,o2⟩:=hs.own l b' b base tot h2 e2;exact⟨o1,oJ.re (x:=x) (x':=x0) rfl rfl hβ0 o2 h3⟩
  ·obtain⟨l,h1,h2,_⟩:=hx0' i _ e3;obtain⟨l',h1',h2',_⟩:=hx0' j _ e4;have:=hs.inj l l' b base tot base' tot' (hlt _ _ h1) (hlt _ _ h1') h2 h2';subst this;have:=uQ oki h1;rw[uQ oki h1']at this;exact(b9 this).symm
  ·obtain⟨l,_,h2,_⟩:=hx0' i _ e;exact hs.eJ l b base tot h2
 have hf0:fU ⟨q,m0⟩ x0:=by
  refine⟨fun i hi=>?_,fun i hi=>?_⟩
  ·cases h:x0.β i with
   |none=>rfl
   |some p=>obtain⟨_,_,_,h4⟩:=hx0' i p h;simp only at hi;omega
  ·cases h:look m0 i with
   |none=>exact absurd h hi
   |some b=>obtain⟨l,b',h1,_⟩:=hm0 i b h;exact rY oki h1
 have hi:=wv (P:=P) (ν:=ν) (cP:=cP) (x:=x0) (ds:=cs) (st:=⟨q,m0⟩) c4 c5 c6 (args:=args) ae hnp (fun i hi=>RD.re (x:=x) (x':=x0) rfl rfl hβ0 (hargs i ae) (hds i ae)) hs0 hf0;have hcs:=tl (C:={P,ν,cP,slots:=slotsOf fn,ntmps:=fn.ntmps,vm:=Od P fn}) (hΓ.at q) (oE fn).1 hmix x0 (fun l h=>hf0.β l h) body af.body c2 _ _ _ _ x0 hw hi (.refl _);refine calls_of_wp hf c1 (wp_mono hcs fun e a w' hp=>?_);obtain⟨e',x',env',st1,he,hxw,hst,hi',hh,hro,σo,q1,m1,st',vd',hfm,hvd,hK,hlk⟩:=hp;subst hxw;obtain⟨v,r1,r2,r3⟩:=rL hi' c3 hro
 let x2:X:=⟨x'.w,x'.I,fun l=>match nr σo l with|some i=>x'.β i|none=>x.β l⟩
 have hx2:∀i l,(i,l)∈σo->x2.β l=x'.β i:=fun i l h=>by simp only[x2,ya hfm.oko h]
 have hx2n:∀l,nr σo l=none->x2.β l=x.β l:=fun l h=>by simp only[x2,h]
 have hβ2:∀i l,oD 0 σo i=some l->x2.β l=x'.β i:=fun i l h=>hx2 i l (Kg (lo:=0) hfm.oko h).2
 have hx0s:∀l i p,(l,i)∈σi->x.β l=some p->x'.β i=some p:=fun l i p h e=>hst.β _ _ (by rw[hx0 l i h];exact e)

 have hnew:∀i p,x'.β i=some p->(∃l,(l,i)∈σi/\x.β l=some p)\/x.w.heap.size<=p.1\/∃l p',(∃j,(l,j)∈σi)/\x.β l=some p'/\p'.1=p.1:=by
  intro i p e;rcases hst.newβ i p e with h|h|⟨j,p',h1,h2⟩
  ·obtain⟨l,h3,h4,_⟩:=hx0' i p h;exact .inl ⟨l,h3,h4⟩
  ·exact .inr (.inl h)
  ·obtain⟨l,h3,h4,_⟩:=hx0' j p' h1;exact .inr (.inr ⟨l,p',⟨j,h3⟩,h4,h2⟩)
 have hstep:Step x x2:=by
  refine⟨hst.os,hst.tape,hst.output,hst.size,hst.I,hst.p8,fun l p hp=>?_,fun b hb hn=>hst.old b hb fun i p h e=>?_,fun b h=>?_,fun l p h=>?_⟩
  ·cases h:nr σo l with
   |none=>rw[hx2n l h];exact hp
   |some i=>
    have hm:=mr h;rw[hx2 i l hm];rcases hfm.io i l hm with h2|h2
    ·exact hx0s l i p h2 hp
    ·rw[hfr.β l h2]at hp;cases hp
  ·obtain⟨l,_,h2,_⟩:=hx0' i p h;exact hn l p h2 e
  ·rcases hst.newI b h with h|h|⟨i,p,h1,h2⟩
   ·exact .inl h
   ·exact .inr (.inl h)
   ·obtain⟨l,_,h3,_⟩:=hx0' i p h1;exact .inr (.inr ⟨l,p,h3,h2⟩)
  ·cases h1:nr σo l with
   |none=>rw[hx2n l h1]at h;exact .inl h
   |some i=>
    have hm:=mr h1;rw[hx2 i l hm]at h;rcases hnew i p h with⟨l',h2,h3⟩|h2|⟨l',p',_,h3,h4⟩
    ·exact .inr (.inr ⟨l',p,h3,rfl⟩)
    ·exact .inr (.inl h2)
    ·exact .inr (.inr ⟨l',p',h3,h4⟩)
 have hsim:fW ν x2 (look st'.m):=by
  refine⟨fun l blk b base tot e1 e2=>?_,fun l1 l2 b base tot base' tot' e1 e2 e3 e4=>?_,hi'.ot.imm,fun l b base tot e=>?_,dz.le x' _ (fun _ h=>h) (fun _ _=>rfl) hi'.ot.gd⟩
  ·rcases hfm.m1 l blk e1 with⟨i,b1,h1,h2,h3⟩|⟨h1,h2,h3⟩
   ·rw[hx2 i l h1]at e2;obtain⟨o1,o2⟩:=hi'.ot.own i b1 b base tot (by rw[hlk];exact h2) e2;exact⟨o1,oJ.re (x:=x') (x':=x2) rfl rfl hβ2 o2 h3⟩
   ·rw[hx2n l h1]at e2;obtain⟨o1,o2⟩:=hs.own l blk b base tot h3 e2;have hlt:=hs.eJ l b base tot e2;have hno:∀i p,x0.β i=some p->p.1≠b:=by
     rintro i ⟨b',base',tot'⟩ h e;simp only at e;subst e;obtain⟨l',h4,h5,_⟩:=hx0' i _ h;have:=hs.inj l' l b' base' tot' base tot (hfm.lt _ _ h4) (by rw[h3];simp) h5 e2;subst this;exact h2 _ h4
    refine⟨fun h=>?_,o2.mono hstep.le (hst.old b hlt hno)⟩;rcases hst.newI b h with h|h|⟨i,p,h4,h5⟩
    ·exact o1 h
    ·exact absurd hlt (Nat.not_lt.2 h)
    ·exact hno i p h4 h5
  ·have mix:∀l1 l2 base tot base' tot',(∃i b1,(i,l1)∈σo/\look m1 i=some b1)->nr σo l2=none->(∀i,(l2,i)∉σi)->look st.m l2≠none->x2.β l1=some (b,base,tot)->x2.β l2=some (b,base',tot')->False:=by
    rintro l1 l2 base tot base' tot' ⟨i,b1,h1,h2⟩ h3 h4 h5 e3 e4;rw[hx2 i l1 h1]at e3;rw[hx2n l2 h3]at e4;rcases hnew i _ e3 with⟨l',h6,h7⟩|h6|⟨l',⟨pb,pt,pq⟩,⟨j,h6⟩,h7,h8⟩
    ·have:=hs.inj l' l2 b base tot base' tot' (hfm.lt _ _ h6) h5 h7 e4;subst this;exact h4 _ h6
    ·have:=hs.eJ l2 b base' tot' e4;simp only at h6;omega
    ·simp only at h8;subst h8;have:=hs.inj l' l2 pb pt pq base' tot' (hfm.lt _ _ h6) h5 h7 e4;subst this;exact h4 _ h6
   cases f1:look st'.m l1 with
   |none=>exact absurd f1 e1
   |some b1=>
    cases f2:look st'.m l2 with
    |none=>exact absurd f2 e2
    |some b2=>
     rcases hfm.m1 l1 b1 f1 with⟨i,c1,h1,h2,_⟩|⟨h1,h2,h3⟩<;>rcases hfm.m1 l2 b2 f2 with⟨j,c2,k1,k2,_⟩|⟨k1,k2,k3⟩
     ·rw[hx2 i l1 h1]at e3;rw[hx2 j l2 k1]at e4;have:=hi'.ot.inj i j b base tot base' tot' (by rw[hlk,h2];simp) (by rw[hlk,k2];simp) e3 e4;subst this;have:=uQ hfm.oko h1;rw[uQ hfm.oko k1]at this;exact(b9 this).symm
     ·exact(mix l1 l2 base tot base' tot' ⟨i,c1,h1,h2⟩ k1 k2 (by rw[k3];simp) e3 e4).elim
     ·exact(mix l2 l1 base' tot' base tot ⟨j,c2,k1,k2⟩ h1 h2 (by rw[h3];simp) e4 e3).elim
     ·rw[hx2n l1 h1]at e3;rw[hx2n l2 k1]at e4;exact hs.inj l1 l2 b base tot base' tot' (by rw[h3];simp) (by rw[k3];simp) e3 e4
  ·cases h1:nr σo l with
   |none=>rw[hx2n l h1]at e;exact eS (hs.eJ l b base tot e) hst.size
   |some i=>
    rw[hx2 i l (mr h1)]at e;exact hi'.ot.eJ i b base tot e
 have hfr2:fU st' x2:=by
  refine⟨fun l hl=>?_,fun l hl=>?_⟩
  ·cases h1:nr σo l with
   |none=>rw[hx2n l h1];exact hfr.β l (by have:=hfm.nx;omega)
   |some i=>have:=rY hfm.oko (mr h1);omega
  ·cases f1:look st'.m l with
   |none=>exact absurd f1 hl
   |some b1=>
    rcases hfm.m1 l b1 f1 with⟨i,c1,h1,_⟩|⟨_,_,h3⟩
    ·exact rY hfm.oko h1
    ·have:=hfr.m l (by rw[h3];simp);have:=hfm.nx;omega
 have hrd:=RD.re (ν:=ν) (x:=x') (x':=x2) rfl rfl hβ2 r2 hvd;rcases Ex.DI hh with h|h<;>rw[h]at he<;>subst he<;>exact⟨hi'.defers,v,r1,x2,vd',st',hK,rfl,hstep,hrd,hsim,hfr2⟩
end
end
section
structure RowT where
 tr:List D->St->(D->St->Prop)->Prop
 mu:List D->St->Nat
 mono:∀(ds:List D) (st:St) (K K':D->St->Prop),(∀d st',K d st'->K' d st')->tr ds st K->tr ds st K'
def RowT.no:RowT:=⟨fun _ _ _=>False,fun _ _=>0,fun _ _ _ _ _ h=>h⟩
def nb (af:aF)(Q:D->List (Nat×bO)->Prop):Ex->List bR->St->Prop:=fun e env st=>e.home/\qD st.m env af.res/\∃m1,(∀i,look st.m i=look m1 i)/\Q (lU af env st) m1
def cU {af:aF}{Q:D->List (Nat×bO)->Prop}{vd:D}{m1:List (Nat×bO)}{e:Ex}{env:List bR}{st:St}(h1:e.home)(h2:qD st.m env af.res)(h3:lU af env st=vd)(h4:st.m=m1)(h5:Q vd m1):nb af Q e env st:=⟨h1,h2,m1,fun i=>by rw[h4],by rw[h3];exact h5⟩
def One (vd:D)(m1:List (Nat×bO)):D->List (Nat×bO)->Prop:=fun d m=>d=vd/\m=m1
def oneq (vd:D)(m1:List (Nat×bO)):One vd m1 vd m1:=⟨rfl,rfl⟩
section
variable [dz] {P:Program} {ν:List (Nat×Nat)} {cP:List Nat} {Y:Ctx}
def OS (P:Program)(ν:List (Nat×Nat))(Γ':Ctx)(cP:List Nat)(tr:List D->St->(D->St->Prop)->Prop)(fid:Nat):Prop:=
 ∀(ds:List D) (st:St) (K:D->St->Prop),tr ds st K->Ok P ν cP Γ'->∀(x:X) (args:Array Value),args.size=ds.length->(∀i,i<ds.length->RD ν x (args.getD i undef) (ds.getD i .any))->fW ν x (look st.m)->fU st x->
  jO P x (fun v x'=>∃d st',K d st'/\Step x x'/\RD ν x' v d/\fW ν x' (look st'.m)/\fU st' x') ((callFunc fid args).run P x.w)
end
end
end Go.Abs
