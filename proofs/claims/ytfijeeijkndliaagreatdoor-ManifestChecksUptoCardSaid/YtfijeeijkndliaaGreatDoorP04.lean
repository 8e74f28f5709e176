/- A part of the proofs. -/
import Derived.IntWalk
import Derived.KernelRfl
import Derived.Lib.TrimUEq
import Derived.Test.YtfijeeijkndliaaGreatDoorP03
set_option linter.all false
set_option maxRecDepth 60000
set_option maxHeartbeats 2000000
namespace Go.Abs
section
section
variable {Y:Ctx} {Q Q':Ex->List cA->St->Prop} {env:List cA} {st:St}
def Ctx.cP (Y:Ctx):Prop:=∀f ds st (K K':D->St->Prop),(∀d st,K d st->K' d st)->Y.tr f ds st K->Y.tr f ds st K'
def kD {draw:Bool}{K K':List cA->St->Prop}(h:∀vs st,K vs st->K' vs st)(htr:Y.cP):∀(l:List GI) (env vs:List cA) (st:St),iD Y draw l env vs st K->iD Y draw l env vs st K'
 |[],env,vs,st,hh=>h _ _ hh
 |⟨i,g⟩::r,env,vs,st,hh=>by
  cases hcm:i.dT with
  |true=>
   cases i<;>simp only[bd.dT]at hcm<;>try(cases hcm;done)
   .exact⟨hh.1,fun hf=>⟨(hh.2.1 hf).1,htr _ _ _ _ _ (fun d st' ⟨h1,h2⟩=>⟨h1,kD h htr r _ _ _ h2⟩) (hh.2.1 hf).2⟩,fun hf=>kD h htr r _ _ _ (hh.2.2 hf)⟩
   .rename_i fv args;simp only[iD]at hh⊢;refine⟨hh.1,fun hf=>⟨(hh.2.1 hf).1,(hh.2.1 hf).2.1, ?_⟩,fun hf=>kD h htr r _ _ _ (hh.2.2 hf)⟩;have h3:=(hh.2.1 hf).2.2;cases hd:(Src.ev env vs fv).d<;>simp only[hd]at h3⊢;exact⟨h3.1,htr _ _ _ _ _ (fun d st' ⟨h1,h2⟩=>⟨h1,kD h htr r _ _ _ h2⟩) h3.2⟩
   .exact⟨hh.1,hh.2.1,hh.2.2.1,fun b hb=>kD h htr r _ _ _ (hh.2.2.2 b hb)⟩
  |false=>
   cases hf:i.uv draw g with
   |true=>
    rw[Ie hcm hf]at hh⊢;exact⟨hh.1,fun e=>⟨(hh.2.1 e).1,kD h htr r _ _ _ (hh.2.1 e).2⟩,fun e=>kD h htr r _ _ _ (hh.2.2 e)⟩
   |false=>
    rw[p7 hcm hf]at hh⊢;exact⟨hh.1,hh.2.1,fun ha=>(hh.2.2 ha).imp fun _ h2=>⟨h2.1,kD h htr r _ _ _ h2.2⟩⟩
def Gh.mono {lo:Nat}{p q:List cA->St->Prop}(h:∀env st,p env st->q env st):Gh lo p env st->Gh lo q env st
 |⟨e,s,h1,h2⟩=>⟨e,s,h1,h _ _ h2⟩
def Gh.intro {lo:Nat}{p:List cA->St->Prop}(h:p env st):Gh lo p env st:=⟨env,st,.refl _ _,h⟩
def iX (htr:Y.cP):∀(a:AC) (Q Q':Ex->List cA->St->Prop) (env:List cA) (st:St),(∀e env st,Q e env st->Q' e env st)->cg Y a Q env st->cg Y a Q' env st
 | .reg draw ins cm,Q,Q',env,st,h,hh=>Gh.mono (fun env st h2=>kD (fun vs st=>h _ _ _) htr _ _ _ _ h2) hh
 | .seq a b,Q,Q',env,st,h,hh=>Gh.mono (fun env st h2=>iX htr a _ _ env st (fun e env st h2=>by
   cases e with
   |normal=>exact iX htr b Q Q' env st h h2
   |exit id=>exact h _ _ _ h2
   |ret=>exact h _ _ _ h2) h2) hh
 | .cond c a b,Q,Q',env,st,h,hh=>Gh.mono (fun env st h2=>by
  refine⟨h2.1, ?_⟩;have:=h2.2;cases hd:(c.ev env []).d<;>simp only[hd]at this⊢;exact⟨fun ht=>iX htr a Q Q' env st h (this.1 ht),fun ht=>iX htr b Q Q' env st h (this.2 ht)⟩) hh
 | .block id a,Q,Q',env,st,h,hh=>Gh.mono (fun env st h2=>iX htr a _ _ env st (fun e env st h2=>by
   cases e with
   |normal=>exact h _ _ _ h2
   |exit j=>simp only at h2⊢;split<;>rename_i hj<;>simp only[hj,ba,aZ]at h2<;>exact h _ _ _ h2
   |ret=>exact h _ _ _ h2) h2) hh
 | .loop a,Q,Q',env,st,h,hh=>Gh.mono (fun env st h2=>by
  obtain⟨I,μ,h1,h2⟩:=h2;refine⟨I,μ,h1,fun env st hi=>iX htr a _ _ env st (fun e env' st' h3=>?_) (h2 env st hi)⟩;cases e with
  |normal=>exact h3
  |exit id=>exact h _ _ _ h3
  |ret=>exact h _ _ _ h3) hh
 | .exit id,Q,Q',env,st,h,hh=>Gh.mono (fun _ _=>h _ _ _) hh
 | .ret,Q,Q',env,st,h,hh=>Gh.mono (fun _ _=>h _ _ _) hh
 | .skip,Q,Q',env,st,h,hh=>Gh.mono (fun _ _=>h _ _ _) hh
def iW {a:AC}{env':List cA}{st':St}(g:bm Y.lo env st env' st')(h:cg Y a Q env' st'):cg Y a Q env st:=by
 cases a<;>(obtain⟨e2,s2,g2,h2⟩:=h;exact⟨e2,s2,.trans _ _ _ _ _ _ g g2,h2⟩)
def BQ (Y:Ctx)(id:Nat)(r:AC)(Q:Ex->List cA->St->Prop):Ex->List cA->St->Prop:=fun e env st=>match e with
 | .normal=>cg Y r Q env st
 | .exit j=>if j=id then cg Y r Q env st else Q (.exit j) env st
 | .ret=>Q .ret env st
def LQ (Y:Ctx)(id:Nat)(r:AC)(next:List cA->St->Prop)(Q:Ex->List cA->St->Prop):Ex->List cA->St->Prop:=fun e env st=>match e with
 | .normal=>next env st
 | .exit j=>if j=id then cg Y r Q env st else Q (.exit j) env st
 | .ret=>Q .ret env st
def BQ.normal {id:Nat}{r:AC}(h:cg Y r Q env st):BQ Y id r Q .normal env st:=h
def BQ.out {id:Nat}{r:AC}(h:cg Y r Q env st):BQ Y id r Q (.exit id) env st:=by simp only[BQ,ba];exact h
def BQ.other {id j:Nat}{r:AC}(hj:(j==id)=false)(h:Q (.exit j) env st):BQ Y id r Q (.exit j) env st:=by simp only[BQ,ar (by simpa using hj)];exact h
def BQ.ret {id:Nat}{r:AC}(h:Q .ret env st):BQ Y id r Q .ret env st:=h
def LQ.normal {id:Nat}{r:AC}{next:List cA->St->Prop}(h:next env st):LQ Y id r next Q .normal env st:=h
def LQ.out {id:Nat}{r:AC}{next:List cA->St->Prop}(h:cg Y r Q env st):LQ Y id r next Q (.exit id) env st:=by simp only[LQ,ba];exact h
def LQ.other {id j:Nat}{r:AC}{next:List cA->St->Prop}(hj:(j==id)=false)(h:Q (.exit j) env st):LQ Y id r next Q (.exit j) env st:=by simp only[LQ,ar (by simpa using hj)];exact h
def LQ.ret {id:Nat}{r:AC}{next:List cA->St->Prop}(h:Q .ret env st):LQ Y id r next Q .ret env st:=h
def ab8 {a b c:AC}(h:cg Y (.seq a (.seq b c)) Q env st):cg Y (.seq (.seq a b) c) Q env st:=by
 obtain⟨e1,s1,g1,h1⟩:=h;refine⟨e1,s1,g1,e1,s1,.refl _ _, ?_⟩;have:∀(Q1 Q2:Ex->List cA->St->Prop),Q1=Q2->cg Y a Q1 e1 s1->cg Y a Q2 e1 s1:=fun _ _ e h=>e▸h
 refine this _ _ ?_ h1;funext e env st;cases e with
 |normal=>exact propext ⟨fun⟨e2,s2,g2,h2⟩=>iW g2 h2,fun h=>⟨_,_,.refl _ _,h⟩⟩
 |exit id=>rfl
 |ret=>rfl
def TA {b:AC}(h:cg Y b Q env st):cg Y (.seq .skip b) Q env st:=.intro (.intro h)
def wp_skip (h:Q .normal env st):cg Y .skip Q env st:=.intro h
def XL {b:AC}(h:Q .ret env st):cg Y (.seq .ret b) Q env st:=.intro (.intro h)
def wp_ret (h:Q .ret env st):cg Y .ret Q env st:=.intro h
def Tz {id:Nat}{b:AC}(h:Q (.exit id) env st):cg Y (.seq (.exit id) b) Q env st:=.intro (.intro h)
def wp_exit {id:Nat}(h:Q (.exit id) env st):cg Y (.exit id) Q env st:=.intro h
def NC {id:Nat}{a r:AC}(h:cg Y a (BQ Y id r Q) env st)(htr:Y.cP):cg Y (.seq (.block id a) r) Q env st:=by
 refine .intro (.intro (iX htr a _ _ _ _ (fun e env st h=>?_) h));cases e with
 |normal=>exact h
 |exit j=>simp only[BQ]at h⊢;split<;>rename_i hj<;>simp only[hj,ba,aZ]at h<;>exact h
 |ret=>exact h
def wp_block {id:Nat}{a:AC}(h:cg Y a (BQ Y id .skip Q) env st)(htr:Y.cP)(hQ:∀e env env' st st',bm Y.lo env st env' st'->Q e env' st'->Q e env st):cg Y (.block id a) Q env st:=by
 refine .intro (iX htr a _ _ _ _ (fun e env st h=>?_) h);have hs:∀env st,cg Y .skip Q env st->Q .normal env st:=fun env st ⟨e2,s2,g2,h2⟩=>hQ _ _ _ _ _ g2 h2
 cases e with
 |normal=>exact hs _ _ h
 |exit j=>simp only[BQ]at h⊢;split<;>rename_i hj<;>simp only[hj,ba,aZ]at h<;>first|exact hs _ _ h|exact h
 |ret=>exact h
def CQ (next:List cA->St->Prop)(Q:Ex->List cA->St->Prop):Ex->List cA->St->Prop:=fun e env st=>match e with
 | .normal=>next env st
 | .exit j=>Q (.exit j) env st
 | .ret=>Q .ret env st
def CQ.normal {next:List cA->St->Prop}(h:next env st):CQ next Q .normal env st:=h
def CQ.other {next:List cA->St->Prop}{j:Nat}(h:Q (.exit j) env st):CQ next Q (.exit j) env st:=h
def CQ.ret {next:List cA->St->Prop}(h:Q .ret env st):CQ next Q .ret env st:=h
def NM (id:Nat)(Q:Ex->List cA->St->Prop):Ex->List cA->St->Prop:=fun e env st=>match e with
 | .normal=>Q .normal env st
 | .exit j=>if j=id then Q .normal env st else Q (.exit j) env st
 | .ret=>Q .ret env st
def NM.normal {id:Nat}(h:Q .normal env st):NM id Q .normal env st:=h
def NM.out {id:Nat}(h:Q .normal env st):NM id Q (.exit id) env st:=by simp only[NM,ba];exact h
def NM.other {id j:Nat}(hj:(j==id)=false)(h:Q (.exit j) env st):NM id Q (.exit j) env st:=by grind [NM]
def NM.ret {id:Nat}(h:Q .ret env st):NM id Q .ret env st:=h
def XK {id:Nat}{a:AC}(h:cg Y a (NM id Q) env st)(htr:Y.cP):cg Y (.block id a) Q env st:=by
 refine .intro (iX htr a _ _ _ _ (fun e env st h=>?_) h);cases e with
 |normal=>exact h
 |exit j=>simp only[NM]at h⊢;split<;>rename_i hj<;>simp only[hj,ba,aZ]at h<;>exact h
 |ret=>exact h
def qQ (htr:Y.cP){a b:AC}{ι:Type}(F:ι->List cA)(G:ι->List (Nat×cr))(c:Nat)(P:ι->Prop)
  (h1:cg Y a (CQ (fun env' st'=>∃j,P j/\bm Y.lo env' st' (F j) ⟨c,G j⟩) Q) env st)
  (h2:∀i,P i->cg Y b Q (F i) ⟨c,G i⟩):cg Y (.seq a b) Q env st:=by
 refine .intro (iX htr a _ _ _ _ (fun e env st h=>?_) h1);cases e with
 |normal=>obtain⟨j,hj,g⟩:=h;exact iW g (h2 j hj)
 |exit j=>exact h
 |ret=>exact h
def br (htr:Y.cP){a r:AC}{id:Nat}{ι:Type}(F:ι->List cA)(G:ι->List (Nat×cr))(c:Nat)(P:ι->Prop)(μ:ι->Nat)(i0:ι)
  (hP:P i0) (h0:bm Y.lo env st (F i0) ⟨c,G i0⟩)
  (hr:∀i,P i->cg Y a (LQ Y id r (fun env' st'=>∃j,P j/\μ j<μ i/\bm Y.lo env' st' (F j) ⟨c,G j⟩) Q) (F i) ⟨c,G i⟩):cg Y (.seq (.block id (.loop a)) r) Q env st:=by
 let W:List cA->St->Nat->Prop:=fun env st k=>∃i,env=F i/\st=⟨c,G i⟩/\P i/\μ i=k
 have least:∀env st,(∃k,W env st k)->∃k,W env st k/\∀k',W env st k'->k<=k':=by
  intro env st ⟨k,hk⟩;induction k using Nat.strongRecOn with
  |_ k ih=>
   by_cases h:∃k',k'<k/\W env st k'
   .obtain⟨k',h1,h2⟩:=h;exact ih k' h1 h2
   .exact⟨k,hk,fun k' hk'=>by
     rcases iZ k' k with h1|h1
     .exact absurd ⟨k',h1,hk'⟩ h
     .exact h1⟩
 open Classical in
 refine .intro (.intro ⟨_,_,h0,fun env st=>∃k,W env st k,fun env st=>if h:∃k,W env st k then Classical.choose (least env st h)else 0,⟨_,i0,rfl,rfl,hP,rfl⟩,fun env st hk=>?_⟩);obtain⟨⟨i,e1,e2,e3,e5⟩,hmin⟩:=Classical.choose_spec (least env st hk);have:=hr i e3;rw[<-e1,<-e2]at this;refine iX htr a _ _ env st ?_ this
 .intro e env' st' h;cases e with
  |normal=>
   obtain⟨j,b3,b5,g⟩:=h;have hW:W (F j) ⟨c,G j⟩ (μ j):=⟨j,rfl,rfl,b3,rfl⟩;refine⟨F j,⟨c,G j⟩,g,⟨_,hW⟩, ?_⟩;show(if h:∃k,W (F j) ⟨c,G j⟩ k then Classical.choose (least _ _ h)else 0)<(if h:∃k,W env st k then Classical.choose (least env st h)else 0);rw[dif_pos ⟨_,hW⟩,dif_pos hk,<-e5];exact Nat.lt_of_le_of_lt ((Classical.choose_spec (least _ _ ⟨_,hW⟩)).2 _ hW) b5
  |exit j=>simp only[LQ]at h⊢;split<;>rename_i hj<;>simp only[hj,ba,aZ]at h<;>exact h
  |ret=>exact h
def NO (id:Nat)(next:List cA->St->Prop)(Q:Ex->List cA->St->Prop):Ex->List cA->St->Prop:=fun e env st=>match e with
 | .normal=>next env st
 | .exit j=>if j=id then Q .normal env st else Q (.exit j) env st
 | .ret=>Q .ret env st
def NO.normal {id:Nat}{next:List cA->St->Prop}(h:next env st):NO id next Q .normal env st:=h
def NO.out {id:Nat}{next:List cA->St->Prop}(h:Q .normal env st):NO id next Q (.exit id) env st:=by simp only[NO,ba];exact h
def NO.other {id j:Nat}{next:List cA->St->Prop}(hj:(j==id)=false)(h:Q (.exit j) env st):NO id next Q (.exit j) env st:=by grind [NO]
def NO.ret {id:Nat}{next:List cA->St->Prop}(h:Q .ret env st):NO id next Q .ret env st:=h
def rl (htr:Y.cP){a:AC}{id:Nat}{ι:Type}(F:ι->List cA)(G:ι->List (Nat×cr))(c:Nat)(P:ι->Prop)(μ:ι->Nat)(i0:ι)
  (hP:P i0) (h0:bm Y.lo env st (F i0) ⟨c,G i0⟩)
  (hr:∀i,P i->cg Y a (NO id (fun env' st'=>∃j,P j/\μ j<μ i/\bm Y.lo env' st' (F j) ⟨c,G j⟩) Q) (F i) ⟨c,G i⟩):cg Y (.block id (.loop a)) Q env st:=by
 let W:List cA->St->Nat->Prop:=fun env st k=>∃i,env=F i/\st=⟨c,G i⟩/\P i/\μ i=k
 have least:∀env st,(∃k,W env st k)->∃k,W env st k/\∀k',W env st k'->k<=k':=by
  intro env st ⟨k,hk⟩;induction k using Nat.strongRecOn with
  |_ k ih=>
   by_cases h:∃k',k'<k/\W env st k'
   .obtain⟨k',h1,h2⟩:=h;exact ih k' h1 h2
   .exact⟨k,hk,fun k' hk'=>by
     rcases iZ k' k with h1|h1
     .exact absurd ⟨k',h1,hk'⟩ h
     .exact h1⟩
 open Classical in
 refine .intro ⟨_,_,h0,fun env st=>∃k,W env st k,fun env st=>if h:∃k,W env st k then Classical.choose (least env st h)else 0,⟨_,i0,rfl,rfl,hP,rfl⟩,fun env st hk=>?_⟩;obtain⟨⟨i,e1,e2,e3,e5⟩,hmin⟩:=Classical.choose_spec (least env st hk);have:=hr i e3;rw[<-e1,<-e2]at this;refine iX htr a _ _ env st ?_ this
 .intro e env' st' h;cases e with
  |normal=>
   obtain⟨j,b3,b5,g⟩:=h;have hW:W (F j) ⟨c,G j⟩ (μ j):=⟨j,rfl,rfl,b3,rfl⟩;refine⟨F j,⟨c,G j⟩,g,⟨_,hW⟩, ?_⟩;show(if h:∃k,W (F j) ⟨c,G j⟩ k then Classical.choose (least _ _ h)else 0)<(if h:∃k,W env st k then Classical.choose (least env st h)else 0);rw[dif_pos ⟨_,hW⟩,dif_pos hk,<-e5];exact Nat.lt_of_le_of_lt ((Classical.choose_spec (least _ _ ⟨_,hW⟩)).2 _ hW) b5
  |exit j=>simp only[NO]at h⊢;split<;>rename_i hj<;>simp only[hj,ba,aZ]at h<;>exact h
  |ret=>exact h
def nth:List cA->Nat->cA
 |[],_=>.un
 |a::_,0=>a
 |_::r,n+1=>nth r n
def Fy:∀(l:List cA) (n:Nat),l.getD n .un=nth l n
 |[],n=>by simp[nth]
 |a::_,0=>by simp[nth]
 |_::r,n+1=>by simpa[nth]using Fy r n
def dm (env rs:List cA):Src->cA
 | .s n=>nth env n
 | .l p=>bif Nat.blt p rs.length then nth rs (rs.length-1-p)else .un
 | .c d=>⟨true,d⟩
theorem pM (env rs:List cA):Src.ev env rs.reverse=dm env rs:=by
 funext s;cases s with
 |s n=>exact Fy env n
 |l p=>
  simp only[Src.ev,dm];cases h:Nat.blt p rs.length with
  |true=>
   have:p<rs.length:=by simp[Nat.blt]at h;omega
   rw[cond_true,<-Fy]
   grind
  |false=>
   have:¬p<rs.length:=by intro e;have:Nat.blt p rs.length=true:=by {simp[Nat.blt];omega};rw[this]at h;cases h
   grind
 |c d=>rfl
def aY (Y:Ctx)(draw:Bool)(l:List GI)(env rs:List cA)(nx:Nat)(m:List (Nat×cr))(K:List cA->St->Prop):Prop:=iD Y draw l env rs.reverse ⟨nx,m⟩ K
def ZI (env rs:List cA):List (Nat×Nat)->List cA
 |[]=>env
 |(s,p)::r=>ZI (env.set s (dm [] rs (.l p))) rs r
theorem R0 (rs:List cA):∀(cm:List (Nat×Nat)) (env:List cA),jL env rs.reverse cm=ZI env rs cm
 |[],env=>rfl
 |(s,p)::r,env=>by
  simp only[jL,ZI];rw[R0 rs r,<-congrFun (pM [] rs) (.l p)];rfl
def ay {draw:Bool}{ins:List GI}{cm:List (Nat×Nat)}{b:AC}{nx:Nat}{m:List (Nat×cr)}
  (h:aY Y draw ins env [] nx m (fun vs st'=>cg Y b Q (jL env vs cm) st')):cg Y (.seq (.reg draw ins cm) b) Q env ⟨nx,m⟩:=.intro (.intro h)
def aje {draw:Bool}{ins:List GI}{cm:List (Nat×Nat)}{nx:Nat}{m:List (Nat×cr)}
  (h:aY Y draw ins env [] nx m (fun vs st'=>Q .normal (jL env vs cm) st')):cg Y (.reg draw ins cm) Q env ⟨nx,m⟩:=.intro h
def adR {draw:Bool}{cm:List (Nat×Nat)}{b:AC}{nx nx':Nat}{m:List (Nat×cr)}{rs gz env':List cA}(h:cg Y b Q env' ⟨nx',m⟩)
  (he:ZI env rs cm=env':=by exact rfl) (hn:nx+rs.length=nx':=by exact BH):aY Y draw [] gz rs nx m (fun vs st'=>cg Y b Q (jL env vs cm) st'):=by
 grind [aY,iD,R0]
def adS {draw:Bool}{cm:List (Nat×Nat)}{nx nx':Nat}{m:List (Nat×cr)}{rs gz env':List cA}(h:Q .normal env' ⟨nx',m⟩)
  (he:ZI env rs cm=env':=by exact rfl) (hn:nx+rs.length=nx':=by exact BH):aY Y draw [] gz rs nx m (fun vs st'=>Q .normal (jL env vs cm) st'):=by
 grind [aY,iD,R0]
def az {c:Src}{a b r:AC}{t:Bool}(h1:t=true->cg Y (.seq a r) Q env st)(h2:t=false->cg Y (.seq b r) Q env st)(hc:dm env [] c=⟨true,.bool t⟩:=by exact rfl):cg Y (.seq (.cond c a b) r) Q env st:=by
 have hc':c.ev env []=⟨true,.bool t⟩:=by rw[<-hc,<-pM];rfl
 refine .intro (.intro ?_);simp only[hc'];refine⟨trivial,fun ht=>?_,fun ht=>?_⟩
 .obtain⟨e,s,g,h⟩:=h1 ht;exact iW g h
 .obtain⟨e,s,g,h⟩:=h2 ht;exact iW g h
def wp_cond {c:Src}{a b:AC}{t:Bool}(h1:t=true->cg Y a Q env st)(h2:t=false->cg Y b Q env st)(hc:dm env [] c=⟨true,.bool t⟩:=by exact rfl):cg Y (.cond c a b) Q env st:=by
 have hc':c.ev env []=⟨true,.bool t⟩:=by rw[<-hc,<-pM];rfl
 refine .intro ?_
 grind
theorem bm.to {lo c nx nx':Nat}{env env':List cA}{m m':List (Nat×cr)}(σ:List (Nat×Nat))(hc:nx'=c)(h:jg lo c σ=true)(he:de lo σ env env')(hm:bF lo c σ m m'):bm lo env ⟨nx,m⟩ env' ⟨nx',m'⟩:=by
 subst hc;exact .ren σ nx' env env' nx m m' h he hm
theorem aL {α β:Type}(q:α->β)(xs:List α):(xs.map q).take xs.length=xs.map q:=fq aI
def bA {α:Type}{q:α->D}(h:∀x,(q x).bN=true):∀xs:List α,bK (xs.map q)=true
 |[]=>rfl
 |a::r=>by simp only[List.map_cons,bK,h a,bA h r,kn]
def bm.fz {lo:Nat}{env env' env2:List cA}{nx k:Nat}{m m':List (Nat×cr)}{es:List D}{st2:St}(l:Nat)(hl:look m l=some (.buf k es))(hn:bK es=true)(he:j8 l k es env=env')(hm:ku l k es (cM m l)=m')(h:bm lo env' ⟨nx,m'⟩ env2 st2):bm lo env ⟨nx,m⟩ env2 st2:=by
 have:=bm.XO (lo:=lo) l env ⟨nx,m⟩;simp only[Abs.XO,hl,hn,cond_true,he,hm]at this;exact .trans _ _ _ _ _ _ this h
def e7 {a:AC}{nx k:Nat}{m m':List (Nat×cr)}{es:List D}{env env':List cA}(l:Nat)(h:cg Y a Q env' ⟨nx,m'⟩)(hl:look m l=some (.buf k es):=by exact rfl)(hn:bK es=true:=by first|exact rfl|exact bA (fun _=>rfl) _)
  (he:j8 l k es env=env':=by simp only[j8,ig,ij,ku,kW,cM,Nat.reduceEqDiff,ba,aZ,cC,cj,cb,cH,cK,bI,bB,aH,bR,aL,reduceCtorEq,aM,aX,Nat.reduceAdd,Nat.reduceLeDiff];exact rfl)
  (hm:ku l k es (cM m l)=m':=by simp only[j8,ig,ij,ku,kW,cM,Nat.reduceEqDiff,ba,aZ,cC,cj,cb,cH,cK,bI,bB,aH,bR,aL,reduceCtorEq,aM,aX,Nat.reduceAdd,Nat.reduceLeDiff];exact rfl):cg Y a Q env ⟨nx,m⟩:=
 iW (bm.fz l hl hn he hm (.refl _ _)) h
def WkE.rf:∀e:List cA,WkE e e
 |[]=>trivial
 |_::r=>⟨⟨rfl,.refl _⟩,WkE.rf r⟩
def NP.nil:NP [] []:=⟨rfl,fun _=>.refl _⟩
def NP.cons {x y:D}{a b:List D}(h:CH x y)(h2:NP a b):NP (x::a) (y::b):=⟨by simp[h2.1],fun i=>by cases i with
 |zero=>exact h
 |succ i=>simpa using h2.2 i⟩
def NP.rf (a:List D):NP a a:=⟨rfl,fun _=>.refl _⟩
def NP.map {α:Type}{q p:α->D}:∀{xs:List α},(∀x∈xs,CH (q x) (p x))->NP (xs.map q) (xs.map p)
 |[],_=>.nil
 |x::r,h=>.cons (h x (.head _)) (NP.map fun y hy=>h y (.tail _ hy))
def CH.ag {a b:List D}(h:NP a b):CH (.agg a) (.agg b):=.agg _ _ h.1 h.2
def CH.ss {k:Nat}{a b:List D}(h:NP a b):CH (.sl k a) (.sl k b):=.sl _ _ _ h.1 h.2
def VX.nil {m:List (Nat×cr)}:VX m []:=trivial
def VX.id {m r:List (Nat×cr)}{l:Nat}{b:cr}(h:look m l=some b)(h2:VX m r):VX m ((l,b)::r):=⟨⟨b,h,by cases b<;>first|exact⟨rfl,.rf _⟩|exact rfl⟩,h2⟩
def VX.bf {m r:List (Nat×cr)}{l k:Nat}{es es':List D}(h:look m l=some (.buf k es))(hw:NP es es')(h2:VX m r):VX m ((l,.buf k es')::r):=⟨⟨_,h,rfl,hw⟩,h2⟩
def mR {a:AC}{nx:Nat}{m:List (Nat×cr)}{env:List cA}(m':List (Nat×cr))(hm:VX m m')(h:cg Y a Q env ⟨nx,m'⟩):cg Y a Q env ⟨nx,m⟩:=iW (.nz _ _ _ _ _ (WkE.rf _) hm) h
def de.nil {lo:Nat}{σ:List (Nat×Nat)}:de lo σ [] []:=trivial
def de.un {lo:Nat}{σ:List (Nat×Nat)}{a:cA}{r s:List cA}(h:de lo σ r s):de lo σ (a::r) (.un::s):=⟨.inr rfl,h⟩
def de.eq {lo:Nat}{σ:List (Nat×Nat)}{ok:Bool}{d d':D}{r s:List cA}(hd:wz lo σ d=some d')(h:de lo σ r s):de lo σ (⟨ok,d⟩::r) (⟨ok,d'⟩::s):=⟨.inl ⟨rfl,.inr (.inl hd)⟩,h⟩
theorem de.nl {lo:Nat}{σ:List (Nat×Nat)}{ok:Bool}{d d':D}{r s:List cA}(hd:d'=d)(hn:d.bN=true)(h:de lo σ r s):de lo σ (⟨ok,d⟩::r) (⟨ok,d'⟩::s):=⟨.inl ⟨rfl,.inl ⟨hd,hn⟩⟩,h⟩
def de.ni {lo:Nat}{σ:List (Nat×Nat)}{ok:Bool}{d d':D}{r s:List cA}(hd:yB d d')(h:de lo σ r s):de lo σ (⟨ok,d⟩::r) (⟨ok,d'⟩::s):=⟨.inl ⟨rfl,.inr (.inr hd)⟩,h⟩
section
variable {lo c:Nat} {σ:List (Nat×Nat)} {m r:List (Nat×cr)}
def bF.nil:bF lo c σ m []:=trivial
theorem bF.nl {k l':Nat}{es es':List D}(l:Nat)(hl:mX lo σ l=some l')(hm:look m l=some (.buf k es))(he:es'=es)(hn:bK es=true)(h:bF lo c σ m r):bF lo c σ m ((l',.buf k es')::r):=
 ⟨.inl ⟨l,_,hl,hm,rfl,.inl ⟨he,hn⟩⟩,h⟩
def bF.eq {k l':Nat}{es es':List D}(l:Nat)(hl:mX lo σ l=some l')(hm:look m l=some (.buf k es))(he:sn lo σ es=some es')(h:bF lo c σ m r):bF lo c σ m ((l',.buf k es')::r):=
 ⟨.inl ⟨l,_,hl,hm,rfl,.inr (.inl he)⟩,h⟩
def bF.ni {k l':Nat}{es es':List D}(l:Nat)(hl:mX lo σ l=some l')(hm:look m l=some (.buf k es))(he:I5 es es')(h:bF lo c σ m r):bF lo c σ m ((l',.buf k es')::r):=
 ⟨.inl ⟨l,_,hl,hm,rfl,.inr (.inr he)⟩,h⟩
def bF.iM {k l':Nat}{es':List D}(hl:mX lo σ l'=some l')(hm:look m l'=some (.buf k es'))(hn:bK es'=true)(h:bF lo c σ m r):bF lo c σ m ((l',.buf k es')::r):=.nl l' hl hm rfl hn h
def bF.Sc {k l':Nat}{es' es:List D}(hl:mX lo σ l'=some l')(hm:look m l'=some (.buf k es))(he:sn lo σ es=some es')(h:bF lo c σ m r):bF lo c σ m ((l',.buf k es')::r):=.eq l' hl hm he h
def bF.mt {k l':Nat}{es':List D}(h1:Nat.ble lo l'=true)(h2:Nat.blt l' c=true)(h3:σ.all (fun p=>!Nat.beq p.2 l')=true)(he:es'=[])(h:bF lo c σ m r):bF lo c σ m ((l',.buf k es')::r):=
 ⟨.inr ⟨h1,h2,h3,k,by rw[he]⟩,h⟩
def bF.it {l' p p':Nat}{s s':List UInt8}(l:Nat)(hl:mX lo σ l=some l')(hm:look m l=some (.iter s p))(hs:s'=s)(hp:p'=p)(h:bF lo c σ m r):bF lo c σ m ((l',.iter s' p')::r):=
 ⟨.inl ⟨l,_,hl,hm,hs,hp⟩,h⟩
def bF.idi {l' p p':Nat}{s s':List UInt8}(hl:mX lo σ l'=some l')(hm:look m l'=some (.iter s p))(hs:s'=s)(hp:p'=p)(h:bF lo c σ m r):bF lo c σ m ((l',.iter s' p')::r):=.it l' hl hm hs hp h
def bF.rw {l':Nat}{s s':List UInt8}(l:Nat)(hl:mX lo σ l=some l')(hm:look m l=some (.row s))(hs:s'=s)(h:bF lo c σ m r):bF lo c σ m ((l',.row s')::r):=
 ⟨.inl ⟨l,_,hl,hm,hs⟩,h⟩
def bF.bl {l' l1 l2 n n':Nat}{u u':Bool}(l:Nat)(hl:mX lo σ l=some l')(hm:look m l=some (.bld (some l1) n u))(h1:mX lo σ l1=some l2)(hn:n'=n)(hu:u'=u)(h:bF lo c σ m r):bF lo c σ m ((l',.bld (some l2) n' u')::r):=
 ⟨.inl ⟨l,_,hl,hm,⟨l2,h1,rfl⟩,hn,hu⟩,h⟩
def bF.b0 {l' n n':Nat}{u u':Bool}(l:Nat)(hl:mX lo σ l=some l')(hm:look m l=some (.bld none n u))(hn:n'=n)(hu:u'=u)(h:bF lo c σ m r):bF lo c σ m ((l',.bld none n' u')::r):=
 ⟨.inl ⟨l,_,hl,hm,rfl,hn,hu⟩,h⟩
end
mutual
def xC (m:List (Nat×cr)):Sh->D->D
 | .a,d=>match d with
  | .bg=>.sl 0 []
  |d=>d
 | .sl k cs,d=>match d with
  | .bg=>.sl k []
  | .own l k' i c=>.sl k' ((((bG m l).drop i).take c).map fun e=>match e with
   | .agg ds=>.agg (xL m cs ds)
   |e=>xH m cs e)
  |d=>d
 | .pt cs,d=>match d with
  | .ptr l k i o=>.ref k ((bG m l).map fun e=>match e with
   | .agg ds=>.agg (xL m cs ds)
   |e=>xH m cs e) i o
  |d=>d
def xH (m:List (Nat×cr)):List Sh->D->D
 |[],d=>d
 |s::_,d=>xC m s d
def xL (m:List (Nat×cr)):List Sh->List D->List D
 |[],ds=>ds
 |s::r,ds=>match ds with
  |[]=>[]
  |d::ds=>xC m s d::xL m r ds
end
def xV (m:List (Nat×cr))(cs:List Sh):D->D
 | .agg ds=>.agg (xL m cs ds)
 |e=>xH m cs e
mutual
def xCO (m:List (Nat×cr)):Sh->D->Prop
 | .a,d=>d.bN=true
 | .sl _ cs,d=>match d with
  | .own l k' i c=>gX m l k' (i+c)/\∀e∈((bG m l).drop i).take c,(match e with
   | .agg ds=>xLO m cs ds
   |e=>xHO m cs e)
  |d=>d.bN=true
 | .pt cs,d=>match d with
  | .ptr l k _ _=>gX m l k 0/\∀e∈bG m l,(match e with
   | .agg ds=>xLO m cs ds
   |e=>xHO m cs e)
  |d=>d.bN=true
def xHO (m:List (Nat×cr)):List Sh->D->Prop
 |[],d=>d.bN=true
 |s::_,d=>xCO m s d
def xLO (m:List (Nat×cr)):List Sh->List D->Prop
 |[],ds=>bK ds=true
 |s::r,ds=>match ds with
  |[]=>True
  |d::ds=>xCO m s d/\xLO m r ds
end
def xVO (m:List (Nat×cr))(cs:List Sh):D->Prop
 | .agg ds=>xLO m cs ds
 |e=>xHO m cs e
mutual
theorem ab9 (m:List (Nat×cr)):∀(s:Sh) (d:D),sf m s d=xC m s d/\(oV m s d↔xCO m s d)
 | .a,d=>by cases d<;>simp only[sf,xC,oV,xCO]<;>exact⟨trivial,trivial⟩
 | .sl k cs,d=>by
  cases d<;>simp only[sf,xC,oV,xCO]<;>first
   |exact⟨trivial,trivial⟩
   |skip
  rename_i l k' i c;exact⟨ak (D.sl k') (List.map_congr_left fun e _=>(ND m cs e).1),and_congr_right fun _=>forall_congr' fun e=>imp_congr_right fun _=>(ND m cs e).2⟩
 | .pt cs,d=>by
  cases d<;>simp only[sf,xC,oV,xCO]<;>first
   |exact⟨trivial,trivial⟩
   |skip
  rename_i l k' i c;exact⟨ak (fun x=>D.ref k' x i c) (List.map_congr_left fun e _=>(ND m cs e).1),and_congr_right fun _=>forall_congr' fun e=>imp_congr_right fun _=>(ND m cs e).2⟩
theorem ND (m:List (Nat×cr)):∀(cs:List Sh) (d:D),lX m cs d=(match d with
   | .agg ds=>.agg (xL m cs ds)
   |e=>xH m cs e)/\(kf m cs d↔(match d with
   | .agg ds=>xLO m cs ds
   |e=>xHO m cs e))
 |[],d=>by cases d<;>simp only[lX,xH,xL,kf,xHO,xLO,D.bN]<;>first|exact⟨trivial,Iff.rfl⟩|exact⟨trivial,trivial⟩
 |s::r,d=>by
  cases d<;>simp only[lX,xH,kf,xHO]<;>first
   |exact ab9 m s _
   |skip
  rename_i ds;exact⟨ak D.agg (Vm m (s::r) ds).1,(Vm m (s::r) ds).2⟩
theorem Vm (m:List (Nat×cr)):∀(cs:List Sh) (ds:List D),sg m cs ds=xL m cs ds/\(pI m cs ds↔xLO m cs ds)
 |[],ds=>by simp only[sg,xL,pI,xLO];exact⟨trivial,trivial⟩
 |s::r,[]=>by simp only[sg,xL,pI,xLO];exact⟨trivial,trivial⟩
 |s::r,d::ds=>by
  simp only[sg,xL,pI,xLO,(ab9 m s d).1,(Vm m r ds).1];exact⟨trivial,and_congr (ab9 m s d).2 (Vm m r ds).2⟩
end
theorem IJ (m:List (Nat×cr))(cs:List Sh)(d:D):lX m cs d=xV m cs d/\(kf m cs d↔xVO m cs d):=by
 have:=ND m cs d;cases d<;>exact this
def qG (m:List (Nat×cr)):List (List Sh)->List D->List D
 |_,[]=>[]
 |[],d::r=>xV m [.a] d::qG m [] r
 |s::ss,d::r=>xV m s d::qG m ss r
def mA (m:List (Nat×cr)):List (List Sh)->List D->Prop
 |_,[]=>True
 |[],d::r=>xVO m [.a] d/\mA m [] r
 |s::ss,d::r=>xVO m s d/\mA m ss r
theorem fg (m:List (Nat×cr)):∀(ss:List (List Sh)) (ds:List D),jZ m ss ds=qG m ss ds/\(lO m ss ds↔mA m ss ds)
 |ss,[]=>by simp[jZ,qG,lO,mA]
 |[],d::r=>by
  simp only[jZ,qG,lO,mA,(IJ m [.a] d).1,(fg m [] r).1];exact⟨trivial,and_congr (IJ m _ d).2 (fg m [] r).2⟩
 |s::ss,d::r=>by
  simp only[jZ,qG,lO,mA,(IJ m s d).1,(fg m ss r).1];exact⟨trivial,and_congr (IJ m _ d).2 (fg m ss r).2⟩
def Res (a:aN)(d:D):Ex->List cA->St->Prop:=fun e env st=>e.home/\tO st.m env a.res/\UM a env st/\retP a env st=d
def XM (a:aN)(env:List cA)(m:List (Nat×cr)):D:=match a.res with
 |[r]=>xV m (a.rsh.getD 0 []) (M1 m env r)
 |rs=>.tup (qG m a.rsh (tP m env rs))
def IK (a:aN)(env:List cA)(m:List (Nat×cr)):Prop:=match a.res with
 |[r]=>xVO m (a.rsh.getD 0 []) (M1 m env r)
 |rs=>mA m a.rsh (tP m env rs)
def aiS {a:aN}{d:D}{e:Ex}{nx:Nat}{m:List (Nat×cr)}(he:e.home)(h1:tO m env a.res)(h2:IK a env m)(h3:XM a env m=d):Res a d e env ⟨nx,m⟩:=by
 refine⟨he,h1, ?_, ?_⟩
 .unfold UM;unfold IK at h2;split<;>rename_i hr
  .rw[hr]at h2;exact(IJ _ _ _).2.2 h2
  .split at h2
   .rename_i hr2;exact absurd hr2 (hr _)
   .exact(fg _ _ _).2.2 h2
 grind [retP,XM,IJ,fg]
def VW (a:aN)(k:Nat)(vd sd:D):Ex->List cA->St->Prop:=fun e env st=>e.home/\tO st.m env a.res/\(nM a env st).bN=true/\nM a env st=vd/\look st.m 0=some (.buf k [sd])/\sd.bN=true
def js {a:aN}{k:Nat}{vd sd:D}{e:Ex}{nx:Nat}{m:List (Nat×cr)}(he:e.home)(h1:tO m env a.res)(h2:nM a env ⟨nx,m⟩=vd)(h3:look m 0=some (.buf k [sd]))(hn:vd.bN=true)(hs:sd.bN=true):VW a k vd sd e env ⟨nx,m⟩:=⟨he,h1,by rw[h2];exact hn,h2,h3,hs⟩
end
end
section
section
variable {Y:Ctx} {draw:Bool} {r:List GI} {env rs:List cA} {nx:Nat} {m:List (Nat×cr)} {K:List cA->St->Prop} {g:Option (Nat×Bool)} {f:Bool}
def at8 (s:List UInt8)(i:Nat):Int:=((s.getD i 0).toNat:Int)
def Zw (s:List UInt8)(i:Nat):0<=at8 s i/\at8 s i<256:=by
 have:=(s.getD i 0).toNat_lt;unfold at8;omega
def D.aie:D->Bool
 | .str _=>true
 |_=>false
def wrap_i64 {a:Int}(h1:-9223372036854775808<=a)(h2:a<=9223372036854775807):IntKind.i64.wrap a=a:=IntWalk.i64_in _ ae
def sN (a b:List UInt8):(a==b)=decide (a=b):=by
 grind
def getD_map {α:Type} [Inhabited α]{q:α->D}{xs:List α}{i:Nat}(h:i<xs.length):(xs.map q).getD i .any=q xs[i]! :=by
 simp[List.getD,h]
def ai2 (b:UInt8):(D.int .u8 b.toNat).u8=b:=by simp[D.u8]
def acF (s:List UInt8):D.str ((s.map fun b=>D.int .u8 b.toNat).map D.u8)=.str s:=by
 congr 1;rw[List.map_map]
 conv=>rhs;rw[<-List.map_id s]
 apply List.map_congr_left;intro b _;exact ai2 b
def GF (rs:List cA):Option (Nat×Bool)->Bool->Prop
 |none,f=>f=true
 |some (j,w),f=>∃ok b,dm [] rs (.l j)=⟨ok,.bool b⟩/\(ok&&(b==w))=f
def GF.flag (h:GF rs g f):flag rs.reverse g=f/\ze rs.reverse g:=by
 cases g with
 |none=>exact⟨h.symm,trivial⟩
 |some jw=>
  obtain⟨j,w⟩:=jw;obtain⟨ok,b,h1,h2⟩:=h;have h3:rs.reverse.getD j .un=⟨ok,.bool b⟩:=by rw[<-h1,<-pM];rfl
  simp only[Abs.flag,ze,h3,h2,D.isBool];exact⟨trivial,fun _=>trivial⟩
def abc {i:bd}(hM:i.dT=false)(hF:i.uv draw g=false)(hC:g.isSome=true->i.calm=true)(hg:GF rs g f)(d:D)(ho:f=true->i.ff Y (dm env rs) m)
  (hv:f=true->i.val Y (dm env rs) m (nx+rs.length)=d) (m':List (Nat×cr)) (hm:i.dr Y (dm env rs) m (nx+rs.length)=m')
  (h:(f=true->i.KN draw (dm env rs))->aY Y draw r env (⟨f,d⟩::rs) nx m' K):aY Y draw (⟨i,g⟩::r) env rs nx m K:=by
 obtain⟨hf,hb⟩:=hg.flag;unfold aY;rw[p7 hM hF,pM,hf];refine⟨?_,ho,fun ha=>⟨d,by simpa using hv, ?_⟩⟩
 .cases g with
  |none=>trivial
  |some jw=>exact⟨hC rfl,hb⟩
 grind [aY]
def iR {i:bd}(hC:i.calm=true)(hg:GF rs g f)(d:D)(ho:f=true->i.ff Y (dm env rs) m)
  (hv:f=true->i.val Y (dm env rs) m (nx+rs.length)=d) (m':List (Nat×cr)) (hm:i.dr Y (dm env rs) m (nx+rs.length)=m')
  (h:(f=true->i.KN draw (dm env rs))->aY Y draw r env (⟨f,d⟩::rs) nx m' K):aY Y draw (⟨i,g⟩::r) env rs nx m K:=
 abc (by cases i<;>first|rfl|cases hC) (by simp[bd.uv,hC]) (fun _=>hC) hg d ho hv m' hm h
def cF {i:bd}(hC:i.pure=true)(hg:GF rs g f)(d:D)(ho:f=true->i.ff Y (dm env rs) m)
  (hv:f=true->i.val Y (dm env rs) m (nx+rs.length)=d) 
  (h:(f=true->i.KN draw (dm env rs))->aY Y draw r env (⟨f,d⟩::rs) nx m K):aY Y draw (⟨i,g⟩::r) env rs nx m K:=
 iR (Xa hC) hg d ho hv m (aa6 hC) h
def uX {i:bd}(hM:i.dT=false)(d:D)(ho:i.ff Y (dm env rs) m)
  (hv:i.val Y (dm env rs) m (nx+rs.length)=d) (m':List (Nat×cr)) (hm:i.dr Y (dm env rs) m (nx+rs.length)=m')
  (h:i.KN draw (dm env rs)->aY Y draw r env (⟨true,d⟩::rs) nx m' K):aY Y draw (⟨i,none⟩::r) env rs nx m K:=
 abc hM (by simp[bd.uv]) (fun h=>by cases h) rfl d (fun _=>ho) (fun _=>hv) m' hm (fun ha=>h (ha rfl))
def r_mv {x:Src}{fx:Bool}{d:D}(h:aY Y draw r env (⟨f,d⟩::rs) nx m K)(hg:GF rs g f:=by exact dY)(hx:dm env rs x=⟨fx,d⟩:=by exact rfl)(kx:f=true->fx=true:=by exact cZ):aY Y draw (⟨.mv x,g⟩::r) env rs nx m K:=
 cF rfl hg _ (fun hf=>by simp[bd.ff,hx,kx hf]) (fun hf=>by simp[bd.val,hx]) (fun ha=>h)
def r_not {x:Src}{fx:Bool}{b:Bool}(h:aY Y draw r env (⟨f,.bool (!b)⟩::rs) nx m K)(hg:GF rs g f:=by exact dY)(hx:dm env rs x=⟨fx,.bool b⟩:=by exact rfl)(kx:f=true->fx=true:=by exact cZ):aY Y draw (⟨.un .not x,g⟩::r) env rs nx m K:=
 cF rfl hg _ (fun hf=>by simp[bd.ff,hx,kx hf]) (fun hf=>by simp[bd.val,hx]) (fun ha=>h)
def Hc {c b:Src}{fc fb t y:Bool}(h:aY Y draw r env (⟨f,.bool (t ||y)⟩::rs) nx m K)(hg:GF rs g f:=by exact dY)(hc:dm env rs c=⟨fc,.bool t⟩:=by exact rfl)(hb:dm env rs b=⟨fb,.bool y⟩:=by exact rfl)(kc:f=true->fc=true:=by exact cZ)(kb:f=true->t=false->fb=true:=by intro h1 h2;first|(rw[h2];exact rfl)|(rw[h2,h1];rfl)|(rw[h1,h2];rfl)|simp_all):aY Y draw (⟨.pick c (.c (.bool true)) b,g⟩::r) env rs nx m K:=
 cF rfl hg _ (fun hf=>by simp only[bd.ff,hc,hb];exact⟨kc hf,fun _=>rfl,fun e=>kb hf e⟩) (fun hf=>by simp only[bd.val,hc,hb];cases t<;>rfl) (fun _=>h)
def Ib {c a:Src}{fc fa t y:Bool}(h:aY Y draw r env (⟨f,.bool (t&&y)⟩::rs) nx m K)(hg:GF rs g f:=by exact dY)(hc:dm env rs c=⟨fc,.bool t⟩:=by exact rfl)(ha:dm env rs a=⟨fa,.bool y⟩:=by exact rfl)(kc:f=true->fc=true:=by exact cZ)(ka:f=true->t=true->fa=true:=by intro h1 h2;first|(rw[h2];exact rfl)|(rw[h2,h1];rfl)|(rw[h1,h2];rfl)|simp_all):aY Y draw (⟨.pick c a (.c (.bool false)),g⟩::r) env rs nx m K:=
 cF rfl hg _ (fun hf=>by simp only[bd.ff,hc,ha];exact⟨kc hf,fun e=>ka hf e,fun _=>rfl⟩) (fun hf=>by simp only[bd.val,hc,ha];cases t<;>rfl) (fun _=>h)
def adM {x y:Src}{fx fy:Bool}{a b:Int}(h:aY Y draw r env (⟨f,.int .i64 (a+b)⟩::rs) nx m K)(hg:GF rs g f:=by exact dY)(hx:dm env rs x=⟨fx,.int .i64 a⟩:=by exact rfl)(hy:dm env rs y=⟨fy,.int .i64 b⟩:=by exact rfl)(kx:f=true->fx=true:=by exact cZ)(ky:f=true->fy=true:=by exact cZ)(hb:f=true->-9223372036854775808<=a+b/\a+b<=9223372036854775807:=by exact TB):aY Y draw (⟨.bin .add x y,g⟩::r) env rs nx m K:=
 cF rfl hg _ (fun hf=>by simp[bd.ff,hx,hy,kx hf,ky hf,l8]) (fun hf=>by simp only[bd.val,hx,hy,nj];rw[wrap_i64 (hb hf).1 (hb hf).2]) (fun ha=>h)
def yi {x y:Src}{fx fy:Bool}{k:IntKind}{a b:Int}(v:Int)(h:aY Y draw r env (⟨f,.int k v⟩::rs) nx m K)(hg:GF rs g f:=by exact dY)(hx:dm env rs x=⟨fx,.int k a⟩:=by exact rfl)(hy:dm env rs y=⟨fy,.int k b⟩:=by exact rfl)(kx:f=true->fx=true:=by exact cZ)(ky:f=true->fy=true:=by exact cZ)(hb:f=true->k.wrap (a+b)=v):aY Y draw (⟨.bin .add x y,g⟩::r) env rs nx m K:=
 cF rfl hg _ (fun hf=>by simp[bd.ff,hx,hy,kx hf,ky hf,l8]) (fun hf=>by simp only[bd.val,hx,hy,nj];rw[hb hf]) (fun ha=>h)
def mz {x y:Src}{fx fy:Bool}{a b:Int}(h:aY Y draw r env (⟨f,.int .i64 (a-b)⟩::rs) nx m K)(hg:GF rs g f:=by exact dY)(hx:dm env rs x=⟨fx,.int .i64 a⟩:=by exact rfl)(hy:dm env rs y=⟨fy,.int .i64 b⟩:=by exact rfl)(kx:f=true->fx=true:=by exact cZ)(ky:f=true->fy=true:=by exact cZ)(hb:f=true->-9223372036854775808<=a-b/\a-b<=9223372036854775807:=by exact TB):aY Y draw (⟨.bin .sub x y,g⟩::r) env rs nx m K:=
 cF rfl hg _ (fun hf=>by simp[bd.ff,hx,hy,kx hf,ky hf,l8]) (fun hf=>by simp only[bd.val,hx,hy,nj];rw[wrap_i64 (hb hf).1 (hb hf).2]) (fun ha=>h)
def abl {x y:Src}{fx fy:Bool}{k:IntKind}{a b:Int}(v:Int)(h:aY Y draw r env (⟨f,.int k v⟩::rs) nx m K)(hg:GF rs g f:=by exact dY)(hx:dm env rs x=⟨fx,.int k a⟩:=by exact rfl)(hy:dm env rs y=⟨fy,.int k b⟩:=by exact rfl)(kx:f=true->fx=true:=by exact cZ)(ky:f=true->fy=true:=by exact cZ)(hb:f=true->k.wrap (a-b)=v):aY Y draw (⟨.bin .sub x y,g⟩::r) env rs nx m K:=
 cF rfl hg _ (fun hf=>by simp[bd.ff,hx,hy,kx hf,ky hf,l8]) (fun hf=>by simp only[bd.val,hx,hy,nj];rw[hb hf]) (fun ha=>h)
def C3 {x y:Src}{fx fy:Bool}{a b:Int}(h:aY Y draw r env (⟨f,.int .i64 (a*b)⟩::rs) nx m K)(hg:GF rs g f:=by exact dY)(hx:dm env rs x=⟨fx,.int .i64 a⟩:=by exact rfl)(hy:dm env rs y=⟨fy,.int .i64 b⟩:=by exact rfl)(kx:f=true->fx=true:=by exact cZ)(ky:f=true->fy=true:=by exact cZ)(hb:f=true->-9223372036854775808<=a*b/\a*b<=9223372036854775807:=by exact TB):aY Y draw (⟨.bin .mul x y,g⟩::r) env rs nx m K:=
 cF rfl hg _ (fun hf=>by simp[bd.ff,hx,hy,kx hf,ky hf,l8]) (fun hf=>by simp only[bd.val,hx,hy,nj];rw[wrap_i64 (hb hf).1 (hb hf).2]) (fun ha=>h)
def r_quo {x y:Src}{fx fy:Bool}{k:IntKind}{a b:Int}(v:Int)(h:aY Y draw r env (⟨f,.int k v⟩::rs) nx m K)(hg:GF rs g f:=by exact dY)(hx:dm env rs x=⟨fx,.int k a⟩:=by exact rfl)(hy:dm env rs y=⟨fy,.int k b⟩:=by exact rfl)(kx:f=true->fx=true:=by exact cZ)(ky:f=true->fy=true:=by exact cZ)(hn:f=true->b≠0)(hb:f=true->k.wrap (a.tdiv b)=v):aY Y draw (⟨.bin .quo x y,g⟩::r) env rs nx m K:=
 cF rfl hg _ (fun hf=>by simp[bd.ff,hx,hy,kx hf,ky hf,l8,hn hf]) (fun hf=>by simp only[bd.val,hx,hy,nj];rw[hb hf]) (fun ha=>h)
def UI {x y:Src}{fx fy:Bool}{k:IntKind}{a b:Int}(v:Int)(h:aY Y draw r env (⟨f,.int k v⟩::rs) nx m K)(hg:GF rs g f:=by exact dY)(hx:dm env rs x=⟨fx,.int k a⟩:=by exact rfl)(hy:dm env rs y=⟨fy,.int k b⟩:=by exact rfl)(kx:f=true->fx=true:=by exact cZ)(ky:f=true->fy=true:=by exact cZ)(hn:f=true->b≠0)(hb:f=true->a.tmod b=v):aY Y draw (⟨.bin .rem x y,g⟩::r) env rs nx m K:=
 cF rfl hg _ (fun hf=>by simp[bd.ff,hx,hy,kx hf,ky hf,l8,hn hf]) (fun hf=>by simp only[bd.val,hx,hy,nj];rw[hb hf]) (fun ha=>h)
def UJ {x y:Src}{fx fy:Bool}{k k2:IntKind}{a b:Int}(v:Int)(h:aY Y draw r env (⟨f,.int k v⟩::rs) nx m K)(hg:GF rs g f:=by exact dY)(hx:dm env rs x=⟨fx,.int k a⟩:=by exact rfl)(hy:dm env rs y=⟨fy,.int k2 b⟩:=by exact rfl)(kx:f=true->fx=true:=by exact cZ)(ky:f=true->fy=true:=by exact cZ)(hn:f=true->0<=b:=by exact zD)(hb:f=true->a.fdiv (2^(min b.toNat k.bits))=v):aY Y draw (⟨.bin .shr x y,g⟩::r) env rs nx m K:=
 cF rfl hg _ (fun hf=>by simp[bd.ff,hx,hy,kx hf,ky hf,l8,hn hf]) (fun hf=>by simp only[bd.val,hx,hy,nj];rw[hb hf]) (fun ha=>h)
def JS {x y:Src}{fx fy:Bool}{k:IntKind}{a b:Int}(v:Int)(h:aY Y draw r env (⟨f,.int k v⟩::rs) nx m K)(hg:GF rs g f:=by exact dY)(hx:dm env rs x=⟨fx,.int k a⟩:=by exact rfl)(hy:dm env rs y=⟨fy,.int k b⟩:=by exact rfl)(kx:f=true->fx=true:=by exact cZ)(ky:f=true->fy=true:=by exact cZ)(hb:f=true->k.wrap (((BitVec.ofInt k.bits a)&&&(BitVec.ofInt k.bits b)).toNat)=v):aY Y draw (⟨.bin .and x y,g⟩::r) env rs nx m K:=
 cF rfl hg _ (fun hf=>by simp[bd.ff,hx,hy,kx hf,ky hf,l8]) (fun hf=>by simp only[bd.val,hx,hy,nj];rw[hb hf]) (fun ha=>h)
def aiK {x y:Src}{fx fy:Bool}{k:IntKind}{a b:Int}(h:aY Y draw r env (⟨f,.bool (decide (a<b))⟩::rs) nx m K)(hg:GF rs g f:=by exact dY)(hx:dm env rs x=⟨fx,.int k a⟩:=by exact rfl)(hy:dm env rs y=⟨fy,.int k b⟩:=by exact rfl)(kx:f=true->fx=true:=by exact cZ)(ky:f=true->fy=true:=by exact cZ):aY Y draw (⟨.bin .lss x y,g⟩::r) env rs nx m K:=
 cF rfl hg _ (fun hf=>by simp[bd.ff,hx,hy,kx hf,ky hf,l8]) (fun hf=>by simp only[bd.val,hx,hy,nj]<;>rfl) (fun ha=>h)
def aiI {x y:Src}{fx fy:Bool}{k:IntKind}{a b:Int}(h:aY Y draw r env (⟨f,.bool (decide (a<=b))⟩::rs) nx m K)(hg:GF rs g f:=by exact dY)(hx:dm env rs x=⟨fx,.int k a⟩:=by exact rfl)(hy:dm env rs y=⟨fy,.int k b⟩:=by exact rfl)(kx:f=true->fx=true:=by exact cZ)(ky:f=true->fy=true:=by exact cZ):aY Y draw (⟨.bin .leq x y,g⟩::r) env rs nx m K:=
 cF rfl hg _ (fun hf=>by simp[bd.ff,hx,hy,kx hf,ky hf,l8]) (fun hf=>by simp only[bd.val,hx,hy,nj]<;>rfl) (fun ha=>h)
def SG {x y:Src}{fx fy:Bool}{k:IntKind}{a b:Int}(h:aY Y draw r env (⟨f,.bool (decide (b<a))⟩::rs) nx m K)(hg:GF rs g f:=by exact dY)(hx:dm env rs x=⟨fx,.int k a⟩:=by exact rfl)(hy:dm env rs y=⟨fy,.int k b⟩:=by exact rfl)(kx:f=true->fx=true:=by exact cZ)(ky:f=true->fy=true:=by exact cZ):aY Y draw (⟨.bin .gtr x y,g⟩::r) env rs nx m K:=
 cF rfl hg _ (fun hf=>by simp[bd.ff,hx,hy,kx hf,ky hf,l8]) (fun hf=>by simp only[bd.val,hx,hy,nj]<;>rfl) (fun ha=>h)
def aiD {x y:Src}{fx fy:Bool}{k:IntKind}{a b:Int}(h:aY Y draw r env (⟨f,.bool (decide (b<=a))⟩::rs) nx m K)(hg:GF rs g f:=by exact dY)(hx:dm env rs x=⟨fx,.int k a⟩:=by exact rfl)(hy:dm env rs y=⟨fy,.int k b⟩:=by exact rfl)(kx:f=true->fx=true:=by exact cZ)(ky:f=true->fy=true:=by exact cZ):aY Y draw (⟨.bin .geq x y,g⟩::r) env rs nx m K:=
 cF rfl hg _ (fun hf=>by simp[bd.ff,hx,hy,kx hf,ky hf,l8]) (fun hf=>by simp only[bd.val,hx,hy,nj]<;>rfl) (fun ha=>h)
def aiB {x y:Src}{fx fy:Bool}{k:IntKind}{a b:Int}(h:aY Y draw r env (⟨f,.bool (decide (a=b))⟩::rs) nx m K)(hg:GF rs g f:=by exact dY)(hx:dm env rs x=⟨fx,.int k a⟩:=by exact rfl)(hy:dm env rs y=⟨fy,.int k b⟩:=by exact rfl)(kx:f=true->fx=true:=by exact cZ)(ky:f=true->fy=true:=by exact cZ):aY Y draw (⟨.bin .eql x y,g⟩::r) env rs nx m K:=
 cF rfl hg _ (fun hf=>by simp[bd.ff,hx,hy,kx hf,ky hf,l8]) (fun hf=>by simp only[bd.val,hx,hy,nj]<;>rfl) (fun ha=>h)
def aiM {x y:Src}{fx fy:Bool}{k:IntKind}{a b:Int}(h:aY Y draw r env (⟨f,.bool (!decide (a=b))⟩::rs) nx m K)(hg:GF rs g f:=by exact dY)(hx:dm env rs x=⟨fx,.int k a⟩:=by exact rfl)(hy:dm env rs y=⟨fy,.int k b⟩:=by exact rfl)(kx:f=true->fx=true:=by exact cZ)(ky:f=true->fy=true:=by exact cZ):aY Y draw (⟨.bin .neq x y,g⟩::r) env rs nx m K:=
 cF rfl hg _ (fun hf=>by simp[bd.ff,hx,hy,kx hf,ky hf,l8]) (fun hf=>by simp only[bd.val,hx,hy,nj]<;>rfl) (fun ha=>h)
def aiL {x y:Src}{fx fy:Bool}{a b:List UInt8}(h:aY Y draw r env (⟨f,.bool (Op.bytesLess a b)⟩::rs) nx m K)(hg:GF rs g f:=by exact dY)(hx:dm env rs x=⟨fx,.str a⟩:=by exact rfl)(hy:dm env rs y=⟨fy,.str b⟩:=by exact rfl)(kx:f=true->fx=true:=by exact cZ)(ky:f=true->fy=true:=by exact cZ):aY Y draw (⟨.bin .lss x y,g⟩::r) env rs nx m K:=
 cF rfl hg _ (fun hf=>by simp[bd.ff,hx,hy,kx hf,ky hf,l8]) (fun hf=>by simp only[bd.val,hx,hy,nj,sN]) (fun ha=>h)
def aiJ {x y:Src}{fx fy:Bool}{a b:List UInt8}(h:aY Y draw r env (⟨f,.bool (Op.bytesLess a b ||decide (a=b))⟩::rs) nx m K)(hg:GF rs g f:=by exact dY)(hx:dm env rs x=⟨fx,.str a⟩:=by exact rfl)(hy:dm env rs y=⟨fy,.str b⟩:=by exact rfl)(kx:f=true->fx=true:=by exact cZ)(ky:f=true->fy=true:=by exact cZ):aY Y draw (⟨.bin .leq x y,g⟩::r) env rs nx m K:=
 cF rfl hg _ (fun hf=>by simp[bd.ff,hx,hy,kx hf,ky hf,l8]) (fun hf=>by simp only[bd.val,hx,hy,nj,sN]) (fun ha=>h)
def SH {x y:Src}{fx fy:Bool}{a b:List UInt8}(h:aY Y draw r env (⟨f,.bool (!(Op.bytesLess a b ||decide (a=b)))⟩::rs) nx m K)(hg:GF rs g f:=by exact dY)(hx:dm env rs x=⟨fx,.str a⟩:=by exact rfl)(hy:dm env rs y=⟨fy,.str b⟩:=by exact rfl)(kx:f=true->fx=true:=by exact cZ)(ky:f=true->fy=true:=by exact cZ):aY Y draw (⟨.bin .gtr x y,g⟩::r) env rs nx m K:=
 cF rfl hg _ (fun hf=>by simp[bd.ff,hx,hy,kx hf,ky hf,l8]) (fun hf=>by simp only[bd.val,hx,hy,nj,sN]) (fun ha=>h)
def aiE {x y:Src}{fx fy:Bool}{a b:List UInt8}(h:aY Y draw r env (⟨f,.bool (!Op.bytesLess a b)⟩::rs) nx m K)(hg:GF rs g f:=by exact dY)(hx:dm env rs x=⟨fx,.str a⟩:=by exact rfl)(hy:dm env rs y=⟨fy,.str b⟩:=by exact rfl)(kx:f=true->fx=true:=by exact cZ)(ky:f=true->fy=true:=by exact cZ):aY Y draw (⟨.bin .geq x y,g⟩::r) env rs nx m K:=
 cF rfl hg _ (fun hf=>by simp[bd.ff,hx,hy,kx hf,ky hf,l8]) (fun hf=>by simp only[bd.val,hx,hy,nj,sN]) (fun ha=>h)
def aiC {x y:Src}{fx fy:Bool}{a b:List UInt8}(h:aY Y draw r env (⟨f,.bool (decide (a=b))⟩::rs) nx m K)(hg:GF rs g f:=by exact dY)(hx:dm env rs x=⟨fx,.str a⟩:=by exact rfl)(hy:dm env rs y=⟨fy,.str b⟩:=by exact rfl)(kx:f=true->fx=true:=by exact cZ)(ky:f=true->fy=true:=by exact cZ):aY Y draw (⟨.bin .eql x y,g⟩::r) env rs nx m K:=
 cF rfl hg _ (fun hf=>by simp[bd.ff,hx,hy,kx hf,ky hf,l8]) (fun hf=>by simp only[bd.val,hx,hy,nj,sN]) (fun ha=>h)
def aiN {x y:Src}{fx fy:Bool}{a b:List UInt8}(h:aY Y draw r env (⟨f,.bool (!decide (a=b))⟩::rs) nx m K)(hg:GF rs g f:=by exact dY)(hx:dm env rs x=⟨fx,.str a⟩:=by exact rfl)(hy:dm env rs y=⟨fy,.str b⟩:=by exact rfl)(kx:f=true->fx=true:=by exact cZ)(ky:f=true->fy=true:=by exact cZ):aY Y draw (⟨.bin .neq x y,g⟩::r) env rs nx m K:=
 cF rfl hg _ (fun hf=>by simp[bd.ff,hx,hy,kx hf,ky hf,l8]) (fun hf=>by simp only[bd.val,hx,hy,nj,sN]) (fun ha=>h)
def dD {x y:Src}{fx fy:Bool}{a b:List UInt8}(h:aY Y draw r env (⟨f,.str (a++b)⟩::rs) nx m K)(hg:GF rs g f:=by exact dY)(hx:dm env rs x=⟨fx,.str a⟩:=by exact rfl)(hy:dm env rs y=⟨fy,.str b⟩:=by exact rfl)(kx:f=true->fx=true:=by exact cZ)(ky:f=true->fy=true:=by exact cZ)(hb:f=true->a.length+b.length<=9223372036854775807):aY Y draw (⟨.bin .add x y,g⟩::r) env rs nx m K:=
 cF rfl hg _ (fun hf=>by simp[bd.ff,hx,hy,kx hf,ky hf,l8,hb hf]) (fun hf=>by simp only[bd.val,hx,hy,nj]) (fun ha=>h)
def r_eqP {x y:Src}{fx fy:Bool}{ag:Bool}{ks:List CK}{a b:D}{v:Bool}(h:aY Y draw r env (⟨f,.bool (v)⟩::rs) nx m K)(hb:jm a.cells b.cells=v)(hg:GF rs g f:=by exact dY)(hx:dm env rs x=⟨fx,a⟩:=by exact rfl)(hy:dm env rs y=⟨fy,b⟩:=by exact rfl)(kx:f=true->fx=true:=by exact cZ)(ky:f=true->fy=true:=by exact cZ)(h1:f=true->a.isAgg=ag/\b.isAgg=ag/\ix ks a.cells/\ix ks b.cells:=by exact CG):aY Y draw (⟨.eqA false ag ks x y,g⟩::r) env rs nx m K:=
 cF rfl hg _ (fun hf=>by simp only[bd.ff,hx,hy];exact⟨kx hf,ky hf,h1 hf⟩) (fun hf=>by simp only[bd.val,hx,hy];rw[hb];rfl) (fun ha=>h)
def UH {x y:Src}{fx fy:Bool}{ag:Bool}{ks:List CK}{a b:D}{v:Bool}(h:aY Y draw r env (⟨f,.bool (!v)⟩::rs) nx m K)(hb:jm a.cells b.cells=v)(hg:GF rs g f:=by exact dY)(hx:dm env rs x=⟨fx,a⟩:=by exact rfl)(hy:dm env rs y=⟨fy,b⟩:=by exact rfl)(kx:f=true->fx=true:=by exact cZ)(ky:f=true->fy=true:=by exact cZ)(h1:f=true->a.isAgg=ag/\b.isAgg=ag/\ix ks a.cells/\ix ks b.cells:=by exact CG):aY Y draw (⟨.eqA true ag ks x y,g⟩::r) env rs nx m K:=
 cF rfl hg _ (fun hf=>by simp only[bd.ff,hx,hy];exact⟨kx hf,ky hf,h1 hf⟩) (fun hf=>by simp only[bd.val,hx,hy];rw[hb];rfl) (fun ha=>h)
def B4 {x:Src}{fx:Bool}{k k2:IntKind}{a:Int}(v:Int)(h:aY Y draw r env (⟨f,.int k v⟩::rs) nx m K)(hg:GF rs g f:=by exact dY)(hx:dm env rs x=⟨fx,.int k2 a⟩:=by exact rfl)(kx:f=true->fx=true:=by exact cZ)(hb:f=true->k.wrap a=v):aY Y draw (⟨.cvi k x,g⟩::r) env rs nx m K:=
 cF rfl hg _ (fun hf=>by simp[bd.ff,hx,kx hf]) (fun hf=>by simp only[bd.val,hx];rw[hb hf]) (fun ha=>h)
def abk {x:Src}{fx:Bool}{s:List UInt8}(h:(f=true->draw=false->s.length<=9223372036854775807)->aY Y draw r env (⟨f,.int .i64 s.length⟩::rs) nx m K)(hg:GF rs g f:=by exact dY)(hx:dm env rs x=⟨fx,.str s⟩:=by exact rfl)(kx:f=true->fx=true:=by exact cZ):aY Y draw (⟨.lenS x,g⟩::r) env rs nx m K:=
 cF rfl hg _ (fun hf=>by simp[bd.ff,hx,kx hf]) (fun hf=>by simp[bd.val,hx]) (fun ha=>h (fun hf hd=>by have:=ha hf;subst hd;simpa[bd.KN,hx,kx hf]using this))
def abi {x:Src}{fx:Bool}{α:Type}{k:Nat}{q:α->D}{xs:List α}(h:(f=true->draw=false->xs.length<=9223372036854775807)->aY Y draw r env (⟨f,.int .i64 xs.length⟩::rs) nx m K)(hg:GF rs g f:=by exact dY)(hx:dm env rs x=⟨fx,.sl k (xs.map q)⟩:=by exact rfl)(kx:f=true->fx=true:=by exact cZ):aY Y draw (⟨.len x,g⟩::r) env rs nx m K:=
 cF rfl hg _ (fun hf=>by simp[bd.ff,hx,kx hf]) (fun hf=>by simp[bd.val,hx]) (fun ha=>h (fun hf hd=>by have:=ha hf;subst hd;simpa[bd.KN,hx,kx hf]using this))
def abj {x:Src}{fx:Bool}{l k i n:Nat}(h:(f=true->draw=false->n<=9223372036854775807)->aY Y draw r env (⟨f,.int .i64 n⟩::rs) nx m K)(hg:GF rs g f:=by exact dY)(hx:dm env rs x=⟨fx,.own l k i n⟩:=by exact rfl)(kx:f=true->fx=true:=by exact cZ):aY Y draw (⟨.len x,g⟩::r) env rs nx m K:=
 cF rfl hg _ (fun hf=>by simp[bd.ff,hx,kx hf]) (fun hf=>by simp[bd.val,hx]) (fun ha=>h (fun hf hd=>by have:=ha hf;subst hd;simpa[bd.KN,hx,kx hf]using this))
def aiH {x:Src}{fx:Bool}(h:aY Y draw r env (⟨f,.int .i64 0⟩::rs) nx m K)(hg:GF rs g f:=by exact dY)(hx:dm env rs x=⟨fx,.bg⟩:=by exact rfl)(kx:f=true->fx=true:=by exact cZ):aY Y draw (⟨.len x,g⟩::r) env rs nx m K:=
 cF rfl hg _ (fun hf=>by simp[bd.ff,hx,kx hf]) (fun hf=>by simp[bd.val,hx]) (fun ha=>h)
def aiO {x:Src}{fx:Bool}{l k i o:Nat}(h:aY Y draw r env (⟨f,.ptr l k i o⟩::rs) nx m K)(hg:GF rs g f:=by exact dY)(hx:dm env rs x=⟨fx,.ptr l k i o⟩:=by exact rfl)(kx:f=true->fx=true:=by exact cZ):aY Y draw (⟨.nilck x,g⟩::r) env rs nx m K:=
 cF rfl hg _ (fun hf=>by simp[bd.ff,hx,kx hf]) (fun hf=>by simp[bd.val,hx]) (fun ha=>h)
def aiP {x:Src}{fx:Bool}{k i o:Nat}{es:List D}(h:aY Y draw r env (⟨f,.ref k es i o⟩::rs) nx m K)(hg:GF rs g f:=by exact dY)(hx:dm env rs x=⟨fx,.ref k es i o⟩:=by exact rfl)(kx:f=true->fx=true:=by exact cZ):aY Y draw (⟨.nilck x,g⟩::r) env rs nx m K:=
 cF rfl hg _ (fun hf=>by simp[bd.ff,hx,kx hf]) (fun hf=>by simp[bd.val,hx]) (fun ha=>h)
def r_faP {x:Src}{fx:Bool}{off l k i o:Nat}(h:aY Y draw r env (⟨f,.ptr l k i (o+off)⟩::rs) nx m K)(hg:GF rs g f:=by exact dY)(hx:dm env rs x=⟨fx,.ptr l k i o⟩:=by exact rfl)(kx:f=true->fx=true:=by exact cZ):aY Y draw (⟨.fa off x,g⟩::r) env rs nx m K:=
 cF rfl hg _ (fun hf=>by simp[bd.ff,hx,kx hf]) (fun hf=>by simp[bd.val,hx]) (fun ha=>h)
def r_faR {x:Src}{fx:Bool}{off k i o:Nat}{es:List D}(h:aY Y draw r env (⟨f,.ref k es i (o+off)⟩::rs) nx m K)(hg:GF rs g f:=by exact dY)(hx:dm env rs x=⟨fx,.ref k es i o⟩:=by exact rfl)(kx:f=true->fx=true:=by exact cZ):aY Y draw (⟨.fa off x,g⟩::r) env rs nx m K:=
 cF rfl hg _ (fun hf=>by simp[bd.ff,hx,kx hf]) (fun hf=>by simp[bd.val,hx]) (fun ha=>h)
def bz {x y:Src}{fx fy:Bool}{α:Type}{k:Nat}{q:α->D}{xs:List α}{i:Int}{kk:IntKind}(j:Nat)(h:aY Y draw r env (⟨f,.ref k (xs.map q) j 0⟩::rs) nx m K)(hg:GF rs g f:=by exact dY)(hx:dm env rs x=⟨fx,.sl k (xs.map q)⟩:=by exact rfl)(hy:dm env rs y=⟨fy,.int kk i⟩:=by exact rfl)(kx:f=true->fx=true:=by exact cZ)(ky:f=true->fy=true:=by exact cZ)(hj:f=true->i=(j:Int):=by exact CF)(hb:f=true->j<xs.length:=by exact zD):aY Y draw (⟨.ia k x y,g⟩::r) env rs nx m K:=
 cF rfl hg _ (fun hf=>by simp only[bd.ff,hx,hy,bB];exact⟨kx hf,ky hf,trivial,by have:=hj hf;omega,by have:=hj hf;have:=hb hf;omega⟩) (fun hf=>by simp only[bd.val,hx,hy];rw[hj hf];rfl) (fun ha=>h)
def kg {x y:Src}{fx fy:Bool}{l k i0 n:Nat}{i:Int}{kk:IntKind}(j:Nat)(h:aY Y draw r env (⟨f,.ptr l k (i0+j) 0⟩::rs) nx m K)(hg:GF rs g f:=by exact dY)(hx:dm env rs x=⟨fx,.own l k i0 n⟩:=by exact rfl)(hy:dm env rs y=⟨fy,.int kk i⟩:=by exact rfl)(kx:f=true->fx=true:=by exact cZ)(ky:f=true->fy=true:=by exact cZ)(hj:f=true->i=(j:Int):=by exact CF)(hb:f=true->j<n:=by exact zD):aY Y draw (⟨.ia k x y,g⟩::r) env rs nx m K:=
 cF rfl hg _ (fun hf=>by simp only[bd.ff,hx,hy];exact⟨kx hf,ky hf,trivial,by have:=hj hf;omega,by have:=hj hf;have:=hb hf;omega⟩) (fun hf=>by simp only[bd.val,hx,hy];rw[hj hf];rfl) (fun ha=>h)
def uV {x y:Src}{fx fy:Bool}{l k k2 n i0 o:Nat}{i:Int}{kk:IntKind}(j:Nat)(h:aY Y draw r env (⟨f,.ptr l k2 i0 (o+j*k)⟩::rs) nx m K)(hg:GF rs g f:=by exact dY)(hx:dm env rs x=⟨fx,.ptr l k2 i0 o⟩:=by exact rfl)(hy:dm env rs y=⟨fy,.int kk i⟩:=by exact rfl)(kx:f=true->fx=true:=by exact cZ)(ky:f=true->fy=true:=by exact cZ)(hj:f=true->i=(j:Int):=by exact CF)(hb:f=true->j<n:=by exact zD):aY Y draw (⟨.iaP n k x y,g⟩::r) env rs nx m K:=
 cF rfl hg _ (fun hf=>by simp only[bd.ff,hx,hy];exact⟨kx hf,ky hf,by have:=hj hf;omega,by have:=hj hf;have:=hb hf;omega⟩) (fun hf=>by simp only[bd.val,hx,hy];rw[hj hf];rfl) (fun ha=>h)
def SI {x y:Src}{fx fy:Bool}{k k2 n i0 o:Nat}{es:List D}{i:Int}{kk:IntKind}(j:Nat)(h:aY Y draw r env (⟨f,.ref k2 es i0 (o+j*k)⟩::rs) nx m K)(hg:GF rs g f:=by exact dY)(hx:dm env rs x=⟨fx,.ref k2 es i0 o⟩:=by exact rfl)(hy:dm env rs y=⟨fy,.int kk i⟩:=by exact rfl)(kx:f=true->fx=true:=by exact cZ)(ky:f=true->fy=true:=by exact cZ)(hj:f=true->i=(j:Int):=by first|exact fun _=>rfl|(intro _;omega))(hb:f=true->j<n:=by intro _;omega):aY Y draw (⟨.iaP n k x y,g⟩::r) env rs nx m K:=
 cF rfl hg _ (fun hf=>by simp only[bd.ff,hx,hy];exact⟨kx hf,ky hf,by have:=hj hf;omega,by have:=hj hf;have:=hb hf;omega⟩) (fun hf=>by simp only[bd.val,hx,hy];rw[hj hf];rfl) (fun ha=>h)
def sj {x y:Src}{fx fy:Bool}{s:List UInt8}{i:Int}{kk:IntKind}(j:Nat)(h:aY Y draw r env (⟨f,.int .u8 (at8 s j)⟩::rs) nx m K)(hg:GF rs g f:=by exact dY)(hx:dm env rs x=⟨fx,.str s⟩:=by exact rfl)(hy:dm env rs y=⟨fy,.int kk i⟩:=by exact rfl)(kx:f=true->fx=true:=by exact cZ)(ky:f=true->fy=true:=by exact cZ)(hj:f=true->i=(j:Int):=by exact CF)(hb:f=true->j<s.length:=by exact zD):aY Y draw (⟨.ixS x y,g⟩::r) env rs nx m K:=
 cF rfl hg _ (fun hf=>by simp only[bd.ff,hx,hy];exact⟨kx hf,ky hf,by have:=hj hf;omega,by have:=hj hf;have:=hb hf;omega⟩) (fun hf=>by simp only[bd.val,hx,hy];rw[hj hf];rfl) (fun ha=>h)
def Mw {x y:Src}{fx fy:Bool}{n k:Nat}{ag:Bool}{cs:List D}{i:Int}{kk:IntKind}(j:Nat)(v:D)(h:aY Y draw r env (⟨f,v⟩::rs) nx m K)(hg:GF rs g f:=by exact dY)(hx:dm env rs x=⟨fx,.agg cs⟩:=by exact rfl)(hy:dm env rs y=⟨fy,.int kk i⟩:=by exact rfl)(kx:f=true->fx=true:=by exact cZ)(ky:f=true->fy=true:=by exact cZ)(hj:f=true->i=(j:Int):=by exact CF)(hb:f=true->j<n:=by exact zD)(hl:cs.length=n*k:=by exact rfl)(h1:ag=false->k=1:=by intro h;first|exact rfl|cases h)(hv:f=true->cut cs (j*k) k ag=v):aY Y draw (⟨.ixA n k ag x y,g⟩::r) env rs nx m K:=
 cF rfl hg _ (fun hf=>by simp only[bd.ff,hx,hy];exact⟨kx hf,ky hf,h1,by have:=hj hf;omega,by have:=hj hf;have:=hb hf;omega,hl⟩) (fun hf=>by simp only[bd.val,hx,hy];rw[<-hv hf,hj hf];rfl) (fun ha=>h)
def abd {x y:Src}{fx fy:Bool}{α:Type}{k:Nat}{q:α->D}{xs:List α}{i:Int}{kk:IntKind}(h:aY Y draw r env (⟨f,.ref k (xs.map q) i.toNat 0⟩::rs) nx m K)(hg:GF rs g f:=by exact dY)(hx:dm env rs x=⟨fx,.sl k (xs.map q)⟩:=by exact rfl)(hy:dm env rs y=⟨fy,.int kk i⟩:=by exact rfl)(kx:f=true->fx=true:=by exact cZ)(ky:f=true->fy=true:=by exact cZ)(hb:f=true->0<=i/\i<(xs.length:Nat):=by exact TB):aY Y draw (⟨.ia k x y,g⟩::r) env rs nx m K:=
 cF rfl hg _ (fun hf=>by simp only[bd.ff,hx,hy,bB];exact⟨kx hf,ky hf,trivial,(hb hf).1,(hb hf).2⟩) (fun hf=>by simp only[bd.val,hx,hy]<;>rfl) (fun ha=>h)
def aiF {x y:Src}{fx fy:Bool}{l k i0 n:Nat}{i:Int}{kk:IntKind}(h:aY Y draw r env (⟨f,.ptr l k (i0+i.toNat) 0⟩::rs) nx m K)(hg:GF rs g f:=by exact dY)(hx:dm env rs x=⟨fx,.own l k i0 n⟩:=by exact rfl)(hy:dm env rs y=⟨fy,.int kk i⟩:=by exact rfl)(kx:f=true->fx=true:=by exact cZ)(ky:f=true->fy=true:=by exact cZ)(hb:f=true->0<=i/\i<(n:Nat):=by exact TB):aY Y draw (⟨.ia k x y,g⟩::r) env rs nx m K:=
 cF rfl hg _ (fun hf=>by simp only[bd.ff,hx,hy,bB];exact⟨kx hf,ky hf,trivial,(hb hf).1,(hb hf).2⟩) (fun hf=>by simp only[bd.val,hx,hy]<;>rfl) (fun ha=>h)
def aiG {x y:Src}{fx fy:Bool}{s:List UInt8}{i:Int}{kk:IntKind}(h:aY Y draw r env (⟨f,.int .u8 (at8 s i.toNat)⟩::rs) nx m K)(hg:GF rs g f:=by exact dY)(hx:dm env rs x=⟨fx,.str s⟩:=by exact rfl)(hy:dm env rs y=⟨fy,.int kk i⟩:=by exact rfl)(kx:f=true->fx=true:=by exact cZ)(ky:f=true->fy=true:=by exact cZ)(hb:f=true->0<=i/\i<(s.length:Nat):=by exact TB):aY Y draw (⟨.ixS x y,g⟩::r) env rs nx m K:=
 cF rfl hg _ (fun hf=>by simp only[bd.ff,hx,hy,bB];exact⟨kx hf,ky hf,(hb hf).1,(hb hf).2⟩) (fun hf=>by simp only[bd.val,hx,hy]<;>rfl) (fun ha=>h)
def ga {x y:Src}{fx fy:Bool}{s:List UInt8}{k2:IntKind}{a:Int}(i:Nat)(h:aY Y draw r env (⟨f,.str (s.drop i)⟩::rs) nx m K)(hg:GF rs g f:=by exact dY)(hx:dm env rs x=⟨fx,.str s⟩:=by exact rfl)(hy:dm env rs y=⟨fy,.int k2 a⟩:=by exact rfl)(kx:f=true->fx=true:=by exact cZ)(ky:f=true->fy=true:=by exact cZ)(hi:f=true->a=(i:Int):=by exact CF)(hb:f=true->i<=s.length:=by exact zD):aY Y draw (⟨.slS x (some y) none,g⟩::r) env rs nx m K:=
 cF rfl hg _ (fun hf=>by simp only[bd.ff,XP,dO,hx,hy];have:=hb hf;have:=hi hf;refine⟨kx hf,ky hf,trivial, ?_⟩;simp only[sP,fV,cj,cb,Int.ofNat_eq_natCast];omega) (fun hf=>by simp only[bd.val,dO,fV,hx,hy];rw[hi hf];simp) (fun ha=>h)
def sk {x y:Src}{fx fy:Bool}{α:Type}{k:Nat}{q:α->D}{s:List α}{k2:IntKind}{a:Int}(i:Nat)(h:aY Y draw r env (⟨f,.sl k ((s.drop i).map q)⟩::rs) nx m K)(hg:GF rs g f:=by exact dY)(hx:dm env rs x=⟨fx,.sl k (s.map q)⟩:=by exact rfl)(hy:dm env rs y=⟨fy,.int k2 a⟩:=by exact rfl)(kx:f=true->fx=true:=by exact cZ)(ky:f=true->fy=true:=by exact cZ)(hi:f=true->a=(i:Int):=by exact CF)(hb:f=true->i<=s.length:=by exact zD):aY Y draw (⟨.slA k x (some y) none,g⟩::r) env rs nx m K:=
 cF rfl hg _ (fun hf=>by simp only[bd.ff,XP,dO,hx,hy,bB];have:=hb hf;have:=hi hf;refine⟨kx hf,ky hf,trivial,trivial, ?_⟩;simp only[sP,fV,cj,cb,Int.ofNat_eq_natCast];omega) (fun hf=>by simp only[bd.val,dO,fV,hx,hy];rw[hi hf];first|(simp only[List.take_length,Int.toNat_natCast,List.map_drop];done)|simp[List.map_drop,List.map_take]) (fun ha=>h)
def lf {x z:Src}{fx fz:Bool}{s:List UInt8}{k3:IntKind}{c:Int}(j:Nat)(h:aY Y draw r env (⟨f,.str (s.take j)⟩::rs) nx m K)(hg:GF rs g f:=by exact dY)(hx:dm env rs x=⟨fx,.str s⟩:=by exact rfl)(hz:dm env rs z=⟨fz,.int k3 c⟩:=by exact rfl)(kx:f=true->fx=true:=by exact cZ)(kz:f=true->fz=true:=by exact cZ)(hj:f=true->c=(j:Int):=by exact CF)(hb:f=true->j<=s.length:=by exact zD):aY Y draw (⟨.slS x none (some z),g⟩::r) env rs nx m K:=
 cF rfl hg _ (fun hf=>by simp only[bd.ff,XP,dO,hx,hz];have:=hb hf;have:=hj hf;refine⟨kx hf,trivial,kz hf, ?_⟩;simp only[sP,fV,cj,cb,Int.ofNat_eq_natCast];omega) (fun hf=>by simp only[bd.val,dO,fV,hx,hz];rw[hj hf];simp) (fun ha=>h)
def my {x z:Src}{fx fz:Bool}{α:Type}{k:Nat}{q:α->D}{s:List α}{k3:IntKind}{c:Int}(j:Nat)(h:aY Y draw r env (⟨f,.sl k ((s.take j).map q)⟩::rs) nx m K)(hg:GF rs g f:=by exact dY)(hx:dm env rs x=⟨fx,.sl k (s.map q)⟩:=by exact rfl)(hz:dm env rs z=⟨fz,.int k3 c⟩:=by exact rfl)(kx:f=true->fx=true:=by exact cZ)(kz:f=true->fz=true:=by exact cZ)(hj:f=true->c=(j:Int):=by exact CF)(hb:f=true->j<=s.length:=by exact zD):aY Y draw (⟨.slA k x none (some z),g⟩::r) env rs nx m K:=
 cF rfl hg _ (fun hf=>by simp only[bd.ff,XP,dO,hx,hz,bB];have:=hb hf;have:=hj hf;refine⟨kx hf,trivial,kz hf,trivial, ?_⟩;simp only[sP,fV,cj,cb,Int.ofNat_eq_natCast];omega) (fun hf=>by simp only[bd.val,dO,fV,hx,hz];rw[hj hf];first|(simp only[List.take_length,Int.toNat_natCast,List.map_drop];done)|simp[List.map_drop,List.map_take]) (fun ha=>h)
def zq {x z:Src}{fx fz:Bool}{l k i0 n:Nat}{k3:IntKind}{c:Int}(j:Nat)(h:aY Y draw r env (⟨f,.own l k i0 j⟩::rs) nx m K)(hg:GF rs g f:=by exact dY)(hx:dm env rs x=⟨fx,.own l k i0 n⟩:=by exact rfl)(hz:dm env rs z=⟨fz,.int k3 c⟩:=by exact rfl)(kx:f=true->fx=true:=by exact cZ)(kz:f=true->fz=true:=by exact cZ)(hj:f=true->c=(j:Int):=by exact CF)(hb:f=true->j<=n:=by exact zD):aY Y draw (⟨.slA k x none (some z),g⟩::r) env rs nx m K:=
 cF rfl hg _ (fun hf=>by simp only[bd.ff,XP,dO,hx,hz];have:=hb hf;have:=hj hf;refine⟨kx hf,trivial,kz hf,trivial, ?_⟩;simp only[sP,fV,cj,cb,Int.ofNat_eq_natCast];omega) (fun hf=>by simp only[bd.val,dO,fV,hx,hz];rw[hj hf];simp) (fun ha=>h)
def FR {x y z:Src}{fx fy fz:Bool}{s:List UInt8}{k2:IntKind}{a:Int}(i:Nat){k3:IntKind}{c:Int}(j:Nat)(h:aY Y draw r env (⟨f,.str ((s.take j).drop i)⟩::rs) nx m K)(hg:GF rs g f:=by exact dY)(hx:dm env rs x=⟨fx,.str s⟩:=by exact rfl)(hy:dm env rs y=⟨fy,.int k2 a⟩:=by exact rfl)(hz:dm env rs z=⟨fz,.int k3 c⟩:=by exact rfl)(kx:f=true->fx=true:=by exact cZ)(ky:f=true->fy=true:=by exact cZ)(kz:f=true->fz=true:=by exact cZ)(hi:f=true->a=(i:Int):=by exact CF)(hj:f=true->c=(j:Int):=by exact CF)(hb:f=true->i<=j/\j<=s.length:=by exact TB):aY Y draw (⟨.slS x (some y) (some z),g⟩::r) env rs nx m K:=
 cF rfl hg _ (fun hf=>by simp only[bd.ff,XP,dO,hx,hy,hz];have:=hb hf;have:=hi hf;have:=hj hf;refine⟨kx hf,ky hf,kz hf, ?_⟩;simp only[sP,fV,cj,cb,Int.ofNat_eq_natCast];omega) (fun hf=>by simp only[bd.val,dO,fV,hx,hy,hz];rw[hi hf,hj hf];simp) (fun ha=>h)
def fJ {x:Src}{fx:Bool}{i:Nat}{ds:List D}(v:D)(h:aY Y draw r env (⟨f,v⟩::rs) nx m K)(hg:GF rs g f:=by exact dY)(hx:dm env rs x=⟨fx,.tup ds⟩:=by exact rfl)(kx:f=true->fx=true:=by exact cZ)(hv:f=true->ds.getD i .any=v:=by exact fun _=>rfl)(hb:f=true->i<ds.length:=by intro _;simp only[aM,aX];omega):aY Y draw (⟨.ext x i,g⟩::r) env rs nx m K:=
 cF rfl hg _ (fun hf=>by simp only[bd.ff,hx];exact⟨kx hf,hb hf⟩) (fun hf=>by simp only[bd.val,hx];exact hv hf) (fun ha=>h)
def dL {z:List D}{ps:List (Nat×Nat×Src)}(v:List D)(h:aY Y draw r env (⟨f,.agg v⟩::rs) nx m K)(hg:GF rs g f:=by exact dY)(hv:f=true->EV (dm env rs) z ps=v:=by exact fun _=>rfl)(ho:f=true->HE (dm env rs) z.length ps:=by exact CG):aY Y draw (⟨.build z ps,g⟩::r) env rs nx m K:=
 cF rfl hg _ (fun hf=>ho hf) (fun hf=>by simp only[bd.val];rw[hv hf]) (fun _=>h)
def bj {z:List D}{ps:List (Nat×Nat×Src)}(d:D)(h:aY Y draw r env (⟨f,d⟩::rs) nx m K)(hg:GF rs g f:=by exact dY)(hv:f=true->D.agg (EV (dm env rs) z ps)=d:=by exact fun _=>rfl)(ho:f=true->HE (dm env rs) z.length ps:=by exact CG):aY Y draw (⟨.build z ps,g⟩::r) env rs nx m K:=
 cF rfl hg _ (fun hf=>ho hf) (fun hf=>by simp only[bd.val];exact hv hf) (fun _=>h)
def Sk {e:D}{n o:Nat}{ag:Bool}(h:e.isAgg=ag):qS e n n o ag=e:=by simp[qS,h]
def cO {x:Src}{fx:Bool}{n l:Nat}{ag:Bool}{d:D}(h:aY Y draw r env (⟨f,d⟩::rs) nx m K)(hg:GF rs g f:=by exact dY)(hx:dm env rs x=⟨fx,.ptr l n 0 0⟩:=by exact rfl)(kx:f=true->fx=true:=by exact cZ)(hl:f=true->look m l=some (.buf n [d]):=by exact fun _=>rfl)(ha:f=true->d.isAgg=ag:=by exact fun _=>rfl):aY Y draw (⟨.ld n ag x,g⟩::r) env rs nx m K:=
 iR rfl hg _ (fun hf=>by simp only[bd.ff,hx,KP,gX,hl hf];exact⟨kx hf,⟨trivial,aI⟩,ae⟩) (fun hf=>by simp only[bd.val,hx,G6,bG,hl hf,gL];exact Sk (ha hf)) m rfl (fun ha=>h)
def aV {x:Src}{fx:Bool}{n l k o:Nat}{ag:Bool}{d:D}(v:D)(h:aY Y draw r env (⟨f,v⟩::rs) nx m K)(hg:GF rs g f:=by exact dY)(hx:dm env rs x=⟨fx,.ptr l k 0 o⟩:=by exact rfl)(kx:f=true->fx=true:=by exact cZ)(hl:f=true->look m l=some (.buf k [d]):=by exact fun _=>rfl)(hv:f=true->qS d k n o ag=v:=by exact fun _=>rfl)(ho:o+n<=k:=by omega):aY Y draw (⟨.ld n ag x,g⟩::r) env rs nx m K:=
 iR rfl hg _ (fun hf=>by simp only[bd.ff,hx,KP,gX,hl hf];exact⟨kx hf,⟨trivial,aI⟩,ho⟩) (fun hf=>by simp only[bd.val,hx,G6,bG,hl hf,gL];exact hv hf) m rfl (fun ha=>h)
def abe {x:Src}{fx:Bool}{n l k i o:Nat}{ag:Bool}{es:List D}(v:D)(h:aY Y draw r env (⟨f,v⟩::rs) nx m K)(hg:GF rs g f:=by exact dY)(hx:dm env rs x=⟨fx,.ptr l k i o⟩:=by exact rfl)(kx:f=true->fx=true:=by exact cZ)(hl:f=true->look m l=some (.buf k es):=by exact fun _=>rfl)(hi:f=true->i<es.length)(hv:f=true->qS (es.getD i .any) k n o ag=v)(ho:o+n<=k:=by omega):aY Y draw (⟨.ld n ag x,g⟩::r) env rs nx m K:=
 iR rfl hg _ (fun hf=>by simp only[bd.ff,hx,KP,gX,hl hf];exact⟨kx hf,⟨trivial,by have:=hi hf;omega⟩,ho⟩) (fun hf=>by simp only[bd.val,hx,G6,bG,hl hf];exact hv hf) m rfl (fun ha=>h)
def uW {x:Src}{fx:Bool}{α:Type} [Inhabited α]{n l k i o:Nat}{ag:Bool}{q:α->D}{xs:List α}(v:D)(h:aY Y draw r env (⟨f,v⟩::rs) nx m K)(hg:GF rs g f:=by exact dY)(hx:dm env rs x=⟨fx,.ptr l k i o⟩:=by exact rfl)(kx:f=true->fx=true:=by exact cZ)(hl:f=true->look m l=some (.buf k (xs.map q)):=by exact fun _=>rfl)(hi:f=true->i<xs.length:=by exact zD)(hv:f=true->qS (q xs[i]!) k n o ag=v:=by exact fun _=>rfl)(ho:o+n<=k:=by omega):aY Y draw (⟨.ld n ag x,g⟩::r) env rs nx m K:=
 iR rfl hg _ (fun hf=>by simp only[bd.ff,hx,KP,gX,hl hf,bB];exact⟨kx hf,⟨trivial,by have:=hi hf;omega⟩,ho⟩) (fun hf=>by simp only[bd.val,hx,G6,bG,hl hf];rw[getD_map (hi hf)];exact hv hf) m rfl (fun ha=>h)
def bp {x:Src}{fx:Bool}{α:Type} [Inhabited α]{n k i o:Nat}{ag:Bool}{q:α->D}{xs:List α}(v:D)(h:aY Y draw r env (⟨f,v⟩::rs) nx m K)(hg:GF rs g f:=by exact dY)(hx:dm env rs x=⟨fx,.ref k (xs.map q) i o⟩:=by exact rfl)(kx:f=true->fx=true:=by exact cZ)(hi:f=true->i<xs.length:=by exact zD)(hv:f=true->qS (q xs[i]!) k n o ag=v:=by exact fun _=>rfl)(ho:o+n<=k:=by omega):aY Y draw (⟨.ld n ag x,g⟩::r) env rs nx m K:=
 iR rfl hg _ (fun hf=>by simp only[bd.ff,hx,KP,bB];exact⟨kx hf,hi hf,ho⟩) (fun hf=>by simp only[bd.val,hx,G6];rw[getD_map (hi hf)];exact hv hf) m rfl (fun ha=>h)
def gI {x:Src}{fx:Bool}{n k i o:Nat}{ag:Bool}{es:List D}(v:D)(h:aY Y draw r env (⟨f,v⟩::rs) nx m K)(hg:GF rs g f:=by exact dY)(hx:dm env rs x=⟨fx,.ref k es i o⟩:=by exact rfl)(kx:f=true->fx=true:=by exact cZ)(hi:f=true->i<es.length:=by intro _;simp only[aM,aX];omega)(hv:f=true->qS (es.getD i .any) k n o ag=v:=by exact fun _=>rfl)(ho:o+n<=k:=by omega):aY Y draw (⟨.ld n ag x,g⟩::r) env rs nx m K:=
 iR rfl hg _ (fun hf=>by simp only[bd.ff,hx,KP];exact⟨kx hf,hi hf,ho⟩) (fun hf=>by simp only[bd.val,hx,G6];exact hv hf) m rfl (fun ha=>h)
def JT {x:Src}{fx:Bool}{n k i o:Nat}{ag:Bool}{es:List D}(v:D)(h:aY Y draw r env (⟨f,v⟩::rs) nx m K)(hg:GF rs g f:=by exact dY)(hx:dm env rs x=⟨fx,.ref k es i o⟩:=by exact rfl)(kx:f=true->fx=true:=by exact cZ)(hi:f=true->i<es.length:=by intro _;simp only[aM,aX];omega)(hv:f=true->qS (es.getD i .any) k n o ag=v:=by exact fun _=>rfl)(ho:o+n<=k:=by omega):aY Y draw (⟨.ldI n ag x,g⟩::r) env rs nx m K:=
 cF rfl hg _ (fun hf=>by simp only[bd.ff,hx,KP];exact⟨kx hf,hi hf,ho⟩) (fun hf=>by simp only[bd.val,hx,G6];exact hv hf) (fun ha=>h)
def r_box {x:Src}{fx:Bool}{k:Nat}{d:D}{L:Nat}{m2:List (Nat×cr)}(h:aY Y draw r env (⟨f,.ptr L k 0 0⟩::rs) nx m2 K)(hg:GF rs g f:=by exact dY)(hx:dm env rs x=⟨fx,d⟩:=by exact rfl)(kx:f=true->fx=true:=by exact cZ)(hc:d.cells.length=k:=by exact rfl)(hL:nx+rs.length=L:=by exact BH)(hm:ep m L (.buf k [d])=m2:=by simp only[ep,cM,Nat.reduceEqDiff,ba,aZ,Nat.reduceAdd,reduceCtorEq];exact rfl):aY Y draw (⟨.box k x,g⟩::r) env rs nx m K:=
 iR rfl hg _ (fun hf=>by simp only[bd.ff,hx];exact⟨kx hf,hc⟩) (fun hf=>by simp only[bd.val,hx,hL]) _ (by simp only[bd.dr,hx,hL];exact hm) (fun _=>h)
def r_mkB {L:Nat}{m2:List (Nat×cr)}(h:aY Y draw r env (⟨f,.ptr L 2 0 0⟩::rs) nx m2 K)(hg:GF rs g f:=by exact dY)(hL:nx+rs.length=L:=by exact BH)(hm:ep m L (.bld none 0 false)=m2:=by simp only[ep,cM,Nat.reduceEqDiff,ba,aZ,Nat.reduceAdd,reduceCtorEq];exact rfl):aY Y draw (⟨.mkB,g⟩::r) env rs nx m K:=
 iR rfl hg _ (fun _=>trivial) (fun hf=>by simp only[bd.val,hL]) _ (by simp only[bd.dr,hL];exact hm) (fun _=>h)
def r_s2b {x:Src}{fx:Bool}{s:List UInt8}{L:Nat}{m2:List (Nat×cr)}(h:aY Y draw r env (⟨f,.own L 1 0 s.length⟩::rs) nx m2 K)(hg:GF rs g f:=by exact dY)(hx:dm env rs x=⟨fx,.str s⟩:=by exact rfl)(kx:f=true->fx=true:=by exact cZ)(hL:nx+rs.length=L:=by exact BH)(hm:ep m L (.buf 1 (s.map fun b=>.int .u8 b.toNat))=m2:=by simp only[ep,cM,Nat.reduceEqDiff,ba,aZ,Nat.reduceAdd,reduceCtorEq];exact rfl):aY Y draw (⟨.s2b x,g⟩::r) env rs nx m K:=
 iR rfl hg _ (fun hf=>by simp only[bd.ff,hx];exact⟨kx hf,trivial⟩) (fun hf=>by simp only[bd.val,hx,hL]) _ (by simp only[bd.dr,hx,hL];exact hm) (fun _=>h)
def r_rng {x:Src}{fx:Bool}{s:List UInt8}{L:Nat}{m2:List (Nat×cr)}(h:aY Y draw r env (⟨f,.it L⟩::rs) nx m2 K)(hg:GF rs g f:=by exact dY)(hx:dm env rs x=⟨fx,.str s⟩:=by exact rfl)(kx:f=true->fx=true:=by exact cZ)(hL:nx+rs.length=L:=by exact BH)(hm:ep m L (.iter s 0)=m2:=by simp only[ep,cM,Nat.reduceEqDiff,ba,aZ,Nat.reduceAdd,reduceCtorEq];exact rfl):aY Y draw (⟨.yn x,g⟩::r) env rs nx m K:=
 iR rfl hg _ (fun hf=>by simp only[bd.ff,hx];exact⟨kx hf,trivial⟩) (fun hf=>by simp only[bd.val,hx,hL]) _ (by simp only[bd.dr,hx,hL];exact hm) (fun _=>h)
def dq {k n:Nat}{z:D}{ps:List (Nat×Src)}{L:Nat}{m2:List (Nat×cr)}(es:List D)(h:aY Y draw r env (⟨f,.own L k 0 n⟩::rs) nx m2 K)(hg:GF rs g f:=by exact dY)(he:pF (dm env rs) (List.replicate n z) ps=es:=by exact rfl)(ho:f=true->xI (dm env rs) k n ps:=by exact CG)(hz:z.cells.length=k:=by exact rfl)(hL:nx+rs.length=L:=by exact BH)(hm:ep m L (.buf k es)=m2:=by simp only[ep,cM,Nat.reduceEqDiff,ba,aZ,Nat.reduceAdd,reduceCtorEq];exact rfl):aY Y draw (⟨.bsl k z n ps,g⟩::r) env rs nx m K:=
 iR rfl hg _ (fun hf=>⟨hz,ho hf⟩) (fun hf=>by simp only[bd.val,hL]) _ (by simp only[bd.dr,he,hL];exact hm) (fun _=>h)
def r_mks {k:Nat}{z:D}{x y:Src}{k1 k2:IntKind}{a c:Int}{L:Nat}{m2:List (Nat×cr)}(n:Nat)(h:aY Y draw r env (⟨true,.own L k 0 n⟩::rs) nx m2 K)(hx:dm env rs x=⟨true,.int k1 a⟩:=by exact rfl)(hy:dm env rs y=⟨true,.int k2 c⟩:=by exact rfl)(hn:a=(n:Int):=by first|exact rfl|omega)(hc:a<=c/\c<=1073741824:=by constructor<;>omega)(hz:z.cells.length=k:=by exact rfl)(hL:nx+rs.length=L:=by exact BH)(hm:ep m L (.buf k (List.replicate n z))=m2:=by simp only[ep,cM,Nat.reduceEqDiff,ba,aZ,Nat.reduceAdd,reduceCtorEq];exact rfl):aY Y draw (⟨.mks k z x y,none⟩::r) env rs nx m K:=
 uX rfl _ (by simp only[bd.ff,hx,hy];exact⟨trivial,trivial,hz,ae,hc.1,hc.2⟩) (by simp only[bd.val,hx,hL,D.nat,hn];rfl) _ (by simp only[bd.dr,hx,hL,D.nat,hn];exact hm) (fun _=>h)
def aR {n l k o:Nat}{x y:Src}{d v:D}{m2:List (Nat×cr)}(e:D)(h:aY Y draw r env (⟨true,.any⟩::rs) nx m2 K)(hx:dm env rs x=⟨true,.ptr l k 0 o⟩:=by exact rfl)(hy:dm env rs y=⟨true,v⟩:=by exact rfl)(hl:look m l=some (.buf k [d]):=by exact rfl)(hc:v.cells.length=n:=by exact rfl)(he:Bz d k n o v=e:=by exact rfl)(ho:o+n<=k:=by omega)(hm:ep m l (.buf k [e])=m2:=by simp only[ep,cM,Nat.reduceEqDiff,ba,aZ,Nat.reduceAdd,reduceCtorEq];exact rfl):aY Y draw (⟨.st n x y,none⟩::r) env rs nx m K:=
 uX rfl _ (by simp only[bd.ff,hx,hy,gX,hl];exact⟨trivial,trivial,hc,⟨trivial,aI⟩,ho⟩) rfl _ (by simp only[bd.dr,hx,hy,bG,hl,gL,List.set_cons_zero,he];exact hm) (fun _=>h)
def xd {n l k i o:Nat}{x y:Src}{v:D}{es:List D}{m2:List (Nat×cr)}(es2:List D)(h:aY Y draw r env (⟨true,.any⟩::rs) nx m2 K)(hx:dm env rs x=⟨true,.ptr l k i o⟩:=by exact rfl)(hy:dm env rs y=⟨true,v⟩:=by exact rfl)(hl:look m l=some (.buf k es):=by exact rfl)(hi:i<es.length)(hc:v.cells.length=n:=by exact rfl)(he:es.set i (Bz (es.getD i .any) k n o v)=es2)(ho:o+n<=k:=by omega)(hm:ep m l (.buf k es2)=m2:=by simp only[ep,cM,Nat.reduceEqDiff,ba,aZ,Nat.reduceAdd,reduceCtorEq];exact rfl):aY Y draw (⟨.st n x y,none⟩::r) env rs nx m K:=
 uX rfl _ (by simp only[bd.ff,hx,hy,gX,hl];exact⟨trivial,trivial,hc,⟨trivial,ae⟩,ho⟩) rfl _ (by simp only[bd.dr,hx,hy,bG,hl,he];exact hm) (fun _=>h)
def vO (m:List (Nat×cr))(k:Nat)(d:D)(ys:List D):Prop:=Jo m k d/\tH m d=ys
def vO.sl {k:Nat}{es:List D}:vO m k (.sl k es) es:=⟨rfl,rfl⟩
def vO.bg {k:Nat}:vO m k .bg []:=⟨trivial,rfl⟩
def vO.own {l k i n:Nat}{es:List D}(hl:look m l=some (.buf k es))(hb:i+n<=es.length):vO m k (.own l k i n) ((es.drop i).take n):=⟨⟨rfl,by simp only[gX,hl];exact⟨trivial,hb⟩⟩,by simp only[tH,bG,hl]⟩
def vO.all {l k n:Nat}{es:List D}(hl:look m l=some (.buf k es))(hb:n=es.length):vO m k (.own l k 0 n) es:=by
 have:=vO.own (i:=0) (n:=n) hl ae;simpa[hb]using this
def vO.str {s:List UInt8}:vO m 1 (.str s) (s.map fun b=>.int .u8 b.toNat):=⟨rfl,rfl⟩
def FQ {k n:Nat}{x y:Src}{d:D}{ys:List D}{L:Nat}{m2:List (Nat×cr)}(h:aY Y draw r env (⟨true,.own L k 0 n⟩::rs) nx m2 K)(hx:dm env rs x=⟨true,.bg⟩:=by exact rfl)(hy:dm env rs y=⟨true,d⟩:=by exact rfl)(he:vO m k d ys)(hn:ys.length=n)(hb:n<=1073741824:=by omega)(hL:nx+rs.length=L:=by exact BH)(hm:ep m L (.buf k ys)=m2:=by simp only[ep,cM,Nat.reduceEqDiff,ba,aZ,Nat.reduceAdd,reduceCtorEq];exact rfl):aY Y draw (⟨.app k x y,none⟩::r) env rs nx m K:=
 uX rfl _ (by simp only[bd.ff,hx,hy,he.2,hn];exact⟨trivial,trivial,he.1,hb⟩) (by simp only[bd.val,hx,hy,he.2,hn,hL]) _ (by simp only[bd.dr,hx,hy,he.2,hL];exact hm) (fun _=>h)
def adN {k n:Nat}{y:Src}{fy:Bool}{d:D}{ys:List D}{L:Nat}{m2:List (Nat×cr)}(h:aY Y draw r env (⟨f,.own L k 0 n⟩::rs) nx m2 K)(hg:GF rs g f:=by exact dY)(hy:dm env rs y=⟨fy,d⟩:=by exact rfl)(ky:f=true->fy=true:=by exact cZ)(he:vO m k d ys)(hn:ys.length=n)(hb:n<=1073741824:=by omega)(hL:nx+rs.length=L:=by exact BH)(hm:ep m L (.buf k ys)=m2:=by simp only[ep,cM,Nat.reduceEqDiff,ba,aZ,Nat.reduceAdd,reduceCtorEq];exact rfl):aY Y draw (⟨.appN k y,g⟩::r) env rs nx m K:=
 iR rfl hg _ (fun hf=>by simp only[bd.ff,hy,he.2,hn];exact⟨ky hf,he.1,hb⟩) (fun hf=>by simp only[bd.val,hy,he.2,hn,hL]) _ (by simp only[bd.dr,hy,he.2,hL];exact hm) (fun _=>h)
def B3 {k l i a n:Nat}{x y:Src}{d:D}{xs ys:List D}{L:Nat}{m2:List (Nat×cr)}(zs:List D)(h:aY Y draw r env (⟨true,.own L k 0 n⟩::rs) nx m2 K)(hx:dm env rs x=⟨true,.own l k i a⟩:=by exact rfl)(hy:dm env rs y=⟨true,d⟩:=by exact rfl)(hl:look m l=some (.buf k xs):=by exact rfl)(ha:i+a<=xs.length)(he:vO m k d ys)(hz:(xs.drop i).take a++ys=zs)(hn:a+ys.length=n)(hb:n<=1073741824:=by omega)(hL:nx+rs.length=L:=by exact BH)(hm:ep (cM m l) L (.buf k zs)=m2:=by simp only[ep,cM,Nat.reduceEqDiff,ba,aZ,Nat.reduceAdd,reduceCtorEq];exact rfl):aY Y draw (⟨.app k x y,none⟩::r) env rs nx m K:=
 uX rfl _ (by simp only[bd.ff,hx,hy,he.2,gX,hl,hn];exact⟨trivial,trivial,he.1,trivial,⟨trivial,ha⟩,hb⟩) (by simp only[bd.val,hx,hy,he.2,hn,hL]) _ (by simp only[bd.dr,hx,hy,he.2,bG,hl,hz,hL];exact hm) (fun _=>h)
def iG {α:Type}{q:α->D}{xs:List α}{e:α}{k l ly:Nat}{x y:Src}{L:Nat}{m2:List (Nat×cr)}(h:aY Y draw r env (⟨true,.own L k 0 (xs++[e]).length⟩::rs) nx m2 K)(hx:dm env rs x=⟨true,.own l k 0 xs.length⟩:=by exact rfl)(hy:dm env rs y=⟨true,.own ly k 0 1⟩:=by exact rfl)(hl:look m l=some (.buf k (xs.map q)):=by exact rfl)(he:look m ly=some (.buf k [q e]):=by exact rfl)(hb:xs.length+1<=1073741824:=by omega)(hL:nx+rs.length=L:=by exact BH)(hm:ep (cM m l) L (.buf k ((xs++[e]).map q))=m2:=by simp only[ep,cM,Nat.reduceEqDiff,ba,aZ,Nat.reduceAdd,reduceCtorEq];exact rfl):aY Y draw (⟨.app k x y,none⟩::r) env rs nx m K:=
 B3 (zs:=(xs++[e]).map q) (hx:=hx) (hy:=hy) (hl:=hl) (ha:=aI) (he:=vO.all (es:=[q e]) he rfl) (hz:=by rw[bR,fq aI];simp) (hn:=aI) (hb:=dk) (hL:=hL) (hm:=hm) (h:=h)
def aba {α:Type}{q:α->D}{xs ys:List α}{k l:Nat}{x y:Src}{d:D}{L:Nat}{m2:List (Nat×cr)}(h:aY Y draw r env (⟨true,.own L k 0 (xs++ys).length⟩::rs) nx m2 K)(hx:dm env rs x=⟨true,.own l k 0 xs.length⟩:=by exact rfl)(hy:dm env rs y=⟨true,d⟩:=by exact rfl)(hl:look m l=some (.buf k (xs.map q)):=by exact rfl)(he:vO m k d (ys.map q))(hb:xs.length+ys.length<=1073741824:=by omega)(hL:nx+rs.length=L:=by exact BH)(hm:ep (cM m l) L (.buf k ((xs++ys).map q))=m2:=by simp only[ep,cM,Nat.reduceEqDiff,ba,aZ,Nat.reduceAdd,reduceCtorEq];exact rfl):aY Y draw (⟨.app k x y,none⟩::r) env rs nx m K:=
 B3 (zs:=(xs++ys).map q) (hx:=hx) (hy:=hy) (hl:=hl) (ha:=aI) (he:=he) (hz:=by rw[bR,fq aI];simp) (hn:=aI) (hb:=dk) (hL:=hL) (hm:=hm) (h:=h)
def abb {x:Src}{fx:Bool}{d:D}{ys:List D}(s:List UInt8)(h:aY Y draw r env (⟨f,.str s⟩::rs) nx m K)(hg:GF rs g f:=by exact dY)(hx:dm env rs x=⟨fx,d⟩:=by exact rfl)(kx:f=true->fx=true:=by exact cZ)(he:f=true->vO m 1 d ys)(hs:f=true->ys=s.map fun b=>.int .u8 b.toNat)(hd:d.aie=false:=by exact rfl):aY Y draw (⟨.b2s x,g⟩::r) env rs nx m K:=
 iR rfl hg _ (fun hf=>by
  simp only[bd.ff,hx,(he hf).2,hs hf];refine⟨kx hf,(by cases d<;>first|trivial|(cases hd)),(he hf).1,fun e hm=>?_⟩;obtain⟨b,_,rfl⟩:=eG.1 hm;have:=b.toNat_lt;exact⟨rfl,ae,ae⟩) (fun hf=>by simp only[bd.val,hx,(he hf).2,hs hf];rw[acF]) m rfl (fun _=>h)
def JV {x:Src}{l pos:Nat}{s:List UInt8}{m2:List (Nat×cr)}(c w:Nat)(h:aY Y draw r env (⟨true,.tup [.bool true,.int .i64 pos,.int .i32 c]⟩::rs) nx m2 K)(hx:dm env rs x=⟨true,.it l⟩:=by exact rfl)(hl:look m l=some (.iter s pos):=by exact rfl)(hp:pos<s.length)(hc:AK s pos=(c,w))(hm:ep m l (.iter s (pos+w))=m2:=by simp only[ep,cM,Nat.reduceEqDiff,ba,aZ,Nat.reduceAdd,reduceCtorEq];exact rfl):aY Y draw (⟨.KQ x,none⟩::r) env rs nx m K:=
 uX rfl _ (by simp only[bd.ff,hx,hl];exact⟨trivial,trivial⟩) (by simp only[bd.val,hx,hl,hc,hp,decide_true,cond_true]) _ (by simp only[bd.dr,hx,hl,hc,hp,decide_true,cond_true];exact hm) (fun _=>h)
def JU {x:Src}{l pos:Nat}{s:List UInt8}(h:aY Y draw r env (⟨true,.tup [.bool false]⟩::rs) nx m K)(hx:dm env rs x=⟨true,.it l⟩:=by exact rfl)(hl:look m l=some (.iter s pos):=by exact rfl)(hp:¬pos<s.length):aY Y draw (⟨.KQ x,none⟩::r) env rs nx m K:=
 uX rfl _ (by simp only[bd.ff,hx,hl];exact⟨trivial,trivial⟩) (by simp only[bd.val,hx,hl,hp,decide_false,cond_false]) _ (by simp only[bd.dr,hx,hl,hp,decide_false,cond_false]) (fun _=>h)
def au {n:Nat}{args:List Src}{sh:List (List Sh)}{am7:List D}{v:D}(h:aY Y draw r env (⟨f,v⟩::rs) nx m K)(hg:GF rs g f:=by exact dY)(hc:Y.pre n am7/\Y.val n am7=v)(ha:f=true->qG m sh (j7 (dm env rs) args)=am7:=by exact fun _=>rfl)(ho:f=true->Bj (dm env rs) args:=by exact CG)(hp:f=true->mA m sh (j7 (dm env rs) args):=by exact CG)(hk:f=true->xz (j7 (dm env rs) args) v=true:=by exact fun _=>rfl):aY Y draw (⟨.call n args sh,g⟩::r) env rs nx m K:=
 iR rfl hg _ (fun hf=>by simp only[bd.ff,(fg _ _ _).1,ha hf,hc.2];exact⟨ho hf,(fg _ _ _).2.2 (hp hf),hc.1,hk hf⟩) (fun hf=>by simp only[bd.val,(fg _ _ _).1,ha hf,hc.2]) m rfl (fun _=>h)
def eD {n:Nat}{args:List Src}{sh:List (List Sh)}{am7:List D}{v:D}(h:aY Y draw r env (⟨f,v⟩::rs) nx m K)(hg:GF rs g f:=by exact dY)(hc:f=true->Y.pre n am7/\Y.val n am7=v)(ha:f=true->qG m sh (j7 (dm env rs) args)=am7:=by exact fun _=>rfl)(ho:f=true->Bj (dm env rs) args:=by exact CG)(hp:f=true->mA m sh (j7 (dm env rs) args):=by exact CG)(hk:f=true->xz (j7 (dm env rs) args) v=true:=by exact fun _=>rfl):aY Y draw (⟨.call n args sh,g⟩::r) env rs nx m K:=
 iR rfl hg _ (fun hf=>by simp only[bd.ff,(fg _ _ _).1,ha hf,(hc hf).2];exact⟨ho hf,(fg _ _ _).2.2 (hp hf),(hc hf).1,hk hf⟩) (fun hf=>by simp only[bd.val,(fg _ _ _).1,ha hf,(hc hf).2]) m rfl (fun _=>h)
def adO {n:Nat}{x:Src}{fx:Bool}{caps:List D}{args:List Src}{sh:List (List Sh)}{am7:List D}{v:D}(h:aY Y draw r env (⟨f,v⟩::rs) nx m K)(hg:GF rs g f:=by exact dY)(hx:dm env rs x=⟨fx,.fn n caps⟩:=by exact rfl)(kx:f=true->fx=true:=by exact cZ)(hb:n<1000000:=by decide)(hc:f=true->Y.pre n am7/\Y.val n am7=v)(ha:f=true->qG m sh (j7 (dm env rs) args++caps)=am7:=by exact fun _=>rfl)(ho:f=true->Bj (dm env rs) args:=by exact CG)(hp:f=true->mA m sh (j7 (dm env rs) args++caps):=by exact CG)(hk:f=true->xz (j7 (dm env rs) args++caps) v=true:=by exact fun _=>rfl):aY Y draw (⟨.callv x args sh,g⟩::r) env rs nx m K:=
 iR rfl hg _ (fun hf=>by simp only[bd.ff,hx,(fg _ _ _).1,ha hf,(hc hf).2];exact⟨kx hf,ho hf,hb,(fg _ _ _).2.2 (hp hf),(hc hf).1,hk hf⟩) (fun hf=>by simp only[bd.val,hx,(fg _ _ _).1,ha hf,(hc hf).2]) m rfl (fun _=>h)
def r_mkf {n:Nat}{caps:List Src}(cs:List D)(h:aY Y draw r env (⟨f,.fn n cs⟩::rs) nx m K)(hg:GF rs g f:=by exact dY)(hc:f=true->j7 (dm env rs) caps=cs:=by exact fun _=>rfl)(ho:f=true->Bj (dm env rs) caps:=by exact CG):aY Y draw (⟨.mkf n caps,g⟩::r) env rs nx m K:=
 cF rfl hg _ (fun hf=>ho hf) (fun hf=>by simp only[bd.val,hc hf]) (fun _=>h)
def pQ {n l k:Nat}{x:Src}{args:List Src}{sh:List (List Sh)}{d v e:D}{am7:List D}{m2:List (Nat×cr)}(h:aY Y draw r env (⟨true,v⟩::rs) nx m2 K)(hx:dm env rs x=⟨true,.ptr l k 0 0⟩:=by exact rfl)(hl:look m l=some (.buf k [d]):=by exact rfl)(hd:d.bN=true:=by exact rfl)(hc:Y.fp n d am7/\Y.fv n d am7=v/\Y.fs n d am7=e)(ha:qG [] sh (j7 (dm env rs) args)=am7:=by exact rfl)(ho:Bj (dm env rs) args:=by repeat' first|exact trivial|exact rfl|refine And.intro ?_ ?_|decide)(hn:bK (j7 (dm env rs) args)=true:=by exact rfl)(hm:ep m l (.buf k [e])=m2:=by simp only[ep,cM,Nat.reduceEqDiff,ba,aZ,Nat.reduceAdd,reduceCtorEq];exact rfl):aY Y draw (⟨.callF n x args sh,none⟩::r) env rs nx m K:=
 uX rfl _ (by simp only[bd.ff,hx,gX,bG,hl,gL,(fg _ _ _).1,ha];exact⟨trivial,ho,hn,trivial,trivial,⟨trivial,aI⟩,aI,hd,hc.1⟩) (by simp only[bd.val,hx,bG,hl,gL,(fg _ _ _).1,ha,hc.2.1]) _ (by simp only[bd.dr,hx,bG,hl,gL,(fg _ _ _).1,ha,hc.2.2];exact hm) (fun _=>h)
end
end
end Go.Abs
section
namespace Go.Abs
abbrev av:=List UInt8
structure dz where
 major:Int
 minor:Int
 patch:Int
 pre:av
 build:av
 deriving Inhabited,DecidableEq
def dz.D (v:dz):D:=.agg [.int .i64 v.major,.int .i64 v.minor,.int .i64 v.patch,.str v.pre,.str v.build]
structure AD where
 name:av
 v:dz
 shelf:av
 sum:Int
 feats:List av
 deriving Inhabited,DecidableEq
def AD.D (x:AD):D:=.agg [.str x.name,.int .i64 x.v.major,.int .i64 x.v.minor,.int .i64 x.v.patch,.str x.v.pre,.str x.v.build,.str x.shelf,.int .u64 x.sum,.sl 1 (x.feats.map D.str)]
structure Env where
 e0:av
 e1:av
 e2:av
 deriving Inhabited,DecidableEq
def Env.D (e:Env):D:=.agg [.str e.e0,.str e.e1,.str e.e2]
structure KL where
 env:Env
 lines:List AD
 deriving Inhabited,DecidableEq
def KL.D (l:KL):D:=.agg [.str l.env.e0,.str l.env.e1,.str l.env.e2,.sl 9 (l.lines.map AD.D)]
end Go.Abs
namespace Go.Abs
theorem sX (a b:List UInt8):eqD (.str a) (.str b)=decide (a=b):=sN a b
theorem CM (k k2:IntKind)(a b:Int):eqD (.int k a) (.int k2 b)=decide (a=b):=rfl
def dz.eq (a b:dz):jm (dz.D a).cells (dz.D b).cells=decide (a=b):=by
 obtain⟨a1,a2,a3,a4,a5⟩:=a;obtain⟨b1,b2,b3,b4,b5⟩:=b
 grind [dz.D,D.cells,jm,sX,CM]
def Env.eq (a b:Env):jm (Env.D a).cells (Env.D b).cells=decide (a=b):=by
 obtain⟨a1,a2,a3⟩:=a;obtain⟨b1,b2,b3⟩:=b
 grind [Env.D,D.cells,jm,sX,CM]
theorem dz.inj {a b:dz}(h:dz.D a=dz.D b):a=b:=by
 obtain⟨a1,a2,a3,a4,a5⟩:=a;obtain⟨b1,b2,b3,b4,b5⟩:=b
 grind [dz.D]
theorem Env.inj {a b:Env}(h:Env.D a=Env.D b):a=b:=by
 obtain⟨a1,a2,a3⟩:=a;obtain⟨b1,b2,b3⟩:=b
 grind [Env.D]
theorem map_inj {α:Type}{q:α->D}(hq:∀a b,q a=q b->a=b):∀{xs ys:List α},xs.map q=ys.map q->xs=ys
 |[],[],_=>rfl
 |[],_::_,h=>by simp at h
 |_::_,[],h=>by simp at h
 |a::r,b::s,h=>by
  simp only[List.map_cons,qR]at h;rw[hq a b h.1,map_inj hq h.2]
theorem str_inj (a b:List UInt8)(h:D.str a=D.str b):a=b:=by simpa using h
theorem AD.inj {a b:AD}(h:AD.D a=AD.D b):a=b:=by
 obtain⟨a1,⟨v1,v2,v3,v4,v5⟩,a2,a3,a4⟩:=a;obtain⟨b1,⟨w1,w2,w3,w4,w5⟩,b2,b3,b4⟩:=b
 grind [AD.D,map_inj,str_inj]
theorem KL.inj {a b:KL}(h:KL.D a=KL.D b):a=b:=by
 obtain⟨⟨a1,a2,a3⟩,a4⟩:=a;obtain⟨⟨b1,b2,b3⟩,b4⟩:=b
 grind [KL.D,map_inj,AD.inj]
end Go.Abs
end
section
namespace Go.Abs
def allI (p:Nat->Bool):Nat->Nat->Bool
 |_,0=>true
 |i,k+1=>p i&&allI p (i+1) k
def c9 (p:Nat->Bool)(i n:Nat):Bool:=allI p i (n-i)
theorem bc {p:Nat->Bool}{i n:Nat}(h:i<n):c9 p i n=(p i&&c9 p (i+1) n):=by
 unfold c9;rw[show n-i=(n-(i+1))+1 by omega];rfl
def cL {p:Nat->Bool}{i n:Nat}(h:n<=i):c9 p i n=true:=by
 unfold c9;rw[show n-i=0 by omega];rfl
theorem Lq {p:Nat->Bool}:∀{k i:Nat},allI p i k=true↔∀j,i<=j->j<i+k->p j=true
 |0,i=>by simp[allI];intro j h1 h2;omega
 |k+1,i=>by
  simp only[allI,bM,Lq (k:=k)]
  grind
theorem fN {p:Nat->Bool}{i n:Nat}:c9 p i n=true↔∀j,i<=j->j<n->p j=true:=by
 grind [c9,Lq]
end Go.Abs
namespace Go.Abs
def aS {a a' b b':D}(h1:a=a')(h2:b=b'):D.tup [a,b]=D.tup [a',b']:=by rw[h1,h2]
def dG {a a' b b' c c':D}(h1:a=a')(h2:b=b')(h3:c=c'):D.tup [a,b,c]=D.tup [a',b',c']:=by rw[h1,h2,h3]
end Go.Abs
namespace Go.Abs
end Go.Abs
namespace Go.Abs
def yT (s:av)(pos:Nat)(h:pos<s.length):∃c w,AK s pos=(c,w)/\1<=w/\((w=1/\(c:Int)=at8 s pos/\c<128)\/(128<=c/\128<=at8 s pos)):=by
 refine⟨(AK s pos).1,(AK s pos).2,rfl, ?_⟩;have e:AK s pos=Lib.decodeN (s.length-pos) (s.getD pos 0).toNat (s.getD (pos+1) 0).toNat (s.getD (pos+2) 0).toNat (s.getD (pos+3) 0).toNat:=Lib.decode_N ⟨⟨s⟩⟩ pos;rw[e];unfold at8;generalize (s.getD pos 0).toNat=b0;generalize (s.getD (pos+1) 0).toNat=b1;generalize (s.getD (pos+2) 0).toNat=b2;generalize (s.getD (pos+3) 0).toNat=b3;generalize s.length-pos=n;by_cases hb:b0<128
 .unfold Lib.decodeN;rw[aC hb];exact⟨aH _,.inl ⟨rfl,rfl,hb⟩⟩
 .unfold Lib.decodeN
  grind
end Go.Abs
namespace Go.Abs
def zC {α:Type}{q:α->D}{xs:List α}{m:List (Nat×cr)}{l:Nat}(hq:∀x,xV m [.a] (q x)=q x)(hl:look m l=some (.buf 1 (xs.map q))):xV m [.sl 1 [.a]] (.own l 1 0 xs.length)=.sl 1 (xs.map q):=by
 show D.sl 1 _=_;simp only[bG,hl,bR,aL,List.map_map];congr 1;apply List.map_congr_left;intro x _;have:=hq x;simp only[Function.comp];generalize q x=d at this;cases d<;>exact this
def vB {α:Type}{q:α->D}{xs:List α}{m:List (Nat×cr)}{l:Nat}(hq:∀x,xVO m [.a] (q x))(hl:look m l=some (.buf 1 (xs.map q))):xVO m [.sl 1 [.a]] (.own l 1 0 xs.length):=by
 grind [xVO,xHO,xCO,gX,bG,aL]
end Go.Abs
end
namespace Go.Abs
def jq (c:Int):Bool:=decide (97<=c)&&decide (c<=122)
def bJ (c:Int):Bool:=decide (48<=c)&&decide (c<=57)
def Da (c:Int):Bool:=jq c ||bJ c ||decide (c=95)
def dj (s:av):Bool:=decide (1<=s.length)&&decide (s.length<=12)&&c9 (fun i=>Da (at8 s i)) 0 s.length
def nch (s:av)(i:Nat):Bool:=(jq (at8 s i) ||bJ (at8 s i) ||decide (at8 s i=45))&& !(decide (at8 s i=45)&&decide (at8 s (i-1)=45))
def eV (s:av):Bool:=decide (1<=s.length)&&decide (s.length<=16)&&jq (at8 s 0)&& !decide (at8 s (s.length-1)=45)&&c9 (nch s) 1 s.length
def rC (s:av)(i:Nat):Bool:=jq (at8 s i) ||(bJ (at8 s i)&& !decide (i=0)) ||(decide (at8 s i=45)&& !decide (i=0)&& !decide (i=s.length-1)&& !decide (at8 s (i-1)=45))
def adq (s:av)(h1:1<=s.length)(h2:s.length<=16):eV s=c9 (rC s) 0 s.length:=by
 rw[Bool.eq_iff_iff];simp only[eV,bY h1,bY h2,gM,bM,bE,bC,fN];constructor
 .rintro⟨⟨h3,h4⟩,h5⟩ j _ hj;rcases Nat.eq_zero_or_pos j with rfl|hp
  .simp[rC,h3]
  .have:=h5 j hp hj;simp only[nch,bM,dw,bE,ef,bh,bC]at this;simp only[rC,bM,dw,bE,bh,bC];rcases this with⟨(h6|h6)|h6,h7⟩
   .exact Or.inl (Or.inl h6)
   .exact Or.inl (Or.inr ⟨h6,ae⟩)
   .refine Or.inr ⟨⟨⟨h6,ae⟩, ?_⟩, ?_⟩
    .rintro rfl;exact h4 h6
    .rcases h7 with h7|h7
     .exact absurd h6 h7
     .exact h7
 .intro h;have h0:=h 0 ae ae;have hlow:jq (at8 s 0)=true:=by simpa[rC]using h0
  refine⟨⟨hlow, ?_⟩,fun j hj1 hj2=>?_⟩
  .intro he;have hl:=h (s.length-1) ae ae;rcases Nat.eq_or_lt_of_le h1 with e|e
   .rw[<-e]at he;simp only[Nat.sub_self]at he;simp only[jq,bM,bh]at hlow;omega
   .simp only[rC,he,jq,bJ]at hl;simp at hl
  .have:=h j ae hj2;simp only[rC,bM,dw,bE,bh,bC]at this;simp only[nch,bM,dw,bE,ef,bh,bC];rcases this with(h6|h6)|h6
   .refine⟨Or.inl (Or.inl h6),Or.inl ?_⟩;simp only[jq,bM,bh]at h6;omega
   .refine⟨Or.inl (Or.inr h6.1),Or.inl ?_⟩;have:=h6.1;simp only[bJ,bM,bh]at this;omega
   .exact⟨Or.inr h6.1.1.1,Or.inr h6.2⟩
def ed (s:av):Nat:=s.foldl (fun n b=>n*10+(b.toNat-48)) 0
def gV (s:av):Bool:=decide (1<=s.length)&&decide (s.length<=9)&& !(decide (1<s.length)&&decide (at8 s 0=48))&&c9 (fun i=>bJ (at8 s i)) 0 s.length&&decide (ed s<=9999)
def fe (s:av):Int:=if gV s=true then(ed s:Int)else 0
def zz (s:av)(i:Nat)(h:i<s.length):s.take (i+1)=s.take i++[s.getD i 0]:=by
 rw[List.take_succ];simp[h]
def B0 (s:av)(i:Nat)(h:i<s.length):ed (s.take (i+1))=ed (s.take i)*10+((at8 s i).toNat-48):=by
 rw[zz s i h];simp[ed,List.foldl_append,at8]
def W2 (s:av):ed s+23<=23*10^s.length:=by
 have:∀(s:av) (n k:Nat),n+23<=23*10^k->s.foldl (fun n b=>n*10+(b.toNat-48)) n+23<=23*10^(k+s.length):=by
  intro s;induction s with
  |nil=>intro n k h;simpa using h
  |cons b r ih=>
   intro n k h;have hb:=b.toNat_lt;have:=ih (n*10+(b.toNat-48)) (k+1) (by rw[Nat.pow_succ];omega);simp only[List.foldl_cons,aM];rw[show k+(r.length+1)=k+1+r.length by omega];exact this
 have:=this s 0 0 aI;simpa[ed]using this
def zo (s:av)(i:Nat)(h:i<=9):ed (s.take i)<=23000000000:=by
 have h1:=W2 (s.take i);have h2:(s.take i).length<=9:=dk;have h3:10^(s.take i).length<=10^9:=Nat.pow_le_pow_right ae h2;omega
def Mi (s:av):∀n:Nat,s.foldl (fun n b=>n*10+(b.toNat-48)) n=n*10^s.length+ed s:=by
 unfold ed;induction s with
 |nil=>intro n;simp
 |cons b r ih=>
  intro n;simp only[List.foldl_cons,aM];rw[ih,ih (0*10+(b.toNat-48)),Nat.pow_succ];simp only[Nat.zero_mul,bI,Nat.add_mul];rw[Nat.mul_assoc n 10,Nat.mul_comm 10];omega
def BZ (b:UInt8)(r:av):ed (b::r)=(b.toNat-48)*10^r.length+ed r:=by
 have:=Mi r (0*10+(b.toNat-48));simp only[ed,List.foldl_cons]at this⊢;rw[this];simp
def BP {b:UInt8}{r:av}(h:c9 (fun i=>bJ (at8 (b::r) i)) 0 (b::r).length=true):bJ b.toNat=true/\c9 (fun i=>bJ (at8 r i)) 0 r.length=true:=by
 rw[fN]at h;refine⟨by simpa[at8]using h 0 ae aI, ?_⟩;rw[fN];intro j _ hj;simpa[at8]using h (j+1) ae dk
def H5:∀(s:av),c9 (fun i=>bJ (at8 s i)) 0 s.length=true->ed s<10^s.length
 |[],_=>by simp[ed]
 |b::r,h=>by
  obtain⟨h1,h2⟩:=BP h;have:=H5 r h2;rw[BZ,aM,Nat.pow_succ];simp only[bJ,bM,bh]at h1;have h3:b.toNat-48<=9:=ae;have:=fF (10^r.length) h3;omega
theorem H4 {b:UInt8}{r:av}(h:49<=b.toNat):10^r.length<=ed (b::r):=by
 rw[BZ];have:=fF (10^r.length) (show 1<=b.toNat-48 by omega);omega
theorem JG (s:av):gV s=(decide (1<=s.length)&&decide (s.length<=4)&& !(decide (1<s.length)&&decide (at8 s 0=48))&&c9 (fun i=>bJ (at8 s i)) 0 s.length):=by
 unfold gV;cases hd:c9 (fun i=>bJ (at8 s i)) 0 s.length with
 |false=>simp
 |true=>
  have hlt:=H5 s hd;by_cases h4:s.length<=4
  .have:10^s.length<=10^4:=Nat.pow_le_pow_right ae h4;rw[bY h4,bY (by omega:s.length<=9),bY (by omega:ed s<=9999)];simp
  .rw[cy h4]
   match s,hd,h4 with
   |b::r,hd,h4=>
    by_cases h0:at8 (b::r) 0=48
    .rw[bY h0,bY (by omega:1<(b::r).length)];simp
    .have h1:=(BP hd).1;simp only[bJ,bM,bh]at h1;have h2:49<=b.toNat:=by
      simp[at8]at h0;omega
     have h3:=H4 (r:=r) h2;have:10^4<=10^r.length:=Nat.pow_le_pow_right ae (by simp at h4;omega);rw[cy (by omega:¬ed (b::r)<=9999)];simp
def dg (n:Nat):UInt8:=UInt8.ofNat (48+n)
def Jm:Nat->Nat->av
 |0,n=>[dg n]
 |f+1,n=>if n<10 then [dg n]else Jm f (n/10)++[dg (n%10)]
def ea (n:Nat):av:=Jm n n
def TO:∀(f g n:Nat),n<=f->n<=g->Jm f n=Jm g n
 |0,0,n,_,_=>rfl
 |0,g+1,n,h,_=>by
  obtain rfl:n=0:=ae;simp[Jm]
 |f+1,0,n,_,h=>by
  obtain rfl:n=0:=ae;simp[Jm]
 |f+1,g+1,n,h1,h2=>by
  simp only[Jm];split
  .rfl
  .rw[TO f g (n/10) ae ae]
theorem nS {n:Nat}(h:n<10):ea n=[dg n]:=by
 unfold ea;cases n<;>simp[Jm,h]
theorem pL {n:Nat}(h:9<n):ea n=ea (n/10)++[dg (n%10)]:=by
 unfold ea;obtain⟨k,rfl⟩:∃k,n=k+1:=⟨n-1,ae⟩
 simp only[Jm];rw[ar ae,TO k ((k+1) /10) _ ae ae]
def eJ:∀(k n:Nat),n<10^k->0<k->(ea n).length<=k:=by
 intro k;induction k with
 |zero=>intro n _ h;omega
 |succ k ih=>
  intro n h _;by_cases h10:n<10
  .rw[nS h10];simp
  .rw[pL ae];have hk:0<k:=by
    rcases Nat.eq_zero_or_pos k with rfl|h0
    .simp at h;omega
    .exact h0
   have:=ih (n/10) (by rw[Nat.pow_succ]at h;omega) hk;simp;omega
theorem Hz {n:Nat}(h:n<10):((dg n).toNat:Int)=48+n:=by
 have:(48+n)%256=48+n:=Nat.mod_eq_of_lt ae;simp[dg,this]
def cQ (b:Int):av->av->List av
 |[],cur=>[cur]
 |c::r,cur=>if(c.toNat:Int)=b then cur::cQ b r []else cQ b r (cur++[c])
def ai (s:av)(b:Int):List av:=cQ b s []
def nT (s:av)(i:Nat)(h:i<s.length):s.drop i=s.getD i 0::s.drop (i+1):=by
 rw[kS h];simp[h]
def Iq {s:av}{b:Int}{i fr:Nat}(h:i<s.length)(he:at8 s i=b):cQ b (s.drop i) ((s.take i).drop fr)=((s.take i).drop fr)::cQ b (s.drop (i+1)) ((s.take (i+1)).drop (i+1)):=by
 rw[nT s i h];have h2:(s.take (i+1)).drop (i+1)=[]:=aI;rw[h2];simp only[cQ];rw[aC (by simpa[at8]using he)]
def Ir {s:av}{b:Int}{i fr:Nat}(h:i<s.length)(hf:fr<=i)(he:¬at8 s i=b):cQ b (s.drop i) ((s.take i).drop fr)=cQ b (s.drop (i+1)) ((s.take (i+1)).drop fr):=by
 rw[nT s i h,zz s i h,List.drop_append_of_le_length dk];simp only[cQ];rw[ar (by simpa[at8]using he)]
def Gj {s:av}{b:Int}{i fr:Nat}(h:s.length<=i):cQ b (s.drop i) ((s.take i).drop fr)=[s.drop fr]:=by
 rw[nP h,fq h];rfl
def yr (b:Int):∀(s cur:av),(cQ b s cur).length<=s.length+1
 |[],cur=>by simp[cQ]
 |c::r,cur=>by
  simp only[cQ];split
  .have:=yr b r [];simp;omega
  .have:=yr b r (cur++[c]);simp;omega
theorem cJ (s:av)(b:Int):(ai s b).length<=s.length+1:=yr b s []
theorem eN (b:Int)(s cur:av):1<=(cQ b s cur).length:=by
 induction s generalizing cur with
 |nil=>simp[cQ]
 |cons c r ih=>
  simp only[cQ];split
  .simp
  .exact ih _
def ji (s:av)(b:Int)(i:Nat):av×av:=match(s.drop i).findIdx? (fun c=>decide ((c.toNat:Int)=b))with
 |some k=>(s.drop (i+k+1),s.take (i+k))
 |none=>([],s)
def aP (s:av)(b:Int):av×av:=ji s b 0
def EF {s:av}{b:Int}{i:Nat}(h:i<s.length)(he:at8 s i=b):ji s b i=(s.drop (i+1),s.take i):=by
 unfold ji;rw[nT s i h,List.findIdx?_cons];simp only[at8]at he;rw[aC (by simpa using he)];rfl
def EG {s:av}{b:Int}{i:Nat}(h:i<s.length)(he:¬at8 s i=b):ji s b i=ji s b (i+1):=by
 unfold ji;rw[nT s i h,List.findIdx?_cons];simp only[at8]at he;simp only[he,decide_false,gP,aZ];cases(s.drop (i+1)).findIdx? (fun c=>decide ((c.toNat:Int)=b))with
 |none=>rfl
 |some k=>simp only[Option.map_some];rw[show i+(k+1)=i+1+k by omega]
def BM {s:av}{b:Int}{i:Nat}(h:s.length<=i):ji s b i=([],s):=by
 unfold ji;rw[nP h];rfl
def pS (c:Int):Bool:=jq c ||bJ c ||decide (c=45)
def vv (t:av):Bool:=decide (1<=t.length)&&decide (t.length<=8)&&c9 (fun i=>pS (at8 t i)) 0 t.length
def jz (t:av):Bool:=c9 (fun i=>bJ (at8 t i)) 0 t.length&&decide (0<t.length)
def jC (p:Bool)(t:av):Bool:=vv t&& !(p&&jz t&& !gV t)
def rh (s:av)(p:Bool):Bool:=decide ((ai s 46).length<=4)&&c9 (fun i=>jC p (ai s 46)[i]!) 0 (ai s 46).length
def vw (s:av)(p:Bool):Bool:=decide (s=[]) ||rh s p
def sZ (n:Int):Bool:=decide (0<=n)&&decide (n<=9999)
def jD (v:dz):Bool:=sZ v.major&&sZ v.minor&&sZ v.patch&&vw v.pre true&&vw v.build false
def vz (v:dz):av:=ea v.major.toNat++[46]++ea v.minor.toNat++[46]++ea v.patch.toNat++(if v.pre=[]then []else 45::v.pre)++(if v.build=[]then []else 43::v.build)
def ll (v:dz):av:=if jD v=true then vz v else []
def dz.sm (v:dz):Prop:=v.pre.length<=1048576/\v.build.length<=1048576
def or64 (a b:Int):Int:=IntKind.u64.wrap ((BitVec.ofInt 64 a |||BitVec.ofInt 64 b).toNat)
def NF (a b:Int):Int:=IntKind.u64.wrap ((BitVec.ofInt 64 a^^^BitVec.ofInt 64 b).toNat)
def shl64 (a:Int)(k:Nat):Int:=IntKind.u64.wrap (a*2^k)
def agI (a:Int)(k:Nat):Int:=a.fdiv (2^k)
def rot (h:Int)(k:Nat):Int:=or64 (shl64 h k) (agI h (64-k))
def ad5 (h:Int)(c:Int):Int:=IntKind.u64.wrap (rot (NF h c) 13*18397679294719823053)
def sumF (s:av):Int:=s.foldl (fun h c=>ad5 h c.toNat) 11400714819323198485
def sumL (s:av):Int:=NF (sumF s) (agI (sumF s) 29)
def Env.at (e:Env):Nat->av
 |0=>e.e0
 |1=>e.e1
 |_=>e.e2
def Env.ld (e:Env){i:Nat}(h:i<3):qS (Env.D e) 3 1 (0+i*1) false=.str (e.at i):=by
 match i,h with
 |0,_=>rfl
 |1,_=>rfl
 |2,_=>rfl
def KL.ld (l:KL){i:Nat}(h:i<3):qS (KL.D l) 4 1 (0+i*1) false=.str (l.env.at i):=by
 match i,h with
 |0,_=>rfl
 |1,_=>rfl
 |2,_=>rfl
def Env.cut (e:Env){i:Nat}(h:i<3):Abs.cut [.str e.e0,.str e.e1,.str e.e2] (i*1) 1 false=.str (e.at i):=by
 match i,h with
 |0,_=>rfl
 |1,_=>rfl
 |2,_=>rfl
def AD.sm (x:AD):Prop:=x.v.sm/\x.name.length<=1048576/\x.shelf.length<=1048576/\x.feats.length<=1048576/\∀t∈x.feats,t.length<=1048576
def KL.sm (l:KL):Prop:=l.lines.length<=1048576/\(∀x∈l.lines,x.sm)/\∀i,(l.env.at i).length<=1048576
theorem bL {α:Type} [Inhabited α]{l:List α}{i:Nat}(h:i<l.length):l[i]! ∈l:=by
 simp[h]
structure Kp where
 name:av
 v:dz
 deriving Inhabited,DecidableEq
def Kp.D (x:Kp):D:=.agg [.str x.name,.int .i64 x.v.major,.int .i64 x.v.minor,.int .i64 x.v.patch,.str x.v.pre,.str x.v.build]
theorem su {α:Type} [Inhabited α] [DecidableEq α]{a b:List α}(h:a.length=b.length):decide (a=b)=c9 (fun i=>decide (a[i]! =b[i]!)) 0 a.length:=by
 rw[Bool.eq_iff_iff,bh,fN];constructor
 .rintro rfl j _ _;simp
 .intro hj;apply List.ext_getElem h
  grind
def AD.same {a b:AD}(e1:a.name=b.name)(e2:a.v=b.v)(e3:a.shelf=b.shelf)(e4:a.sum=b.sum)(e5:a.feats.length=b.feats.length):decide (a=b)=c9 (fun i=>decide (a.feats[i]! =b.feats[i]!)) 0 a.feats.length:=by
 rw[<-su e5];obtain⟨a1,a2,a3,a4,a5⟩:=a;obtain⟨b1,b2,b3,b4,b5⟩:=b
 grind
def aO (b:av):List av->av
 |[]=>[]
 |[t]=>t
 |t::u::r=>t++b++aO b (u::r)
theorem eK (b t:av)(r:List av)(h:r≠[]):aO b (t::r)=t++b++aO b r:=by
 cases r with
 |nil=>exact absurd rfl h
 |cons u r=>rfl
def uu {α:Type}(q:α->av)(B:Nat):∀l:List α,(∀x∈l,(q x).length<=B)->((l.map q).flatten).length<=l.length*B
 |[],_=>aI
 |a::r,h=>by
  have h1:=h a (.head _);have h2:=uu q B r fun x hx=>h x (.tail _ hx)
  simp only[List.map_cons,List.flatten_cons,bH,aM,Nat.succ_mul];omega
def Gw (v:dz)(h:v.sm):(ll v).length<=2097200:=by
 unfold ll;split
 .rename_i hv;simp only[jD,bM]at hv;obtain⟨⟨⟨⟨hv1,hv2⟩,hv3⟩,_⟩,_⟩:=hv;simp only[sZ,bM,bh]at hv1 hv2 hv3;have hl1:=eJ 4 v.major.toNat ae ae;have hl2:=eJ 4 v.minor.toNat ae ae;have hl3:=eJ 4 v.patch.toNat ae ae;obtain⟨h1,h2⟩:=h
  grind [vz]
 .simp
def Env.sm (e:Env):Prop:=∀i,(e.at i).length<=1048576
end Go.Abs
section
namespace Go.Abs
def aiz (v n:Int):Int:=if n<1 then 0 else if v.tmod n<0 then v.tmod n+n else v.tmod n
def Tv (v n:Int)(h:1<=n):-n<v.tmod n/\v.tmod n<n:=⟨Int.lt_tmod_of_pos v ae,Int.tmod_lt_of_pos v ae⟩
def atI (l:List Int)(i:Int):Int:=if i<0\/(l.length:Int)<=i then i.tmod 3 else l[i.toNat]!
structure Gs where
 l:List Int
 i:Int
 deriving Inhabited
def Gs.D (g:Gs):D:=.agg [.sl 1 (g.l.map (D.int .i64)),.int .i64 g.i]
def Gs.val (g:Gs)(n:Int):Int:=aiz (atI g.l g.i) n
def Gs.KQ (g:Gs):Gs:=⟨g.l,g.i+1⟩
def gT (s:av)(b:UInt8):av×av×Bool:=match s.findIdx? (fun c=>c==b)with
 |some k=>(s.take k,s.drop (k+1),true)
 |none=>(s,[],false)
def gy (s p:av):av×Bool:=if p.isPrefixOf s=true then(s.drop p.length,true)else(s,false)
def yR (s:av)(b:UInt8):(gT s b).1.length<=s.length/\((gT s b).2.2=true->(gT s b).1.length+1<=s.length):=by
 unfold gT;split
 .rename_i k h;have:=List.findIdx?_eq_some_iff_findIdx_eq.1 h;simp only[eF];omega
 .simp
structure Rdr where
 s:av
 at':Nat
 n:Nat
def Rdr.D (r:Rdr):D:=.agg [.str r.s,.int .i64 (r.at':Nat),.int .i64 (r.n:Nat)]
def Rdr.ln (r:Rdr):av×av×Bool:=gT (r.s.drop r.at') 10
def Rdr.KQ (r:Rdr):Rdr:=⟨r.s,if r.ln.2.2=true then r.at'+(r.ln.1.length+1)else r.at',r.n+1⟩
def hX:dz:=⟨0,0,0,[],[]⟩
def hH (s:av):Option dz:=
 let a:=aP s 43
 let b:=aP a.2 45
 let l:=ai b.2 46
 if l.length=3/\gV l[0]! =true/\gV l[1]! =true/\gV l[2]! =true then
  let v:dz:=⟨fe l[0]!,fe l[1]!,fe l[2]!,b.1,a.1⟩
  if jD v=true/\ll v=s then some v else none
 else none
def WW (l:List av)(i:Nat):D:=.agg [.int .i64 (if 0<i then fe l[0]! else 0),.int .i64 (if 1<i then fe l[1]! else 0),.int .i64 (if 2<i then fe l[2]! else 0)]
def Me (l:List av)(i:Nat)(h:i<3):Bz (WW l i) 3 1 (0+i*1) (.int .i64 (fe l[i]!))=WW l (i+1):=by
 match i,h with
 |0,_=>rfl
 |1,_=>rfl
 |2,_=>rfl
def lK (s:av)(b:Int):(aP s b).1.length<=s.length/\(aP s b).2.length<=s.length:=by
 grind [aP,ji]
def yt (b:Int):∀(s cur:av),∀t∈cQ b s cur,t.length<=cur.length+s.length
 |[],cur,t,h=>by simp only[cQ,cT]at h;subst h;simp
 |c::r,cur,t,h=>by
  simp only[cQ]at h;split at h
  .rcases ca.1 h with rfl|h
   .simp
   .have:=yt b r [] t h;simp at this⊢;omega
  .have:=yt b r (cur++[c]) t h;simp at this⊢;omega
def cG (s:av)(b:Int){t:av}(h:t∈ai s b):t.length<=s.length:=by
 have:=yt b s [] t h;simpa using this
theorem tp (s:av)(b:Int){i:Nat}(h:i<(ai s b).length):((ai s b)[i]!).length<=s.length:=cG s b (bL h)
end Go.Abs
namespace Go.Abs
def qT (s:av):Int:=if(hH s).isSome=true then 0 else 5
end Go.Abs
namespace Go.Abs
end Go.Abs
namespace Go.Abs
def ad8 {s:av}(h:s.length<=1048576):((hH s).getD hX).sm:=by
 have h0:hX.sm:=⟨by simp[hX],by simp[hX]⟩;cases hq:hH s with
 |none=>exact h0
 |some v=>
  simp only[Option.getD_some];simp only[hH]at hq;split at hq
  .split at hq
   .obtain rfl:=bQ hq;have h1:=lK s 43;have h2:=lK (aP s 43).2 45;exact⟨by simp only;omega,by simp only;omega⟩
   .cases hq
  .cases hq
def abW (s:av):decide (qT s=0)=(hH s).isSome:=by
 unfold qT;cases(hH s)<;>simp
end Go.Abs
namespace Go.Abs
def sV (s p:av):(gy s p).1.length<=s.length:=by
 unfold gy;split<;>simp
end Go.Abs
namespace Go.Abs
variable {e:Env} {f:Nat} {r:Rdr} {ls:List AD}
end Go.Abs
namespace Go.Abs
end Go.Abs
end
namespace Go.Abs
section
section
variable {Y:Ctx} {draw:Bool} {r:List GI} {env rs:List cA} {nx:Nat} {m:List (Nat×cr)} {K:List cA->St->Prop} {g:Option (Nat×Bool)} {f:Bool}
def B5 {i:bd}{j:Nat}{w:Bool}(d:D)(h:aY Y draw r env (⟨false,d⟩::rs) nx m K)(hC:i.pure=true:=by exact rfl)(hg:GF rs (some (j,w)) false:=by exact⟨_,_,rfl,rfl⟩):aY Y draw (⟨i,some (j,w)⟩::r) env rs nx m K:=
 cF hC hg d (fun h=>by cases h) (fun h=>by cases h) (fun _=>h)
def dd {n:Nat}{args:List Src}{am7:List D}{v:D}{nx':Nat}{m':List (Nat×cr)}(h:aY Y draw r env (⟨true,v⟩::rs) nx' m' K)
  (hc:∀K':D->St->Prop,K' v ⟨nx'+rs.length,m'⟩->Y.tr n am7 ⟨nx+rs.length,m⟩ K') (hn:nx<=nx') (ha:j7 (dm env rs) args=am7:=by exact rfl)
  (ho:Bj (dm env rs) args:=by repeat' first|exact trivial|exact rfl|refine And.intro ?_ ?_):aY Y draw (⟨.callM n args,none⟩::r) env rs nx m K:=by
 unfold aY;show True/\(true=true->Bj (Src.ev env rs.reverse) args/\Y.tr n (j7 (Src.ev env rs.reverse) args) {nx:=nx+rs.reverse.length,m:=m} _)/\(true=false->_)
 grind [pM,aY]
def aiQ {l k i0 n:Nat}{x y z:Src}{fx fy fz:Bool}{kh km:IntKind}{h' m':Int}(j:Nat)(h:aY Y draw r env (⟨f,.own l k i0 j⟩::rs) nx m K)(hg:GF rs g f:=by exact dY)(hx:dm env rs x=⟨fx,.own l k i0 n⟩:=by exact rfl)(hy:dm env rs y=⟨fy,.int kh h'⟩:=by exact rfl)(hz:dm env rs z=⟨fz,.int km m'⟩:=by exact rfl)
  (kx:f=true->fx=true:=by exact cZ) (ky:f=true->fy=true:=by exact cZ) (kz:f=true->fz=true:=by exact cZ)
  (hj:f=true->h'=(j:Int)) (hb:f=true->(j:Int)<=m'/\m'<=(n:Int)):aY Y draw (⟨.slX k x y z,g⟩::r) env rs nx m K:=
 cF rfl hg _ (fun hf=>by have h1:=hj hf;have h2:=hb hf;simp only[bd.ff,hx,hy,hz];exact⟨kx hf,ky hf,kz hf,ae,ae,trivial,h2.2⟩) (fun hf=>by simp only[bd.val,hx,hy];rw[hj hf,Int.toNat_natCast]) (fun _=>h)
def iC {n:Nat}{args:List Src}{am7:List D}{ι:Type}(P:ι->Prop)(V:ι->D)(nx':Nat)(M:ι->List (Nat×cr))(h:∀i,P i->aY Y draw r env (⟨true,V i⟩::rs) nx' (M i) K)
  (hc:∀K':D->St->Prop,(∀i,P i->K' (V i) ⟨nx'+rs.length,M i⟩)->Y.tr n am7 ⟨nx+rs.length,m⟩ K') (hn:nx<=nx') (ha:j7 (dm env rs) args=am7:=by exact rfl)
  (ho:Bj (dm env rs) args:=by repeat' first|exact trivial|exact rfl|refine And.intro ?_ ?_):aY Y draw (⟨.callM n args,none⟩::r) env rs nx m K:=by
 unfold aY;show True/\(true=true->Bj (Src.ev env rs.reverse) args/\Y.tr n (j7 (Src.ev env rs.reverse) args) {nx:=nx+rs.reverse.length,m:=m} _)/\(true=false->_)
 grind [pM,aY]
def si {n j:Nat}{w:Bool}{args:List Src}{am7:List D}{ι:Type}(P:ι->Prop)(V:ι->D)(nx':Nat)(M:ι->List (Nat×cr))(h:∀i,P i->aY Y draw r env (⟨true,V i⟩::rs) nx' (M i) K)(hg:GF rs (some (j,w)) true:=by exact⟨_,_,rfl,rfl⟩)
  (hc:∀K':D->St->Prop,(∀i,P i->K' (V i) ⟨nx'+rs.length,M i⟩)->Y.tr n am7 ⟨nx+rs.length,m⟩ K') (hn:nx<=nx') (ha:j7 (dm env rs) args=am7:=by exact rfl)
  (ho:Bj (dm env rs) args:=by repeat' first|exact trivial|exact rfl|refine And.intro ?_ ?_):aY Y draw (⟨.callM n args,some (j,w)⟩::r) env rs nx m K:=by
 unfold aY;show ze rs.reverse (some (j,w))/\(flag rs.reverse (some (j,w))=true->Bj (Src.ev env rs.reverse) args/\Y.tr n (j7 (Src.ev env rs.reverse) args) {nx:=nx+rs.reverse.length,m:=m} _)/\(flag rs.reverse (some (j,w))=false->_);obtain⟨hg1,hg2⟩:=hg.flag
 grind [pM,aY]
def C2 {n j:Nat}{w:Bool}{args:List Src}(h:aY Y draw r env (⟨false,.any⟩::rs) nx m K)(hg:GF rs (some (j,w)) false:=by exact⟨_,_,rfl,rfl⟩):aY Y draw (⟨.callM n args,some (j,w)⟩::r) env rs nx m K:=by
 unfold aY;show ze rs.reverse (some (j,w))/\(flag rs.reverse (some (j,w))=true->_)/\(flag rs.reverse (some (j,w))=false->_);obtain⟨hg1,hg2⟩:=hg.flag
 grind [aY]
def aa9 {c a:Src}{fc t:Bool}(h:aY Y draw r env (⟨f,.bool false⟩::rs) nx m K)(hg:GF rs g f:=by exact dY)(hc:dm env rs c=⟨fc,.bool t⟩:=by exact rfl)(kc:f=true->fc=true:=by exact fun _=>rfl)(ht:t=false:=by exact rfl):aY Y draw (⟨.pick c a (.c (.bool false)),g⟩::r) env rs nx m K:=by
 subst ht;refine cF rfl hg _ (fun hf=>?_) (fun hf=>?_) (fun _=>h)
 .simp only[bd.ff,hc];exact⟨kc hf,⟨fun h=>absurd h aI,fun _=>rfl⟩⟩
 .simp only[bd.val,hc];have:dm env rs (.c (.bool false))=⟨true,.bool false⟩:=rfl;rw[this];cases(dm env rs a).d<;>rfl
def Bs {n:Nat}{x:Src}{caps:List D}{args:List Src}{am7:List D}{ι:Type}(P:ι->Prop)(V:ι->D)(nx':Nat)(M:ι->List (Nat×cr))(h:∀i,P i->aY Y draw r env (⟨true,V i⟩::rs) nx' (M i) K)
  (hc:∀K':D->St->Prop,(∀i,P i->K' (V i) ⟨nx'+rs.length,M i⟩)->Y.tr (G0 n) am7 ⟨nx+rs.length,m⟩ K') (hn:nx<=nx') (hn2:n<2000000:=by decide) (hg:GF rs g true:=by exact dY) (hx:dm env rs x=⟨true,.fn n caps⟩:=by exact rfl) (ha:EH n (j7 (dm env rs) args) caps=am7:=by exact rfl)
  (ho:Bj (dm env rs) args:=by repeat' first|exact trivial|exact rfl|refine And.intro ?_ ?_):aY Y draw (⟨.callvM x args,g⟩::r) env rs nx m K:=by
 unfold aY;show ze rs.reverse g/\(flag rs.reverse g=true->(Src.ev env rs.reverse x).ok=true/\Bj (Src.ev env rs.reverse) args/\match(Src.ev env rs.reverse x).d with
   | .fn n caps=>n<2000000/\Y.tr (G0 n) (EH n (j7 (Src.ev env rs.reverse) args) caps) {nx:=nx+rs.reverse.length,m:=m} _
   |_=>False)/\(flag rs.reverse g=false->_)
 rw[pM,List.length_reverse];simp only[hx,ha];have hf:ze rs.reverse g/\flag rs.reverse g=true:=by
  cases g with
  |none=>exact⟨trivial,rfl⟩
  |some jw=>obtain⟨j,w⟩:=jw;exact⟨hg.flag.2,hg.flag.1⟩
 refine⟨hf.1,fun _=>⟨trivial,ho,hn2,hc _ fun i hi=>⟨by show nx+rs.length<=nx'+rs.length;omega, ?_⟩⟩,fun h=>by rw[hf.2]at h;cases h⟩;have:=h i hi
 grind [aY]
def p0 {n:Nat}{x:Src}{caps:List D}{args:List Src}{am7:List D}{ι:Type}(P:ι->Prop)(V:ι->D)(nx':Nat)(M:ι->List (Nat×cr))(h:∀i,P i->aY Y draw r env (⟨true,V i⟩::rs) nx' (M i) K)
  (hc:∀K':D->St->Prop,(∀i,P i->K' (V i) ⟨nx'+rs.length,M i⟩)->Y.tr (G0 n) am7 ⟨nx+rs.length,m⟩ K') (hn:nx<=nx') (hn2:n<2000000:=by decide) (hx:dm env rs x=⟨true,.fn n caps⟩:=by exact rfl) (ha:EH n (j7 (dm env rs) args) caps=am7:=by exact rfl)
  (ho:Bj (dm env rs) args:=by repeat' first|exact trivial|exact rfl|refine And.intro ?_ ?_):aY Y draw (⟨.callvM x args,none⟩::r) env rs nx m K:=Bs P V nx' M h hc hn hn2 rfl hx ha ho
def Mv {j:Nat}{w:Bool}{x:Src}{args:List Src}(h:aY Y draw r env (⟨false,.any⟩::rs) nx m K)(hg:GF rs (some (j,w)) false:=by exact⟨_,_,rfl,rfl⟩):aY Y draw (⟨.callvM x args,some (j,w)⟩::r) env rs nx m K:=by
 unfold aY;show ze rs.reverse (some (j,w))/\(flag rs.reverse (some (j,w))=true->_)/\(flag rs.reverse (some (j,w))=false->_);obtain⟨hg1,hg2⟩:=hg.flag
 grind [aY]
def abh {x:Src}{fx:Bool}{α:Type} [Inhabited α]{n k i o:Nat}{ag:Bool}{q:α->D}{xs:List α}(v:D)(h:aY Y draw r env (⟨f,v⟩::rs) nx m K)(hg:GF rs g f:=by exact dY)(hx:dm env rs x=⟨fx,.ref k (xs.map q) i o⟩:=by exact rfl)(kx:f=true->fx=true:=by exact cZ)(hi:f=true->i<xs.length:=by exact zD)(hv:f=true->qS (q xs[i]!) k n o ag=v:=by exact fun _=>rfl)(ho:o+n<=k:=by omega):aY Y draw (⟨.ldU n ag x,g⟩::r) env rs nx m K:=
 iR rfl hg _ (fun hf=>by simp only[bd.ff,hx,KP,bB];exact⟨kx hf,hi hf,ho⟩) (fun hf=>by simp only[bd.val,hx,G6];rw[getD_map (hi hf)];exact hv hf) m rfl (fun ha=>h)
def abg {x:Src}{fx:Bool}{n l k o:Nat}{ag:Bool}{d:D}(v:D)(h:aY Y draw r env (⟨f,v⟩::rs) nx m K)(hg:GF rs g f:=by exact dY)(hx:dm env rs x=⟨fx,.ptr l k 0 o⟩:=by exact rfl)(kx:f=true->fx=true:=by exact cZ)(hl:f=true->look m l=some (.buf k [d]):=by exact fun _=>rfl)(hv:f=true->qS d k n o ag=v:=by exact fun _=>rfl)(ho:o+n<=k:=by omega)(hd:f=true->d.bN=false:=by exact fun _=>rfl):aY Y draw (⟨.ldU n ag x,g⟩::r) env rs nx m K:=
 iR rfl hg _ (fun hf=>by simp only[bd.ff,hx,KP,gX,hl hf];exact⟨kx hf,⟨⟨trivial,aI⟩,ho⟩,by simp only[bG,hl hf,bK,hd hf];rfl⟩) (fun hf=>by simp only[bd.val,hx,G6,bG,hl hf,gL];exact hv hf) m rfl (fun ha=>h)
end
end
end Go.Abs
section
namespace Go.Abs
def nlS:List av->D
 |[]=>.bg
 |a::r=>.sl 1 ((a::r).map D.str)
def H3:∀l,(nlS l).bN=true
 |[]=>rfl
 |a::r=>rfl
def AD.N (x:AD):Go.Abs.D:=.agg [.str x.name,.int .i64 x.v.major,.int .i64 x.v.minor,.int .i64 x.v.patch,.str x.v.pre,.str x.v.build,.str x.shelf,.int .u64 x.sum,nlS x.feats]
def AD.qV (x:AD):x.N.bN=true:=by
 have:=H3 x.feats;simp only[AD.N,D.bN,bK,this,kn]
end Go.Abs
namespace Go.Abs
def AD.F (name:av)(v:dz)(shelf:av)(sum:Int)(fs:Go.Abs.D):Go.Abs.D:=.agg [.str name,.int .i64 v.major,.int .i64 v.minor,.int .i64 v.patch,.str v.pre,.str v.build,.str shelf,.int .u64 sum,fs]
mutual
theorem ah7 (l k:Nat)(es:List D):∀d:D,d.bN=true->ig l k es d=d
 | .agg a,h=>by simp only[ig,qq l k es a (by simpa[D.bN]using h)]
 | .tup a,h=>by simp only[ig,qq l k es a (by simpa[D.bN]using h)]
 | .fn n a,h=>by simp only[ig,qq l k es a (by simpa[D.bN]using h)]
 | .own ..,h=>by simp[D.bN]at h
 | .ptr ..,h=>by simp[D.bN]at h
 | .it ..,h=>by simp[D.bN]at h
 | .any,_| .bool _,_| .int ..,_| .str _,_| .bg,_| .sl ..,_| .ref ..,_| .nilp,_| .nilf,_=>rfl
theorem qq (l k:Nat)(es:List D):∀ds:List D,bK ds=true->ij l k es ds=ds
 |[],_=>rfl
 |d::r,h=>by
  simp only[bK,bM]at h;simp only[ij,ah7 l k es d h.1,qq l k es r h.2]
end
end Go.Abs
namespace Go.Abs
end Go.Abs
namespace Go.Abs
end Go.Abs
namespace Go.Abs
end Go.Abs
namespace Go.Abs
end Go.Abs
namespace Go.Abs
end Go.Abs
end
section
namespace Go.Abs
end Go.Abs
namespace Go.Abs
def Kp.eq (a b:Kp):jm (Kp.D a).cells (Kp.D b).cells=decide (a=b):=by
 obtain⟨n1,⟨a1,a2,a3,a4,a5⟩⟩:=a;obtain⟨n2,⟨b1,b2,b3,b4,b5⟩⟩:=b
 grind [Kp.D,D.cells,jm,sX,CM]
structure AD.ok (n:Nat)(x:AD):Prop where
 pre:x.v.pre.length<=3
 build:x.v.build.length<=2
 name:x.name.length<=16
 shelf:x.shelf.length<=16
 nf:x.feats.length<=n
 ft:∀t∈x.feats,t.length<=16
 sum:0<=x.sum/\x.sum<18446744073709551616
structure KL.ok (n:Nat)(l:KL):Prop where
 len:l.lines.length<=4
 lines:∀x∈l.lines,x.ok n
 env:∀i,(l.env.at i).length<=16
def KL.ok.sm {n:Nat}{l:KL}(h:l.ok n)(hn:n<=1000):l.sm:=by
 refine⟨by have:=h.len;omega,fun x hx=>?_,fun i=>by have:=h.env i;omega⟩;have k:=h.lines x hx;have k1:=k.pre;have k2:=k.build;have k3:=k.name;have k4:=k.shelf;have k5:=k.nf;exact⟨⟨ae,ae⟩,ae,ae,ae,fun t ht=>by have:=k.ft t ht;omega⟩
def AD.ok.mono {n m:Nat}{x:AD}(h:x.ok n)(hm:n<=m):x.ok m:=⟨h.pre,h.build,h.name,h.shelf,c7 h.nf hm,h.ft,h.sum⟩
end Go.Abs
end
namespace Go.Abs
section
def lk {α:Type}:List (Nat×α)->Nat->α->α
 |[],_,d=>d
 |(a,b)::r,n,d=>bif Nat.beq a n then b else lk r n d
structure Row where
 key:Nat
 pre:List D->Prop
 val:List D->D
structure RowF where
 pre:D->List D->Prop
 val:D->List D->D
 new:D->List D->D
def Row.no:Row:=⟨0,fun _=>False,fun _=>.any⟩
def RowF.no:RowF:=⟨fun _ _=>False,fun _ _=>.any,fun _ _=>.any⟩
section
variable [df] {P:Program} {ν:List (Nat×Nat)} {dr:List Nat} {Y:Ctx}
end
end
section
variable [df]
section
variable {P:Program} {ν:List (Nat×Nat)} {dr:List Nat} {Y:Ctx}
def RD.re {x x':X}{σ:List (Nat×Nat)}(hw:x'.w=x.w)(hI:x'.I=x.I)(hβ:∀l l',mX 0 σ l=some l'->x'.β l'=x.β l){v:Value}{d d':D}(hv:RD ν x v d)(hd:Zr 0 σ d d'):RD ν x' v d':=by
 rcases hd with⟨rfl,hn⟩|hd|hd
 .exact hv.bN hn (fun _ h=>by rw[hI];exact h) (fun _ _=>by rw[hw])
 .grind [RD.rn]
 grind [RD.nl]
def rq.re {x x':X}{σ:List (Nat×Nat)}(hw:x'.w=x.w)(hI:x'.I=x.I)(hβ:∀l l',mX 0 σ l=some l'->x'.β l'=x.β l){b base tot:Nat}{b0 blk:cr}(o2:rq ν x b base tot b0)(q3:vP 0 σ b0 blk):rq ν x' b base tot blk:=by
 cases b0 with
 |iter s p=>
  cases blk with
  |iter s' p'=>simp only[vP]at q3;obtain⟨rfl,rfl⟩:=q3;simp only[rq,hw]at o2⊢;exact o2
  |_=>simp[vP]at q3
 |row s=>
  cases blk with
  |row s'=>simp only[vP]at q3;subst q3;simp only[rq,hw]at o2⊢;exact o2
  |_=>simp[vP]at q3
 |bld o n u=>
  cases blk with
  |bld o' n' u'=>
   simp only[vP]at q3;obtain⟨q3,rfl,rfl⟩:=q3;obtain⟨p1,v,p2,p3⟩:=o2;refine⟨p1,v,by rw[hw];exact p2, ?_⟩;cases o with
   |none=>simp only at q3;subst q3;exact p3
   |some l0=>
    obtain⟨l1,q4,rfl⟩:=q3;obtain⟨g,t,p4,p5,p6⟩:=p3;exact⟨g,t,p4,p5,by rw[hβ l0 l1 q4];exact p6⟩
  |_=>simp[vP]at q3
 |buf k es=>
  cases blk with
  |iter s' p'=>simp[vP]at q3
  |row s'=>simp[vP]at q3
  |bld o' n' u'=>simp[vP]at q3
  |buf k' es'=>
   simp only[vP]at q3;obtain⟨rfl,q3⟩:=q3;obtain⟨p1,p2,cc,T,fr,p3,p4,p5,p6⟩:=o2;rw[<-hw]at p3;rcases q3 with⟨rfl,hn⟩|q3|q3
   .exact⟨p1,p2,cc,T,fr,p3,p4,p5,fun i hi=>⟨(p6 i hi).1,fun j hj=>⟨((p6 i hi).2 j hj).1,RD.re hw hI hβ ((p6 i hi).2 j hj).2 (.inl ⟨rfl,nE (dC hn i) j⟩)⟩⟩⟩
   .obtain⟨r1,r2⟩:=lj q3;refine⟨p1,ae,cc,T,fr,p3,p4,p5,fun i hi=>?_⟩;have hi':i<es.length:=ae;obtain⟨s1,s2⟩:=Ii (r2 i hi');exact⟨s1.trans (p6 i hi').1,fun j hj=>⟨((p6 i hi').2 j hj).1,RD.re hw hI hβ ((p6 i hi').2 j hj).2 (.inr (.inl (s2 j (by rw[(p6 i hi').1];exact hj))))⟩⟩
   .obtain⟨r1,r2⟩:=tY q3;refine⟨p1,ae,cc,T,fr,p3,p4,p5,fun i hi=>?_⟩;have hi':i<es.length:=ae;obtain⟨s1,s2⟩:=Hm (r2 i hi');exact⟨s1.trans (p6 i hi').1,fun j hj=>⟨((p6 i hi').2 j hj).1,RD.re hw hI hβ ((p6 i hi').2 j hj).2 (.inr (.inr (s2 j (by rw[(p6 i hi').1];exact hj))))⟩⟩
def UN {lo c:Nat}{σ:List (Nat×Nat)}{l l':Nat}(h0:jg 0 c σ=true)(h:mX 0 σ l=some l'):l'<c/\(l,l')∈σ:=by
 obtain⟨h1,h2⟩:=zt h0 h
 grind
def zn {c:Nat}:∀{σ:List (Nat×Nat)}{a b:Nat},jg 0 c σ=true->(a,b)∈σ->mX 0 σ a=some b
 |[],a,b,_,h=>by cases h
 |(a0,b0)::r,a,b,h0,h=>by
  unfold mX;simp only[jg,bM,List.all_eq_true,bE]at h0;obtain⟨_,_,p4,p5⟩:=h0;rcases ca.1 h with h|h
  .simp only[eO]at h;obtain⟨rfl,rfl⟩:=h;simp
  .have:=(p4 _ h).1;simp only at this;have hne:Nat.beq a0 a=false:=by
    cases hb:Nat.beq a0 a with
    |false=>rfl
    |true=>obtain rfl:=Nat.eq_of_beq_eq_true hb;simp at this
   rw[hne];exact zn p5 h
structure Fr (σi σo:List (Nat×Nat))(q q1:Nat)(m0 m1:List (Nat×cr))(st st':St):Prop where
 oki:jg 0 q σi=true
 oko:jg 0 st'.nx σo=true
 nx:st.nx<=st'.nx
 lt:∀l i,(l,i)∈σi->look st.m l≠none
 io:∀i l,(i,l)∈σo->(l,i)∈σi\/st.nx<=l
 m0:∀i b,look m0 i=some b->∃l b',(l,i)∈σi/\look st.m l=some b'/\vP 0 σi b' b
 m1:∀l b,look st'.m l=some b->(∃i b1,(i,l)∈σo/\look m1 i=some b1/\vP 0 σo b1 b)\/(ph σo l=none/\(∀i,(l,i)∉σi)/\look st.m l=some b)
def acT {fid:Nat}{fn:Func}{af:aN}{K:D->St->Prop}(hΓ:Ok P ν dr Y)(hmix:P.follows .mixedOrders=true)(hf:P.funcs[fid]? =some fn)(hc:compile P ν dr fn=some af)
  {x:X} {args:Array Value} {ds cs:List D} {st:St} {σi:List (Nat×Nat)} {q:Nat} {m0:List (Nat×cr)} (hl:args.size=ds.length) (hargs:∀i,i<ds.length->RD ν x (args.getD i undef) (ds.getD i .any))
  (hs:ie ν x (look st.m)) (hfr:ic st x) (hlen:cs.length=ds.length) (hds:∀i,i<ds.length->Zr 0 σi (ds.getD i .any) (cs.getD i .any)) (hnp:cs.length=af.np)
  (oki:jg 0 q σi=true) (hlt:∀l i,(l,i)∈σi->look st.m l≠none) (hm0:∀i b,look m0 i=some b->∃l b',(l,i)∈σi/\look st.m l=some b'/\vP 0 σi b' b)
  (hw:cg (Y.at q) af.body (fun e env st1=>e.home/\tO st1.m env af.res/\∃(σo:List (Nat×Nat)) (q1:Nat) (m1:List (Nat×cr)) (st':St) (vd':D),Fr σi σo q q1 m0 m1 st st'/\Zr 0 σo (nM af env st1) vd'/\K vd' st'/\∀i,look st1.m i=look m1 i) (gz af cs) ⟨q,m0⟩):
  Calls P fid args x.w fun
   | .returned v,w'=>∃x' d st',K d st'/\x'.w=w'/\Step x x'/\RD ν x' v d/\ie ν x' (look st'.m)/\ic st' x'
   |_,_=>False:=by
 obtain⟨body,c1,c2,c3,c4,c5,c6⟩:=kp hc
 let x0:X:=⟨x.w,x.I,fun i=>(ph σi i).bind x.β⟩
 have hx0:∀l i,(l,i)∈σi->x0.β i=x.β l:=fun l i h=>by simp only[x0,CV oki h,Option.bind_some]
 have hβ0:∀l i,mX 0 σi l=some i->x0.β i=x.β l:=fun l i h=>hx0 l i (UN (lo:=0) oki h).2
 have hx0':∀i p,x0.β i=some p->∃l,(l,i)∈σi/\x.β l=some p/\i<q:=by
  intro i p h;obtain⟨l,h1,h2⟩:=Option.bind_eq_some_iff.1 (show(ph σi i).bind x.β=some p from h);exact⟨l,oS h1,h2,vQ oki (oS h1)⟩
 have hs0:ie ν x0 (look m0):=by
  refine⟨fun i blk b base tot e1 e2=>?_,fun i j b base tot base' tot' e1 e2 e3 e4=>?_,hs.imm,fun i b base tot e=>?_,df.le x _ (fun _ h=>h) (fun _ _=>rfl) hs.gd⟩
  .obtain⟨l,b',h1,h2,h3⟩:=hm0 i blk e1;rw[hx0 l i h1]at e2;obtain⟨o1,o2⟩:=hs.own l b' b base tot h2 e2;exact⟨o1,rq.re (x:=x) (x':=x0) rfl rfl hβ0 o2 h3⟩
  .obtain⟨l,h1,h2,_⟩:=hx0' i _ e3;obtain⟨l',h1',h2',_⟩:=hx0' j _ e4;have:=hs.inj l l' b base tot base' tot' (hlt _ _ h1) (hlt _ _ h1') h2 h2';subst this;have:=zn oki h1;rw[zn oki h1']at this;exact(bQ this).symm
  .obtain⟨l,_,h2,_⟩:=hx0' i _ e;exact hs.fV l b base tot h2
 have hf0:ic ⟨q,m0⟩ x0:=by
  refine⟨fun i hi=>?_,fun i hi=>?_⟩
  .cases h:x0.β i with
   |none=>rfl
   |some p=>obtain⟨_,_,_,h4⟩:=hx0' i p h;simp only at hi;omega
  .cases h:look m0 i with
   |none=>exact absurd h hi
   |some b=>obtain⟨l,b',h1,_⟩:=hm0 i b h;exact vQ oki h1
 have hi:=BA (P:=P) (ν:=ν) (dr:=dr) (x:=x0) (ds:=cs) (st:=⟨q,m0⟩) c4 c5 c6 (args:=args) ae hnp (fun i hi=>RD.re (x:=x) (x':=x0) rfl rfl hβ0 (hargs i ae) (hds i ae)) hs0 hf0;have hcs:=xB (C:={P,ν,dr,slots:=slotsOf fn,ntmps:=fn.ntmps,vm:=XC P fn}) (hΓ.at q) (rb fn).1 hmix x0 (fun l h=>hf0.β l h) body af.body c2 _ _ _ _ x0 hw hi (.refl _);refine calls_of_wp hf c1 (wp_mono hcs fun e a w' hp=>?_);obtain⟨e',x',env',st1,he,hxw,hst,hi',hh,hro,σo,q1,m1,st',vd',hfm,hvd,hK,hlk⟩:=hp;subst hxw;obtain⟨v,r1,r2,r3⟩:=vc hΓ.small hi' c3 hro
 let x2:X:=⟨x'.w,x'.I,fun l=>match ph σo l with|some i=>x'.β i|none=>x.β l⟩
 have hx2:∀i l,(i,l)∈σo->x2.β l=x'.β i:=fun i l h=>by simp only[x2,CV hfm.oko h]
 have hx2n:∀l,ph σo l=none->x2.β l=x.β l:=fun l h=>by simp only[x2,h]
 have hβ2:∀i l,mX 0 σo i=some l->x2.β l=x'.β i:=fun i l h=>hx2 i l (UN (lo:=0) hfm.oko h).2
 have hx0s:∀l i p,(l,i)∈σi->x.β l=some p->x'.β i=some p:=fun l i p h e=>hst.β _ _ (by rw[hx0 l i h];exact e)

 have hnew:∀i p,x'.β i=some p->(∃l,(l,i)∈σi/\x.β l=some p)\/x.w.heap.size<=p.1\/∃l p',(∃j,(l,j)∈σi)/\x.β l=some p'/\p'.1=p.1:=by
  intro i p e;rcases hst.newβ i p e with h|h|⟨j,p',h1,h2⟩
  .obtain⟨l,h3,h4,_⟩:=hx0' i p h;exact .inl ⟨l,h3,h4⟩
  .exact .inr (.inl h)
  .obtain⟨l,h3,h4,_⟩:=hx0' j p' h1;exact .inr (.inr ⟨l,p',⟨j,h3⟩,h4,h2⟩)
 have hstep:Step x x2:=by
  refine⟨hst.os,hst.tape,hst.output,hst.size,hst.I,hst.qw,fun l p hp=>?_,fun b hb hn=>hst.old b hb fun i p h e=>?_,fun b h=>?_,fun l p h=>?_⟩
  .cases h:ph σo l with
   |none=>rw[hx2n l h];exact hp
   |some i=>
    have hm:=oS h;rw[hx2 i l hm];rcases hfm.io i l hm with h2|h2
    .exact hx0s l i p h2 hp
    .rw[hfr.β l h2]at hp;cases hp
  .obtain⟨l,_,h2,_⟩:=hx0' i p h;exact hn l p h2 e
  .rcases hst.newI b h with h|h|⟨i,p,h1,h2⟩
   .exact .inl h
   .exact .inr (.inl h)
   .obtain⟨l,_,h3,_⟩:=hx0' i p h1;exact .inr (.inr ⟨l,p,h3,h2⟩)
  .cases h1:ph σo l with
   |none=>rw[hx2n l h1]at h;exact .inl h
   |some i=>
    have hm:=oS h1;rw[hx2 i l hm]at h;rcases hnew i p h with⟨l',h2,h3⟩|h2|⟨l',p',_,h3,h4⟩
    .exact .inr (.inr ⟨l',p,h3,rfl⟩)
    .exact .inr (.inl h2)
    .exact .inr (.inr ⟨l',p',h3,h4⟩)
 have hsim:ie ν x2 (look st'.m):=by
  refine⟨fun l blk b base tot e1 e2=>?_,fun l1 l2 b base tot base' tot' e1 e2 e3 e4=>?_,hi'.pR.imm,fun l b base tot e=>?_,df.le x' _ (fun _ h=>h) (fun _ _=>rfl) hi'.pR.gd⟩
  .rcases hfm.m1 l blk e1 with⟨i,b1,h1,h2,h3⟩|⟨h1,h2,h3⟩
   .rw[hx2 i l h1]at e2;obtain⟨o1,o2⟩:=hi'.pR.own i b1 b base tot (by rw[hlk];exact h2) e2;exact⟨o1,rq.re (x:=x') (x':=x2) rfl rfl hβ2 o2 h3⟩
   .rw[hx2n l h1]at e2;obtain⟨o1,o2⟩:=hs.own l blk b base tot h3 e2;have hlt:=hs.fV l b base tot e2;have hno:∀i p,x0.β i=some p->p.1≠b:=by
     rintro i ⟨b',base',tot'⟩ h e;simp only at e;subst e;obtain⟨l',h4,h5,_⟩:=hx0' i _ h;have:=hs.inj l' l b' base' tot' base tot (hfm.lt _ _ h4) (by rw[h3];simp) h5 e2;subst this;exact h2 _ h4
    refine⟨fun h=>?_,o2.mono hstep.le (hst.old b hlt hno)⟩;rcases hst.newI b h with h|h|⟨i,p,h4,h5⟩
    .exact o1 h
    .exact absurd hlt (Nat.not_lt.2 h)
    .exact hno i p h4 h5
  .have mix:∀l1 l2 base tot base' tot',(∃i b1,(i,l1)∈σo/\look m1 i=some b1)->ph σo l2=none->(∀i,(l2,i)∉σi)->look st.m l2≠none->x2.β l1=some (b,base,tot)->x2.β l2=some (b,base',tot')->False:=by
    rintro l1 l2 base tot base' tot' ⟨i,b1,h1,h2⟩ h3 h4 h5 e3 e4;rw[hx2 i l1 h1]at e3;rw[hx2n l2 h3]at e4;rcases hnew i _ e3 with⟨l',h6,h7⟩|h6|⟨l',⟨pb,pt,pq⟩,⟨j,h6⟩,h7,h8⟩
    .have:=hs.inj l' l2 b base tot base' tot' (hfm.lt _ _ h6) h5 h7 e4;subst this;exact h4 _ h6
    .have:=hs.fV l2 b base' tot' e4;simp only at h6;omega
    .simp only at h8;subst h8;have:=hs.inj l' l2 pb pt pq base' tot' (hfm.lt _ _ h6) h5 h7 e4;subst this;exact h4 _ h6
   cases f1:look st'.m l1 with
   |none=>exact absurd f1 e1
   |some b1=>
    cases f2:look st'.m l2 with
    |none=>exact absurd f2 e2
    |some b2=>
     rcases hfm.m1 l1 b1 f1 with⟨i,c1,h1,h2,_⟩|⟨h1,h2,h3⟩<;>rcases hfm.m1 l2 b2 f2 with⟨j,c2,k1,k2,_⟩|⟨k1,k2,k3⟩
     .rw[hx2 i l1 h1]at e3;rw[hx2 j l2 k1]at e4;have:=hi'.pR.inj i j b base tot base' tot' (by rw[hlk,h2];simp) (by rw[hlk,k2];simp) e3 e4;subst this;have:=zn hfm.oko h1;rw[zn hfm.oko k1]at this;exact(bQ this).symm
     .exact(mix l1 l2 base tot base' tot' ⟨i,c1,h1,h2⟩ k1 k2 (by rw[k3];simp) e3 e4).elim
     .exact(mix l2 l1 base' tot' base tot ⟨j,c2,k1,k2⟩ h1 h2 (by rw[h3];simp) e4 e3).elim
     .rw[hx2n l1 h1]at e3;rw[hx2n l2 k1]at e4;exact hs.inj l1 l2 b base tot base' tot' (by rw[h3];simp) (by rw[k3];simp) e3 e4
  .cases h1:ph σo l with
   |none=>rw[hx2n l h1]at e;exact cz (hs.fV l b base tot e) hst.size
   |some i=>
    rw[hx2 i l (oS h1)]at e;exact hi'.pR.fV i b base tot e
 have hfr2:ic st' x2:=by
  refine⟨fun l hl=>?_,fun l hl=>?_⟩
  .cases h1:ph σo l with
   |none=>rw[hx2n l h1];exact hfr.β l (by have:=hfm.nx;omega)
   |some i=>have:=vQ hfm.oko (oS h1);omega
  .cases f1:look st'.m l with
   |none=>exact absurd f1 hl
   |some b1=>
    rcases hfm.m1 l b1 f1 with⟨i,c1,h1,_⟩|⟨_,_,h3⟩
    .exact vQ hfm.oko h1
    .have:=hfr.m l (by rw[h3];simp);have:=hfm.nx;omega
 have hrd:=RD.re (ν:=ν) (x:=x') (x':=x2) rfl rfl hβ2 r2 hvd;rcases Ex.JI hh with h|h<;>rw[h]at he<;>subst he<;>exact⟨hi'.defers,v,r1,x2,vd',st',hK,rfl,hstep,hrd,hsim,hfr2⟩
end
end
section
structure RowT where
 tr:List D->St->(D->St->Prop)->Prop
 mu:List D->St->Nat
 mono:∀(ds:List D) (st:St) (K K':D->St->Prop),(∀d st',K d st'->K' d st')->tr ds st K->tr ds st K'
def RowT.no:RowT:=⟨fun _ _ _=>False,fun _ _=>0,fun _ _ _ _ _ h=>h⟩
def kJ (af:aN)(Q:D->List (Nat×cr)->Prop):Ex->List cA->St->Prop:=fun e env st=>e.home/\tO st.m env af.res/\∃m1,(∀i,look st.m i=look m1 i)/\Q (nM af env st) m1
def ch {af:aN}{Q:D->List (Nat×cr)->Prop}{vd:D}{m1:List (Nat×cr)}{e:Ex}{env:List cA}{st:St}(h1:e.home)(h2:tO st.m env af.res)(h3:nM af env st=vd)(h4:st.m=m1)(h5:Q vd m1):kJ af Q e env st:=⟨h1,h2,m1,fun i=>by rw[h4],by rw[h3];exact h5⟩
def One (vd:D)(m1:List (Nat×cr)):D->List (Nat×cr)->Prop:=fun d m=>d=vd/\m=m1
def oneq (vd:D)(m1:List (Nat×cr)):One vd m1 vd m1:=⟨rfl,rfl⟩
section
variable [df] {P:Program} {ν:List (Nat×Nat)} {dr:List Nat} {Y:Ctx}
def Zg (P:Program)(ν:List (Nat×Nat))(Γ':Ctx)(dr:List Nat)(tr:List D->St->(D->St->Prop)->Prop)(fid:Nat):Prop:=
 ∀(ds:List D) (st:St) (K:D->St->Prop),tr ds st K->Ok P ν dr Γ'->∀(x:X) (args:Array Value),args.size=ds.length->(∀i,i<ds.length->RD ν x (args.getD i undef) (ds.getD i .any))->ie ν x (look st.m)->ic st x->
  iu P x (fun v x'=>∃d st',K d st'/\Step x x'/\RD ν x' v d/\ie ν x' (look st'.m)/\ic st' x') ((callFunc fid args).run P x.w)
end
end
end Go.Abs
