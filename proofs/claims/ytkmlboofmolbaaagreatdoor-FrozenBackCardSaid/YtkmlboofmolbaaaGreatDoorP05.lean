/- A part of the proofs. -/
import Derived.IntWalk
import Derived.KernelRfl
import Derived.Lib.TrimUEq
import Derived.Test.YtkmlboofmolbaaaGreatDoorP04
set_option linter.all false
set_option maxRecDepth 60000
set_option maxHeartbeats 2000000
namespace Go.Abs
section
section
variable {Y:Ctx} {Q Q':Ex->List aX->St->Prop} {env:List aX} {st:St}
def Ctx.bV (Y:Ctx):Prop:=∀f ds st (K K':D->St->Prop),(∀d st,K d st->K' d st)->Y.tr f ds st K->Y.tr f ds st K'
def iE {draw:Bool}{K K':List aX->St->Prop}(h:∀vs st,K vs st->K' vs st)(htr:Y.bV):∀(l:List GI) (env vs:List aX) (st:St),eM Y draw l env vs st K->eM Y draw l env vs st K'
 |[],env,vs,st,hh=>h _ _ hh
 |⟨i,g⟩::r,env,vs,st,hh=>by
  cases hcm:i.cJ with
  |true=>
   cases i<;>simp only[ax.cJ]at hcm<;>try(cases hcm;done)
   .exact⟨hh.1,fun hf=>⟨(hh.2.1 hf).1,htr _ _ _ _ _ (fun d st' ⟨h1,h2⟩=>⟨h1,iE h htr r _ _ _ h2⟩) (hh.2.1 hf).2⟩,fun hf=>iE h htr r _ _ _ (hh.2.2 hf)⟩
   .rename_i fv args;simp only[eM]at hh⊢;refine⟨hh.1,fun hf=>⟨(hh.2.1 hf).1,(hh.2.1 hf).2.1, ?_⟩,fun hf=>iE h htr r _ _ _ (hh.2.2 hf)⟩;have h3:=(hh.2.1 hf).2.2;cases hd:(Src.ev env vs fv).d<;>simp only[hd]at h3⊢;exact⟨h3.1,htr _ _ _ _ _ (fun d st' ⟨h1,h2⟩=>⟨h1,iE h htr r _ _ _ h2⟩) h3.2⟩
   .exact⟨hh.1,fun hf=>⟨(hh.2.1 hf).1,(hh.2.1 hf).2.1,fun b hb=>iE h htr r _ _ _ ((hh.2.1 hf).2.2 b hb)⟩,fun hf=>iE h htr r _ _ _ (hh.2.2 hf)⟩
  |false=>
   cases hf:i.k8 draw g with
   |true=>
    rw[yT hcm hf]at hh⊢;exact⟨hh.1,fun e=>⟨(hh.2.1 e).1,iE h htr r _ _ _ (hh.2.1 e).2⟩,fun e=>iE h htr r _ _ _ (hh.2.2 e)⟩
   |false=>
    rw[nC hcm hf]at hh⊢;exact⟨hh.1,hh.2.1,fun ha=>(hh.2.2 ha).imp fun _ h2=>⟨h2.1,iE h htr r _ _ _ h2.2⟩⟩
def Gh.mono {lo:Nat}{p q:List aX->St->Prop}(h:∀env st,p env st->q env st):Gh lo p env st->Gh lo q env st
 |⟨e,s,h1,h2⟩=>⟨e,s,h1,h _ _ h2⟩
def Gh.intro {lo:Nat}{p:List aX->St->Prop}(h:p env st):Gh lo p env st:=⟨env,st,.refl _ _,h⟩
def hY (htr:Y.bV):∀(a:AC) (Q Q':Ex->List aX->St->Prop) (env:List aX) (st:St),(∀e env st,Q e env st->Q' e env st)->dn Y a Q env st->dn Y a Q' env st
 | .reg draw ins cm,Q,Q',env,st,h,hh=>Gh.mono (fun env st h2=>iE (fun vs st=>h _ _ _) htr _ _ _ _ h2) hh
 | .seq a b,Q,Q',env,st,h,hh=>Gh.mono (fun env st h2=>hY htr a _ _ env st (fun e env st h2=>by
   cases e with
   |normal=>exact hY htr b Q Q' env st h h2
   |exit id=>exact h _ _ _ h2
   |ret=>exact h _ _ _ h2) h2) hh
 | .cond c a b,Q,Q',env,st,h,hh=>Gh.mono (fun env st h2=>by
  refine⟨h2.1, ?_⟩;have:=h2.2;cases hd:(c.ev env []).d<;>simp only[hd]at this⊢;exact⟨fun ht=>hY htr a Q Q' env st h (this.1 ht),fun ht=>hY htr b Q Q' env st h (this.2 ht)⟩) hh
 | .block id a,Q,Q',env,st,h,hh=>Gh.mono (fun env st h2=>hY htr a _ _ env st (fun e env st h2=>by
   cases e with
   |normal=>exact h _ _ _ h2
   |exit j=>simp only at h2⊢;split<;>rename_i hj<;>simp only[hj,bh,aZ]at h2<;>exact h _ _ _ h2
   |ret=>exact h _ _ _ h2) h2) hh
 | .loop a,Q,Q',env,st,h,hh=>Gh.mono (fun env st h2=>by
  obtain⟨I,μ,h1,h2⟩:=h2;refine⟨I,μ,h1,fun env st hi=>hY htr a _ _ env st (fun e env' st' h3=>?_) (h2 env st hi)⟩;cases e with
  |normal=>exact h3
  |exit id=>exact h _ _ _ h3
  |ret=>exact h _ _ _ h3) hh
 | .exit id,Q,Q',env,st,h,hh=>Gh.mono (fun _ _=>h _ _ _) hh
 | .ret,Q,Q',env,st,h,hh=>Gh.mono (fun _ _=>h _ _ _) hh
 | .skip,Q,Q',env,st,h,hh=>Gh.mono (fun _ _=>h _ _ _) hh
def hR {a:AC}{env':List aX}{st':St}(g:aY Y.lo env st env' st')(h:dn Y a Q env' st'):dn Y a Q env st:=by
 cases a<;>(obtain⟨e2,s2,g2,h2⟩:=h;exact⟨e2,s2,.trans _ _ _ _ _ _ g g2,h2⟩)
def BQ (Y:Ctx)(id:Nat)(r:AC)(Q:Ex->List aX->St->Prop):Ex->List aX->St->Prop:=fun e env st=>match e with
 | .normal=>dn Y r Q env st
 | .exit j=>if j=id then dn Y r Q env st else Q (.exit j) env st
 | .ret=>Q .ret env st
def LQ (Y:Ctx)(id:Nat)(r:AC)(next:List aX->St->Prop)(Q:Ex->List aX->St->Prop):Ex->List aX->St->Prop:=fun e env st=>match e with
 | .normal=>next env st
 | .exit j=>if j=id then dn Y r Q env st else Q (.exit j) env st
 | .ret=>Q .ret env st
def BQ.normal {id:Nat}{r:AC}(h:dn Y r Q env st):BQ Y id r Q .normal env st:=h
def BQ.out {id:Nat}{r:AC}(h:dn Y r Q env st):BQ Y id r Q (.exit id) env st:=by simp only[BQ,bh];exact h
def BQ.other {id j:Nat}{r:AC}(hj:(j==id)=false)(h:Q (.exit j) env st):BQ Y id r Q (.exit j) env st:=by simp only[BQ,ah ny];exact h
def BQ.ret {id:Nat}{r:AC}(h:Q .ret env st):BQ Y id r Q .ret env st:=h
def LQ.normal {id:Nat}{r:AC}{next:List aX->St->Prop}(h:next env st):LQ Y id r next Q .normal env st:=h
def LQ.out {id:Nat}{r:AC}{next:List aX->St->Prop}(h:dn Y r Q env st):LQ Y id r next Q (.exit id) env st:=by simp only[LQ,bh];exact h
def LQ.other {id j:Nat}{r:AC}{next:List aX->St->Prop}(hj:(j==id)=false)(h:Q (.exit j) env st):LQ Y id r next Q (.exit j) env st:=by simp only[LQ,ah ny];exact h
def LQ.ret {id:Nat}{r:AC}{next:List aX->St->Prop}(h:Q .ret env st):LQ Y id r next Q .ret env st:=h
def fO {a b c:AC}(h:dn Y (.seq a (.seq b c)) Q env st):dn Y (.seq (.seq a b) c) Q env st:=by
 obtain⟨e1,s1,g1,h1⟩:=h;refine⟨e1,s1,g1,e1,s1,.refl _ _, ?_⟩;have:∀(Q1 Q2:Ex->List aX->St->Prop),Q1=Q2->dn Y a Q1 e1 s1->dn Y a Q2 e1 s1:=fun _ _ e h=>e▸h
 refine this _ _ ?_ h1;funext e env st;cases e with
 |normal=>exact propext ⟨fun⟨e2,s2,g2,h2⟩=>hR g2 h2,fun h=>⟨_,_,.refl _ _,h⟩⟩
 |exit id=>rfl
 |ret=>rfl
def fP {b:AC}(h:dn Y b Q env st):dn Y (.seq .skip b) Q env st:=.intro (.intro h)
def wp_skip (h:Q .normal env st):dn Y .skip Q env st:=.intro h
def Ga {b:AC}(h:Q .ret env st):dn Y (.seq .ret b) Q env st:=.intro (.intro h)
def wp_ret (h:Q .ret env st):dn Y .ret Q env st:=.intro h
def og {id:Nat}{b:AC}(h:Q (.exit id) env st):dn Y (.seq (.exit id) b) Q env st:=.intro (.intro h)
def wp_exit {id:Nat}(h:Q (.exit id) env st):dn Y (.exit id) Q env st:=.intro h
def mw {id:Nat}{a r:AC}(h:dn Y a (BQ Y id r Q) env st)(htr:Y.bV):dn Y (.seq (.block id a) r) Q env st:=by
 refine .intro (.intro (hY htr a _ _ _ _ (fun e env st h=>?_) h));cases e with
 |normal=>exact h
 |exit j=>simp only[BQ]at h⊢;split<;>rename_i hj<;>simp only[hj,bh,aZ]at h<;>exact h
 |ret=>exact h
def wp_block {id:Nat}{a:AC}(h:dn Y a (BQ Y id .skip Q) env st)(htr:Y.bV)(hQ:∀e env env' st st',aY Y.lo env st env' st'->Q e env' st'->Q e env st):dn Y (.block id a) Q env st:=by
 refine .intro (hY htr a _ _ _ _ (fun e env st h=>?_) h);have hs:∀env st,dn Y .skip Q env st->Q .normal env st:=fun env st ⟨e2,s2,g2,h2⟩=>hQ _ _ _ _ _ g2 h2
 cases e with
 |normal=>exact hs _ _ h
 |exit j=>simp only[BQ]at h⊢;split<;>rename_i hj<;>simp only[hj,bh,aZ]at h<;>first|exact hs _ _ h|exact h
 |ret=>exact h
def CQ (next:List aX->St->Prop)(Q:Ex->List aX->St->Prop):Ex->List aX->St->Prop:=fun e env st=>match e with
 | .normal=>next env st
 | .exit j=>Q (.exit j) env st
 | .ret=>Q .ret env st
def CQ.normal {next:List aX->St->Prop}(h:next env st):CQ next Q .normal env st:=h
def CQ.other {next:List aX->St->Prop}{j:Nat}(h:Q (.exit j) env st):CQ next Q (.exit j) env st:=h
def CQ.ret {next:List aX->St->Prop}(h:Q .ret env st):CQ next Q .ret env st:=h
def Ni (id:Nat)(Q:Ex->List aX->St->Prop):Ex->List aX->St->Prop:=fun e env st=>match e with
 | .normal=>Q .normal env st
 | .exit j=>if j=id then Q .normal env st else Q (.exit j) env st
 | .ret=>Q .ret env st
def Ni.normal {id:Nat}(h:Q .normal env st):Ni id Q .normal env st:=h
def Ni.out {id:Nat}(h:Q .normal env st):Ni id Q (.exit id) env st:=by simp only[Ni,bh];exact h
def Ni.other {id j:Nat}(hj:(j==id)=false)(h:Q (.exit j) env st):Ni id Q (.exit j) env st:=by grind [Ni]
def Ni.ret {id:Nat}(h:Q .ret env st):Ni id Q .ret env st:=h
def lG {id:Nat}{a:AC}(h:dn Y a (Ni id Q) env st)(htr:Y.bV):dn Y (.block id a) Q env st:=by
 refine .intro (hY htr a _ _ _ _ (fun e env st h=>?_) h);cases e with
 |normal=>exact h
 |exit j=>simp only[Ni]at h⊢;split<;>rename_i hj<;>simp only[hj,bh,aZ]at h<;>exact h
 |ret=>exact h
def qK (htr:Y.bV){a b:AC}{ι:Type}(F:ι->List aX)(G:ι->List (Nat×bd))(c:Nat)(P:ι->Prop)
  (h1:dn Y a (CQ (fun env' st'=>∃j,P j/\aY Y.lo env' st' (F j) ⟨c,G j⟩) Q) env st)
  (h2:∀i,P i->dn Y b Q (F i) ⟨c,G i⟩):dn Y (.seq a b) Q env st:=by
 refine .intro (hY htr a _ _ _ _ (fun e env st h=>?_) h1);cases e with
 |normal=>obtain⟨j,hj,g⟩:=h;exact hR g (h2 j hj)
 |exit j=>exact h
 |ret=>exact h
def fX (htr:Y.bV){a r:AC}{id:Nat}{ι:Type}(F:ι->List aX)(G:ι->List (Nat×bd))(c:Nat)(P:ι->Prop)(μ:ι->Nat)(i0:ι)
  (hP:P i0) (h0:aY Y.lo env st (F i0) ⟨c,G i0⟩)
  (hr:∀i,P i->dn Y a (LQ Y id r (fun env' st'=>∃j,P j/\μ j<μ i/\aY Y.lo env' st' (F j) ⟨c,G j⟩) Q) (F i) ⟨c,G i⟩):dn Y (.seq (.block id (.loop a)) r) Q env st:=by
 let W:List aX->St->Nat->Prop:=fun env st k=>∃i,env=F i/\st=⟨c,G i⟩/\P i/\μ i=k
 have least:∀env st,(∃k,W env st k)->∃k,W env st k/\∀k',W env st k'->k<=k':=by
  intro env st ⟨k,hk⟩;induction k using Nat.strongRecOn with
  |_ k ih=>
   by_cases h:∃k',k'<k/\W env st k'
   .obtain⟨k',h1,h2⟩:=h;exact ih k' h1 h2
   .exact⟨k,hk,fun k' hk'=>by
     rcases dQ k' k with h1|h1
     .exact absurd ⟨k',h1,hk'⟩ h
     .exact h1⟩
 open Classical in
 refine .intro (.intro ⟨_,_,h0,fun env st=>∃k,W env st k,fun env st=>if h:∃k,W env st k then Classical.choose (least env st h)else 0,⟨_,i0,rfl,rfl,hP,rfl⟩,fun env st hk=>?_⟩);obtain⟨⟨i,e1,e2,e3,e5⟩,hmin⟩:=Classical.choose_spec (least env st hk);have:=hr i e3;rw[<-e1,<-e2]at this;refine hY htr a _ _ env st ?_ this
 .intro e env' st' h;cases e with
  |normal=>
   obtain⟨j,b3,b5,g⟩:=h;have hW:W (F j) ⟨c,G j⟩ (μ j):=⟨j,rfl,rfl,b3,rfl⟩;refine⟨F j,⟨c,G j⟩,g,⟨_,hW⟩, ?_⟩;show(if h:∃k,W (F j) ⟨c,G j⟩ k then Classical.choose (least _ _ h)else 0)<(if h:∃k,W env st k then Classical.choose (least env st h)else 0);rw[dif_pos ⟨_,hW⟩,dif_pos hk,<-e5];exact Nat.lt_of_le_of_lt ((Classical.choose_spec (least _ _ ⟨_,hW⟩)).2 _ hW) b5
  |exit j=>simp only[LQ]at h⊢;split<;>rename_i hj<;>simp only[hj,bh,aZ]at h<;>exact h
  |ret=>exact h
def AY (id:Nat)(next:List aX->St->Prop)(Q:Ex->List aX->St->Prop):Ex->List aX->St->Prop:=fun e env st=>match e with
 | .normal=>next env st
 | .exit j=>if j=id then Q .normal env st else Q (.exit j) env st
 | .ret=>Q .ret env st
def AY.normal {id:Nat}{next:List aX->St->Prop}(h:next env st):AY id next Q .normal env st:=h
def AY.out {id:Nat}{next:List aX->St->Prop}(h:Q .normal env st):AY id next Q (.exit id) env st:=by simp only[AY,bh];exact h
def AY.other {id j:Nat}{next:List aX->St->Prop}(hj:(j==id)=false)(h:Q (.exit j) env st):AY id next Q (.exit j) env st:=by grind [AY]
def AY.ret {id:Nat}{next:List aX->St->Prop}(h:Q .ret env st):AY id next Q .ret env st:=h
def Ic (htr:Y.bV){a:AC}{id:Nat}{ι:Type}(F:ι->List aX)(G:ι->List (Nat×bd))(c:Nat)(P:ι->Prop)(μ:ι->Nat)(i0:ι)
  (hP:P i0) (h0:aY Y.lo env st (F i0) ⟨c,G i0⟩)
  (hr:∀i,P i->dn Y a (AY id (fun env' st'=>∃j,P j/\μ j<μ i/\aY Y.lo env' st' (F j) ⟨c,G j⟩) Q) (F i) ⟨c,G i⟩):dn Y (.block id (.loop a)) Q env st:=by
 let W:List aX->St->Nat->Prop:=fun env st k=>∃i,env=F i/\st=⟨c,G i⟩/\P i/\μ i=k
 have least:∀env st,(∃k,W env st k)->∃k,W env st k/\∀k',W env st k'->k<=k':=by
  intro env st ⟨k,hk⟩;induction k using Nat.strongRecOn with
  |_ k ih=>
   by_cases h:∃k',k'<k/\W env st k'
   .obtain⟨k',h1,h2⟩:=h;exact ih k' h1 h2
   .exact⟨k,hk,fun k' hk'=>by
     rcases dQ k' k with h1|h1
     .exact absurd ⟨k',h1,hk'⟩ h
     .exact h1⟩
 open Classical in
 refine .intro ⟨_,_,h0,fun env st=>∃k,W env st k,fun env st=>if h:∃k,W env st k then Classical.choose (least env st h)else 0,⟨_,i0,rfl,rfl,hP,rfl⟩,fun env st hk=>?_⟩;obtain⟨⟨i,e1,e2,e3,e5⟩,hmin⟩:=Classical.choose_spec (least env st hk);have:=hr i e3;rw[<-e1,<-e2]at this;refine hY htr a _ _ env st ?_ this
 .intro e env' st' h;cases e with
  |normal=>
   obtain⟨j,b3,b5,g⟩:=h;have hW:W (F j) ⟨c,G j⟩ (μ j):=⟨j,rfl,rfl,b3,rfl⟩;refine⟨F j,⟨c,G j⟩,g,⟨_,hW⟩, ?_⟩;show(if h:∃k,W (F j) ⟨c,G j⟩ k then Classical.choose (least _ _ h)else 0)<(if h:∃k,W env st k then Classical.choose (least env st h)else 0);rw[dif_pos ⟨_,hW⟩,dif_pos hk,<-e5];exact Nat.lt_of_le_of_lt ((Classical.choose_spec (least _ _ ⟨_,hW⟩)).2 _ hW) b5
  |exit j=>simp only[AY]at h⊢;split<;>rename_i hj<;>simp only[hj,bh,aZ]at h<;>exact h
  |ret=>exact h
def nth:List aX->Nat->aX
 |[],_=>.un
 |a::_,0=>a
 |_::r,n+1=>nth r n
def Cy:∀(l:List aX) (n:Nat),l.getD n .un=nth l n
 |[],n=>by simp[nth]
 |a::_,0=>by simp[nth]
 |_::r,n+1=>by simpa[nth]using Cy r n
def bO (env rs:List aX):Src->aX
 | .s n=>nth env n
 | .l p=>bif Nat.blt p rs.length then nth rs (rs.length-1-p)else .un
 | .c d=>⟨true,d⟩
theorem oA (env rs:List aX):Src.ev env rs.reverse=bO env rs:=by
 funext s;cases s with
 |s n=>exact Cy env n
 |l p=>
  simp only[Src.ev,bO];cases h:Nat.blt p rs.length with
  |true=>
   have:p<rs.length:=by simp[Nat.blt]at h;omega
   rw[cond_true,<-Cy]
   grind
  |false=>
   have:¬p<rs.length:=by intro e;have:Nat.blt p rs.length=true:=by {simp[Nat.blt];omega};rw[this]at h;cases h
   grind
 |c d=>rfl
def ay (Y:Ctx)(draw:Bool)(l:List GI)(env rs:List aX)(nx:Nat)(m:List (Nat×bd))(K:List aX->St->Prop):Prop:=eM Y draw l env rs.reverse ⟨nx,m⟩ K
def VP (env rs:List aX):List (Nat×Nat)->List aX
 |[]=>env
 |(s,p)::r=>VP (env.set s (bO [] rs (.l p))) rs r
theorem NM (rs:List aX):∀(cm:List (Nat×Nat)) (env:List aX),iq env rs.reverse cm=VP env rs cm
 |[],env=>rfl
 |(s,p)::r,env=>by
  simp only[iq,VP];rw[NM rs r,<-congrFun (oA [] rs) (.l p)];rfl
def aP {draw:Bool}{ins:List GI}{cm:List (Nat×Nat)}{b:AC}{nx:Nat}{m:List (Nat×bd)}
  (h:ay Y draw ins env [] nx m (fun vs st'=>dn Y b Q (iq env vs cm) st')):dn Y (.seq (.reg draw ins cm) b) Q env ⟨nx,m⟩:=.intro (.intro h)
def oY {draw:Bool}{ins:List GI}{cm:List (Nat×Nat)}{nx:Nat}{m:List (Nat×bd)}
  (h:ay Y draw ins env [] nx m (fun vs st'=>Q .normal (iq env vs cm) st')):dn Y (.reg draw ins cm) Q env ⟨nx,m⟩:=.intro h
def bp {draw:Bool}{cm:List (Nat×Nat)}{b:AC}{nx nx':Nat}{m:List (Nat×bd)}{rs fI env':List aX}(h:dn Y b Q env' ⟨nx',m⟩)
  (he:VP env rs cm=env':=by exact rfl) (hn:nx+rs.length=nx':=by exact y3):ay Y draw [] fI rs nx m (fun vs st'=>dn Y b Q (iq env vs cm) st'):=by
 grind [ay,eM,NM]
def nr {draw:Bool}{cm:List (Nat×Nat)}{nx nx':Nat}{m:List (Nat×bd)}{rs fI env':List aX}(h:Q .normal env' ⟨nx',m⟩)
  (he:VP env rs cm=env':=by exact rfl) (hn:nx+rs.length=nx':=by exact y3):ay Y draw [] fI rs nx m (fun vs st'=>Q .normal (iq env vs cm) st'):=by
 grind [ay,eM,NM]
def aQ {c:Src}{a b r:AC}{t:Bool}(h1:t=true->dn Y (.seq a r) Q env st)(h2:t=false->dn Y (.seq b r) Q env st)(hc:bO env [] c=⟨true,.bool t⟩:=by exact rfl):dn Y (.seq (.cond c a b) r) Q env st:=by
 have hc':c.ev env []=⟨true,.bool t⟩:=by rw[<-hc,<-oA];rfl
 refine .intro (.intro ?_);simp only[hc'];refine⟨trivial,fun ht=>?_,fun ht=>?_⟩
 .obtain⟨e,s,g,h⟩:=h1 ht;exact hR g h
 .obtain⟨e,s,g,h⟩:=h2 ht;exact hR g h
def wp_cond {c:Src}{a b:AC}{t:Bool}(h1:t=true->dn Y a Q env st)(h2:t=false->dn Y b Q env st)(hc:bO env [] c=⟨true,.bool t⟩:=by exact rfl):dn Y (.cond c a b) Q env st:=by
 have hc':c.ev env []=⟨true,.bool t⟩:=by rw[<-hc,<-oA];rfl
 refine .intro ?_
 grind
def aY.to {lo c nx nx':Nat}{env env':List aX}{m m':List (Nat×bd)}(σ:List (Nat×Nat))(hc:nx'=c)(h:gE lo c σ=true)(he:fq lo σ env env')(hm:bm lo c σ m m'):aY lo env ⟨nx,m⟩ env' ⟨nx',m'⟩:=by
 subst hc;exact .ren σ nx' env env' nx m m' h he hm
theorem bR {α β:Type}(q:α->β)(xs:List α):(xs.map q).take xs.length=xs.map q:=gK aF
def b7 {α:Type}{q:α->D}(h:∀x,(q x).aS=true):∀xs:List α,aL (xs.map q)=true
 |[]=>rfl
 |a::r=>by simp only[List.map_cons,aL,h a,b7 h r,gL]
def aY.fz {lo:Nat}{env env' env2:List aX}{nx k:Nat}{m m':List (Nat×bd)}{es:List D}{st2:St}(l:Nat)(hl:look m l=some (.buf k es))(hn:aL es=true)(he:x7 l k es env=env')(hm:Ax l k es (cW m l)=m')(h:aY lo env' ⟨nx,m'⟩ env2 st2):aY lo env ⟨nx,m⟩ env2 st2:=by
 have:=aY.UG (lo:=lo) l env ⟨nx,m⟩;simp only[Abs.UG,hl,hn,cond_true,he,hm]at this;exact .trans _ _ _ _ _ _ this h
def bB {a:AC}{nx k:Nat}{m m':List (Nat×bd)}{es:List D}{env env':List aX}(l:Nat)(h:dn Y a Q env' ⟨nx,m'⟩)(hl:look m l=some (.buf k es):=by exact rfl)(hn:aL es=true:=by first|exact rfl|exact b7 (fun _=>rfl) _)
  (he:x7 l k es env=env':=by simp only[x7,iW,ow,Ax,Em,cW,Nat.reduceEqDiff,bh,aZ,iK,ee,dx,ix,iy,cD,bg,aO,dI,bR,reduceCtorEq,bD,b9,Nat.reduceAdd,Nat.reduceLeDiff];exact rfl)
  (hm:Ax l k es (cW m l)=m':=by simp only[x7,iW,ow,Ax,Em,cW,Nat.reduceEqDiff,bh,aZ,iK,ee,dx,ix,iy,cD,bg,aO,dI,bR,reduceCtorEq,bD,b9,Nat.reduceAdd,Nat.reduceLeDiff];exact rfl):dn Y a Q env ⟨nx,m⟩:=
 hR (aY.fz l hl hn he hm (.refl _ _)) h
def WkE.rf:∀e:List aX,WkE e e
 |[]=>trivial
 |_::r=>⟨⟨rfl,.refl _⟩,WkE.rf r⟩
def Qg.nil:Qg [] []:=⟨rfl,fun _=>.refl _⟩
def Qg.cons {x y:D}{a b:List D}(h:Ed x y)(h2:Qg a b):Qg (x::a) (y::b):=⟨by simp[h2.1],fun i=>by cases i with
 |zero=>exact h
 |succ i=>simpa using h2.2 i⟩
def Qg.rf (a:List D):Qg a a:=⟨rfl,fun _=>.refl _⟩
def Qg.map {α:Type}{q p:α->D}:∀{xs:List α},(∀x∈xs,Ed (q x) (p x))->Qg (xs.map q) (xs.map p)
 |[],_=>.nil
 |x::r,h=>.cons (h x (.head _)) (Qg.map fun y hy=>h y (.tail _ hy))
def Ed.ag {a b:List D}(h:Qg a b):Ed (.agg a) (.agg b):=.agg _ _ h.1 h.2
def Ed.ss {k:Nat}{a b:List D}(h:Qg a b):Ed (.sl k a) (.sl k b):=.sl _ _ _ h.1 h.2
def Qh.nil {m:List (Nat×bd)}:Qh m []:=trivial
def Qh.id {m r:List (Nat×bd)}{l:Nat}{b:bd}(h:look m l=some b)(h2:Qh m r):Qh m ((l,b)::r):=⟨⟨b,h,by cases b<;>first|exact⟨rfl,.rf _⟩|exact rfl⟩,h2⟩
def Qh.bf {m r:List (Nat×bd)}{l k:Nat}{es es':List D}(h:look m l=some (.buf k es))(hw:Qg es es')(h2:Qh m r):Qh m ((l,.buf k es')::r):=⟨⟨_,h,rfl,hw⟩,h2⟩
def Ak {a:AC}{nx:Nat}{m:List (Nat×bd)}{env:List aX}(m':List (Nat×bd))(hm:Qh m m')(h:dn Y a Q env ⟨nx,m'⟩):dn Y a Q env ⟨nx,m⟩:=hR (.nz _ _ _ _ _ (WkE.rf _) hm) h
def fq.nil {lo:Nat}{σ:List (Nat×Nat)}:fq lo σ [] []:=trivial
def fq.un {lo:Nat}{σ:List (Nat×Nat)}{a:aX}{r s:List aX}(h:fq lo σ r s):fq lo σ (a::r) (.un::s):=⟨.inr rfl,h⟩
def fq.eq {lo:Nat}{σ:List (Nat×Nat)}{ok:Bool}{d d':D}{r s:List aX}(hd:sZ lo σ d=some d')(h:fq lo σ r s):fq lo σ (⟨ok,d⟩::r) (⟨ok,d'⟩::s):=⟨.inl ⟨rfl,.inr (.inl hd)⟩,h⟩
theorem fq.nl {lo:Nat}{σ:List (Nat×Nat)}{ok:Bool}{d d':D}{r s:List aX}(hd:d'=d)(hn:d.aS=true)(h:fq lo σ r s):fq lo σ (⟨ok,d⟩::r) (⟨ok,d'⟩::s):=⟨.inl ⟨rfl,.inl ⟨hd,hn⟩⟩,h⟩
def fq.ni {lo:Nat}{σ:List (Nat×Nat)}{ok:Bool}{d d':D}{r s:List aX}(hd:vQ d d')(h:fq lo σ r s):fq lo σ (⟨ok,d⟩::r) (⟨ok,d'⟩::s):=⟨.inl ⟨rfl,.inr (.inr hd)⟩,h⟩
section
variable {lo c:Nat} {σ:List (Nat×Nat)} {m r:List (Nat×bd)}
def bm.nil:bm lo c σ m []:=trivial
theorem bm.nl {k l':Nat}{es es':List D}(l:Nat)(hl:mK lo σ l=some l')(hm:look m l=some (.buf k es))(he:es'=es)(hn:aL es=true)(h:bm lo c σ m r):bm lo c σ m ((l',.buf k es')::r):=
 ⟨.inl ⟨l,_,hl,hm,rfl,.inl ⟨he,hn⟩⟩,h⟩
def bm.eq {k l':Nat}{es es':List D}(l:Nat)(hl:mK lo σ l=some l')(hm:look m l=some (.buf k es))(he:qD lo σ es=some es')(h:bm lo c σ m r):bm lo c σ m ((l',.buf k es')::r):=
 ⟨.inl ⟨l,_,hl,hm,rfl,.inr (.inl he)⟩,h⟩
def bm.ni {k l':Nat}{es es':List D}(l:Nat)(hl:mK lo σ l=some l')(hm:look m l=some (.buf k es))(he:Nt es es')(h:bm lo c σ m r):bm lo c σ m ((l',.buf k es')::r):=
 ⟨.inl ⟨l,_,hl,hm,rfl,.inr (.inr he)⟩,h⟩
def bm.AA {k l':Nat}{es':List D}(hl:mK lo σ l'=some l')(hm:look m l'=some (.buf k es'))(hn:aL es'=true)(h:bm lo c σ m r):bm lo c σ m ((l',.buf k es')::r):=.nl l' hl hm rfl hn h
def bm.Nj {k l':Nat}{es' es:List D}(hl:mK lo σ l'=some l')(hm:look m l'=some (.buf k es))(he:qD lo σ es=some es')(h:bm lo c σ m r):bm lo c σ m ((l',.buf k es')::r):=.eq l' hl hm he h
def bm.mt {k l':Nat}{es':List D}(h1:Nat.ble lo l'=true)(h2:Nat.blt l' c=true)(h3:σ.all (fun p=>!Nat.beq p.2 l')=true)(he:es'=[])(h:bm lo c σ m r):bm lo c σ m ((l',.buf k es')::r):=
 ⟨.inr ⟨h1,h2,h3,k,by rw[he]⟩,h⟩
def bm.it {l' p p':Nat}{s s':List UInt8}(l:Nat)(hl:mK lo σ l=some l')(hm:look m l=some (.iter s p))(hs:s'=s)(hp:p'=p)(h:bm lo c σ m r):bm lo c σ m ((l',.iter s' p')::r):=
 ⟨.inl ⟨l,_,hl,hm,hs,hp⟩,h⟩
def bm.Nk {l' p p':Nat}{s s':List UInt8}(hl:mK lo σ l'=some l')(hm:look m l'=some (.iter s p))(hs:s'=s)(hp:p'=p)(h:bm lo c σ m r):bm lo c σ m ((l',.iter s' p')::r):=.it l' hl hm hs hp h
def bm.rw {l':Nat}{s s':List UInt8}(l:Nat)(hl:mK lo σ l=some l')(hm:look m l=some (.row s))(hs:s'=s)(h:bm lo c σ m r):bm lo c σ m ((l',.row s')::r):=
 ⟨.inl ⟨l,_,hl,hm,hs⟩,h⟩
def bm.bl {l' l1 l2 n n':Nat}{u u':Bool}(l:Nat)(hl:mK lo σ l=some l')(hm:look m l=some (.bld (some l1) n u))(h1:mK lo σ l1=some l2)(hn:n'=n)(hu:u'=u)(h:bm lo c σ m r):bm lo c σ m ((l',.bld (some l2) n' u')::r):=
 ⟨.inl ⟨l,_,hl,hm,⟨l2,h1,rfl⟩,hn,hu⟩,h⟩
def bm.b0 {l' n n':Nat}{u u':Bool}(l:Nat)(hl:mK lo σ l=some l')(hm:look m l=some (.bld none n u))(hn:n'=n)(hu:u'=u)(h:bm lo c σ m r):bm lo c σ m ((l',.bld none n' u')::r):=
 ⟨.inl ⟨l,_,hl,hm,rfl,hn,hu⟩,h⟩
end
mutual
def xC (m:List (Nat×bd)):Sh->D->D
 | .a,d=>match d with
  | .aK=>.sl 0 []
  |d=>d
 | .sl k cs,d=>match d with
  | .aK=>.sl k []
  | .own l k' i c=>.sl k' ((((aH m l).drop i).take c).map fun e=>match e with
   | .agg ds=>.agg (xL m cs ds)
   |e=>xH m cs e)
  |d=>d
 | .pt cs,d=>match d with
  | .ptr l k i o=>.ref k ((aH m l).map fun e=>match e with
   | .agg ds=>.agg (xL m cs ds)
   |e=>xH m cs e) i o
  |d=>d
 | .kp cs,d=>match d with
  | .own l k' i c=>.sl k' ((((aH m l).drop i).take c).map fun e=>match e with
   | .agg ds=>.agg (xL m cs ds)
   |e=>xH m cs e)
  |d=>d
def xH (m:List (Nat×bd)):List Sh->D->D
 |[],d=>d
 |s::_,d=>xC m s d
def xL (m:List (Nat×bd)):List Sh->List D->List D
 |[],ds=>ds
 |s::r,ds=>match ds with
  |[]=>[]
  |d::ds=>xC m s d::xL m r ds
end
def xV (m:List (Nat×bd))(cs:List Sh):D->D
 | .agg ds=>.agg (xL m cs ds)
 |e=>xH m cs e
mutual
def UM (m:List (Nat×bd)):Sh->D->Prop
 | .a,d=>d.aS=true
 | .sl _ cs,d=>match d with
  | .own l k' i c=>dT m l k' (i+c)/\∀e∈((aH m l).drop i).take c,(match e with
   | .agg ds=>ZN m cs ds
   |e=>xHO m cs e)
  |d=>d.aS=true
 | .pt cs,d=>match d with
  | .ptr l k _ _=>dT m l k 0/\∀e∈aH m l,(match e with
   | .agg ds=>ZN m cs ds
   |e=>xHO m cs e)
  |d=>d.aS=true
 | .kp cs,d=>match d with
  | .own l k' i c=>dT m l k' (i+c)/\∀e∈((aH m l).drop i).take c,(match e with
   | .agg ds=>ZN m cs ds
   |e=>xHO m cs e)
  |d=>d.aS=true
def xHO (m:List (Nat×bd)):List Sh->D->Prop
 |[],d=>d.aS=true
 |s::_,d=>UM m s d
def ZN (m:List (Nat×bd)):List Sh->List D->Prop
 |[],ds=>aL ds=true
 |s::r,ds=>match ds with
  |[]=>True
  |d::ds=>UM m s d/\ZN m r ds
end
def xVO (m:List (Nat×bd))(cs:List Sh):D->Prop
 | .agg ds=>ZN m cs ds
 |e=>xHO m cs e
mutual
theorem ZM (m:List (Nat×bd)):∀(s:Sh) (d:D),kJ m s d=xC m s d/\(ig m s d↔UM m s d)
 | .a,d=>by cases d<;>simp only[kJ,xC,ig,UM]<;>exact⟨trivial,trivial⟩
 | .sl k cs,d=>by
  cases d<;>simp only[kJ,xC,ig,UM]<;>first
   |exact⟨trivial,trivial⟩
   |skip
  rename_i l k' i c;exact⟨aw (D.sl k') (List.map_congr_left fun e _=>(DT m cs e).1),and_congr_right fun _=>forall_congr' fun e=>imp_congr_right fun _=>(DT m cs e).2⟩
 | .pt cs,d=>by
  cases d<;>simp only[kJ,xC,ig,UM]<;>first
   |exact⟨trivial,trivial⟩
   |skip
  rename_i l k' i c;exact⟨aw (fun x=>D.ref k' x i c) (List.map_congr_left fun e _=>(DT m cs e).1),and_congr_right fun _=>forall_congr' fun e=>imp_congr_right fun _=>(DT m cs e).2⟩
 | .kp cs,d=>by
  cases d<;>simp only[kJ,xC,ig,UM]<;>first
   |exact⟨trivial,trivial⟩
   |skip
  rename_i l k' i c;exact⟨aw (D.sl k') (List.map_congr_left fun e _=>(DT m cs e).1),and_congr_right fun _=>forall_congr' fun e=>imp_congr_right fun _=>(DT m cs e).2⟩
theorem DT (m:List (Nat×bd)):∀(cs:List Sh) (d:D),iT m cs d=(match d with
   | .agg ds=>.agg (xL m cs ds)
   |e=>xH m cs e)/\(gy m cs d↔(match d with
   | .agg ds=>ZN m cs ds
   |e=>xHO m cs e))
 |[],d=>by cases d<;>simp only[iT,xH,xL,gy,xHO,ZN,D.aS]<;>first|exact⟨trivial,Iff.rfl⟩|exact⟨trivial,trivial⟩
 |s::r,d=>by
  cases d<;>simp only[iT,xH,gy,xHO]<;>first
   |exact ZM m s _
   |skip
  rename_i ds;exact⟨aw D.agg (Sc m (s::r) ds).1,(Sc m (s::r) ds).2⟩
theorem Sc (m:List (Nat×bd)):∀(cs:List Sh) (ds:List D),nk m cs ds=xL m cs ds/\(j8 m cs ds↔ZN m cs ds)
 |[],ds=>by simp only[nk,xL,j8,ZN];exact⟨trivial,trivial⟩
 |s::r,[]=>by simp only[nk,xL,j8,ZN];exact⟨trivial,trivial⟩
 |s::r,d::ds=>by
  simp only[nk,xL,j8,ZN,(ZM m s d).1,(Sc m r ds).1];exact⟨trivial,and_congr (ZM m s d).2 (Sc m r ds).2⟩
end
theorem Gc (m:List (Nat×bd))(cs:List Sh)(d:D):iT m cs d=xV m cs d/\(gy m cs d↔xVO m cs d):=by
 have:=DT m cs d;cases d<;>exact this
def iY (m:List (Nat×bd)):List (List Sh)->List D->List D
 |_,[]=>[]
 |[],d::r=>xV m [.a] d::iY m [] r
 |s::ss,d::r=>xV m s d::iY m ss r
def iO (m:List (Nat×bd)):List (List Sh)->List D->Prop
 |_,[]=>True
 |[],d::r=>xVO m [.a] d/\iO m [] r
 |s::ss,d::r=>xVO m s d/\iO m ss r
theorem dq (m:List (Nat×bd)):∀(ss:List (List Sh)) (ds:List D),iu m ss ds=iY m ss ds/\(iX m ss ds↔iO m ss ds)
 |ss,[]=>by simp[iu,iY,iX,iO]
 |[],d::r=>by
  simp only[iu,iY,iX,iO,(Gc m [.a] d).1,(dq m [] r).1];exact⟨trivial,and_congr (Gc m _ d).2 (dq m [] r).2⟩
 |s::ss,d::r=>by
  simp only[iu,iY,iX,iO,(Gc m s d).1,(dq m ss r).1];exact⟨trivial,and_congr (Gc m _ d).2 (dq m ss r).2⟩
def Nu (a:aj)(d:D):Ex->List aX->St->Prop:=fun e env st=>e.home/\n8 st.m env a.res/\Mx a env st/\Y6 a env st=d
def Ng (a:aj)(env:List aX)(m:List (Nat×bd)):D:=match a.res with
 |[r]=>xV m (a.rsh.getD 0 []) (HS m env r)
 |rs=>.tup (iY m a.rsh (qC m env rs))
def Al (a:aj)(env:List aX)(m:List (Nat×bd)):Prop:=match a.res with
 |[r]=>xVO m (a.rsh.getD 0 []) (HS m env r)
 |rs=>iO m a.rsh (qC m env rs)
def Pr {a:aj}{d:D}{e:Ex}{nx:Nat}{m:List (Nat×bd)}(he:e.home)(h1:n8 m env a.res)(h2:Al a env m)(h3:Ng a env m=d):Nu a d e env ⟨nx,m⟩:=by
 refine⟨he,h1, ?_, ?_⟩
 .unfold Mx;unfold Al at h2;split<;>rename_i hr
  .rw[hr]at h2;exact(Gc _ _ _).2.2 h2
  .split at h2
   .rename_i hr2;exact absurd hr2 (hr _)
   .exact(dq _ _ _).2.2 h2
 grind [Y6,Ng,Gc,dq]
def Gl (a:aj)(k:Nat)(vd sd:D):Ex->List aX->St->Prop:=fun e env st=>e.home/\n8 st.m env a.res/\(j1 a env st).aS=true/\j1 a env st=vd/\look st.m 0=some (.buf k [sd])/\sd.aS=true
def iP {a:aj}{k:Nat}{vd sd:D}{e:Ex}{nx:Nat}{m:List (Nat×bd)}(he:e.home)(h1:n8 m env a.res)(h2:j1 a env ⟨nx,m⟩=vd)(h3:look m 0=some (.buf k [sd]))(hn:vd.aS=true)(hs:sd.aS=true):Gl a k vd sd e env ⟨nx,m⟩:=⟨he,h1,by rw[h2];exact hn,h2,h3,hs⟩
end
end
section
section
variable {Y:Ctx} {draw:Bool} {r:List GI} {env rs:List aX} {nx:Nat} {m:List (Nat×bd)} {K:List aX->St->Prop} {g:Option (Nat×Bool)} {f:Bool}
def at8 (s:List UInt8)(i:Nat):Int:=((s.getD i 0).toNat:Int)
def Gq (s:List UInt8)(i:Nat):0<=at8 s i/\at8 s i<256:=by
 have:=(s.getD i 0).toNat_lt;unfold at8;omega
def D.aio:D->Bool
 | .str _=>true
 |_=>false
def wrap_i64 {a:Int}(h1:-9223372036854775808<=a)(h2:a<=9223372036854775807):IntKind.i64.wrap a=a:=IntWalk.i64_in _ ae
def Qo (a b:List UInt8):(a==b)=decide (a=b):=by
 grind
def getD_map {α:Type} [Inhabited α]{q:α->D}{xs:List α}{i:Nat}(h:i<xs.length):(xs.map q).getD i .any=q xs[i]! :=by
 simp[List.getD,h]
def akl (b:UInt8):(D.int .u8 b.toNat).u8=b:=by simp[D.u8]
def abe (s:List UInt8):D.str ((s.map fun b=>D.int .u8 b.toNat).map D.u8)=.str s:=by
 congr 1;rw[List.map_map]
 conv=>rhs;rw[<-List.map_id s]
 apply List.map_congr_left;intro b _;exact akl b
def GF (rs:List aX):Option (Nat×Bool)->Bool->Prop
 |none,f=>f=true
 |some (j,w),f=>∃ok b,bO [] rs (.l j)=⟨ok,.bool b⟩/\(ok&&(b==w))=f
def GF.flag (h:GF rs g f):flag rs.reverse g=f/\yo rs.reverse g:=by
 cases g with
 |none=>exact⟨h.symm,trivial⟩
 |some jw=>
  obtain⟨j,w⟩:=jw;obtain⟨ok,b,h1,h2⟩:=h;have h3:rs.reverse.getD j .un=⟨ok,.bool b⟩:=by rw[<-h1,<-oA];rfl
  simp only[Abs.flag,yo,h3,h2,D.isBool];exact⟨trivial,fun _=>trivial⟩
def Yr {i:ax}(hM:i.cJ=false)(hF:i.k8 draw g=false)(hC:g.isSome=true->i.calm=true)(hg:GF rs g f)(d:D)(ho:f=true->i.ey Y (bO env rs) m)
  (hv:f=true->i.val Y (bO env rs) m (nx+rs.length)=d) (m':List (Nat×bd)) (hm:i.bL Y (bO env rs) m (nx+rs.length)=m')
  (h:(f=true->i.Kf draw (bO env rs))->ay Y draw r env (⟨f,d⟩::rs) nx m' K):ay Y draw (⟨i,g⟩::r) env rs nx m K:=by
 obtain⟨hf,hb⟩:=hg.flag;unfold ay;rw[nC hM hF,oA,hf];refine⟨?_,ho,fun ha=>⟨d,by simpa using hv, ?_⟩⟩
 .cases g with
  |none=>trivial
  |some jw=>exact⟨hC rfl,hb⟩
 grind [ay]
def fT {i:ax}(hC:i.calm=true)(hg:GF rs g f)(d:D)(ho:f=true->i.ey Y (bO env rs) m)
  (hv:f=true->i.val Y (bO env rs) m (nx+rs.length)=d) (m':List (Nat×bd)) (hm:i.bL Y (bO env rs) m (nx+rs.length)=m')
  (h:(f=true->i.Kf draw (bO env rs))->ay Y draw r env (⟨f,d⟩::rs) nx m' K):ay Y draw (⟨i,g⟩::r) env rs nx m K:=
 Yr (by cases i<;>first|rfl|cases hC) (by simp[ax.k8,hC]) (fun _=>hC) hg d ho hv m' hm h
def br {i:ax}(hC:i.pure=true)(hg:GF rs g f)(d:D)(ho:f=true->i.ey Y (bO env rs) m)
  (hv:f=true->i.val Y (bO env rs) m (nx+rs.length)=d) 
  (h:(f=true->i.Kf draw (bO env rs))->ay Y draw r env (⟨f,d⟩::rs) nx m K):ay Y draw (⟨i,g⟩::r) env rs nx m K:=
 fT (TR hC) hg d ho hv m (Yj hC) h
def oU {i:ax}(hM:i.cJ=false)(d:D)(ho:i.ey Y (bO env rs) m)
  (hv:i.val Y (bO env rs) m (nx+rs.length)=d) (m':List (Nat×bd)) (hm:i.bL Y (bO env rs) m (nx+rs.length)=m')
  (h:i.Kf draw (bO env rs)->ay Y draw r env (⟨true,d⟩::rs) nx m' K):ay Y draw (⟨i,none⟩::r) env rs nx m K:=
 Yr hM (by simp[ax.k8]) (fun h=>bZ) rfl d (fun _=>ho) (fun _=>hv) m' hm (fun ha=>h (ha rfl))
def Yu {i:ax}{j:Nat}{w:Bool}(hM:i.cJ=false)(hC:i.calm=false)(hg:GF rs (some (j,w)) f)(h1:f=true->∃d,i.ey Y (bO env rs) m/\i.val Y (bO env rs) m (nx+rs.length)=d/\∃m',i.bL Y (bO env rs) m (nx+rs.length)=m'/\ay Y false r env (⟨true,d⟩::rs) nx m' K)
  (h2:f=false->ay Y false r env (⟨false,.any⟩::rs) nx m K):ay Y false (⟨i,some (j,w)⟩::r) env rs nx m K:=by
 obtain⟨hf,hb⟩:=hg.flag
 grind [ay,yT,ax.k8,oA]
def bE {x:Src}{fx:Bool}{d:D}(h:ay Y draw r env (⟨f,d⟩::rs) nx m K)(hg:GF rs g f:=by exact cA)(hx:bO env rs x=⟨fx,d⟩:=by exact rfl)(kx:f=true->fx=true:=by exact bn):ay Y draw (⟨.mv x,g⟩::r) env rs nx m K:=
 br rfl hg _ (fun hf=>oo) (fun hf=>pd) (fun ha=>h)
def RA {x:Src}{fx:Bool}{b:Bool}(h:ay Y draw r env (⟨f,.bool (!b)⟩::rs) nx m K)(hg:GF rs g f:=by exact cA)(hx:bO env rs x=⟨fx,.bool b⟩:=by exact rfl)(kx:f=true->fx=true:=by exact bn):ay Y draw (⟨.un .not x,g⟩::r) env rs nx m K:=
 br rfl hg _ (fun hf=>oo) (fun hf=>pd) (fun ha=>h)
def LW {c b:Src}{fc fb t y:Bool}(h:ay Y draw r env (⟨f,.bool (t ||y)⟩::rs) nx m K)(hg:GF rs g f:=by exact cA)(hc:bO env rs c=⟨fc,.bool t⟩:=by exact rfl)(hb:bO env rs b=⟨fb,.bool y⟩:=by exact rfl)(kc:f=true->fc=true:=by exact bn)(kb:f=true->t=false->fb=true:=by intro h1 h2;first|(rw[h2];exact rfl)|(rw[h2,h1];rfl)|(rw[h1,h2];rfl)|simp_all):ay Y draw (⟨.pick c (.c (.bool true)) b,g⟩::r) env rs nx m K:=
 br rfl hg _ (fun hf=>by simp only[ax.ey,hc,hb];exact⟨kc hf,fun _=>rfl,fun e=>kb hf e⟩) (fun hf=>by simp only[ax.val,hc,hb];cases t<;>rfl) (fun _=>h)
def uD {c a:Src}{fc fa t y:Bool}(h:ay Y draw r env (⟨f,.bool (t&&y)⟩::rs) nx m K)(hg:GF rs g f:=by exact cA)(hc:bO env rs c=⟨fc,.bool t⟩:=by exact rfl)(ha:bO env rs a=⟨fa,.bool y⟩:=by exact rfl)(kc:f=true->fc=true:=by exact bn)(ka:f=true->t=true->fa=true:=by intro h1 h2;first|(rw[h2];exact rfl)|(rw[h2,h1];rfl)|(rw[h1,h2];rfl)|simp_all):ay Y draw (⟨.pick c a (.c (.bool false)),g⟩::r) env rs nx m K:=
 br rfl hg _ (fun hf=>by simp only[ax.ey,hc,ha];exact⟨kc hf,fun e=>ka hf e,fun _=>rfl⟩) (fun hf=>by simp only[ax.val,hc,ha];cases t<;>rfl) (fun _=>h)
def lO {x y:Src}{fx fy:Bool}{a b:Int}(h:ay Y draw r env (⟨f,.int .i64 (a+b)⟩::rs) nx m K)(hg:GF rs g f:=by exact cA)(hx:bO env rs x=⟨fx,.int .i64 a⟩:=by exact rfl)(hy:bO env rs y=⟨fy,.int .i64 b⟩:=by exact rfl)(kx:f=true->fx=true:=by exact bn)(ky:f=true->fy=true:=by exact bn)(hb:f=true->-9223372036854775808<=a+b/\a+b<=9223372036854775807:=by exact Ig):ay Y draw (⟨.bin .add x y,g⟩::r) env rs nx m K:=
 br rfl hg _ (fun hf=>gM) (fun hf=>P6) (fun ha=>h)
def Yp {x y:Src}{fx fy:Bool}{k:IntKind}{a b:Int}(v:Int)(h:ay Y draw r env (⟨f,.int k v⟩::rs) nx m K)(hg:GF rs g f:=by exact cA)(hx:bO env rs x=⟨fx,.int k a⟩:=by exact rfl)(hy:bO env rs y=⟨fy,.int k b⟩:=by exact rfl)(kx:f=true->fx=true:=by exact bn)(ky:f=true->fy=true:=by exact bn)(hb:f=true->k.wrap (a+b)=v):ay Y draw (⟨.bin .add x y,g⟩::r) env rs nx m K:=
 br rfl hg _ (fun hf=>gM) (fun hf=>o8) (fun ha=>h)
def Bn {x y:Src}{fx fy:Bool}{a b:Int}(h:ay Y draw r env (⟨f,.int .i64 (a-b)⟩::rs) nx m K)(hg:GF rs g f:=by exact cA)(hx:bO env rs x=⟨fx,.int .i64 a⟩:=by exact rfl)(hy:bO env rs y=⟨fy,.int .i64 b⟩:=by exact rfl)(kx:f=true->fx=true:=by exact bn)(ky:f=true->fy=true:=by exact bn)(hb:f=true->-9223372036854775808<=a-b/\a-b<=9223372036854775807:=by exact Ig):ay Y draw (⟨.bin .sub x y,g⟩::r) env rs nx m K:=
 br rfl hg _ (fun hf=>gM) (fun hf=>P6) (fun ha=>h)
def Hw {x y:Src}{fx fy:Bool}{k:IntKind}{a b:Int}(v:Int)(h:ay Y draw r env (⟨f,.int k v⟩::rs) nx m K)(hg:GF rs g f:=by exact cA)(hx:bO env rs x=⟨fx,.int k a⟩:=by exact rfl)(hy:bO env rs y=⟨fy,.int k b⟩:=by exact rfl)(kx:f=true->fx=true:=by exact bn)(ky:f=true->fy=true:=by exact bn)(hb:f=true->k.wrap (a-b)=v):ay Y draw (⟨.bin .sub x y,g⟩::r) env rs nx m K:=
 br rfl hg _ (fun hf=>gM) (fun hf=>o8) (fun ha=>h)
def xl {x y:Src}{fx fy:Bool}{a b:Int}(h:ay Y draw r env (⟨f,.int .i64 (a*b)⟩::rs) nx m K)(hg:GF rs g f:=by exact cA)(hx:bO env rs x=⟨fx,.int .i64 a⟩:=by exact rfl)(hy:bO env rs y=⟨fy,.int .i64 b⟩:=by exact rfl)(kx:f=true->fx=true:=by exact bn)(ky:f=true->fy=true:=by exact bn)(hb:f=true->-9223372036854775808<=a*b/\a*b<=9223372036854775807:=by exact Ig):ay Y draw (⟨.bin .mul x y,g⟩::r) env rs nx m K:=
 br rfl hg _ (fun hf=>gM) (fun hf=>P6) (fun ha=>h)
def Yz {x y:Src}{fx fy:Bool}{k:IntKind}{a b:Int}(v:Int)(h:ay Y draw r env (⟨f,.int k v⟩::rs) nx m K)(hg:GF rs g f:=by exact cA)(hx:bO env rs x=⟨fx,.int k a⟩:=by exact rfl)(hy:bO env rs y=⟨fy,.int k b⟩:=by exact rfl)(kx:f=true->fx=true:=by exact bn)(ky:f=true->fy=true:=by exact bn)(hb:f=true->k.wrap (a*b)=v):ay Y draw (⟨.bin .mul x y,g⟩::r) env rs nx m K:=
 br rfl hg _ (fun hf=>gM) (fun hf=>o8) (fun ha=>h)
def r_quo {x y:Src}{fx fy:Bool}{k:IntKind}{a b:Int}(v:Int)(h:ay Y draw r env (⟨f,.int k v⟩::rs) nx m K)(hg:GF rs g f:=by exact cA)(hx:bO env rs x=⟨fx,.int k a⟩:=by exact rfl)(hy:bO env rs y=⟨fy,.int k b⟩:=by exact rfl)(kx:f=true->fx=true:=by exact bn)(ky:f=true->fy=true:=by exact bn)(hn:f=true->b≠0)(hb:f=true->k.wrap (a.tdiv b)=v):ay Y draw (⟨.bin .quo x y,g⟩::r) env rs nx m K:=
 br rfl hg _ (fun hf=>Kd) (fun hf=>o8) (fun ha=>h)
def zO {x y:Src}{fx fy:Bool}{k:IntKind}{a b:Int}(v:Int)(h:ay Y draw r env (⟨f,.int k v⟩::rs) nx m K)(hg:GF rs g f:=by exact cA)(hx:bO env rs x=⟨fx,.int k a⟩:=by exact rfl)(hy:bO env rs y=⟨fy,.int k b⟩:=by exact rfl)(kx:f=true->fx=true:=by exact bn)(ky:f=true->fy=true:=by exact bn)(hn:f=true->b≠0)(hb:f=true->a.tmod b=v):ay Y draw (⟨.bin .rem x y,g⟩::r) env rs nx m K:=
 br rfl hg _ (fun hf=>Kd) (fun hf=>o8) (fun ha=>h)
def FB {x y:Src}{fx fy:Bool}{k k2:IntKind}{a b:Int}(v:Int)(h:ay Y draw r env (⟨f,.int k v⟩::rs) nx m K)(hg:GF rs g f:=by exact cA)(hx:bO env rs x=⟨fx,.int k a⟩:=by exact rfl)(hy:bO env rs y=⟨fy,.int k2 b⟩:=by exact rfl)(kx:f=true->fx=true:=by exact bn)(ky:f=true->fy=true:=by exact bn)(hn:f=true->0<=b:=by exact rr)(hb:f=true->k.wrap (a*2^(min b.toNat k.bits))=v):ay Y draw (⟨.bin .shl x y,g⟩::r) env rs nx m K:=
 br rfl hg _ (fun hf=>Kd) (fun hf=>o8) (fun ha=>h)
def RB {x y:Src}{fx fy:Bool}{k k2:IntKind}{a b:Int}(v:Int)(h:ay Y draw r env (⟨f,.int k v⟩::rs) nx m K)(hg:GF rs g f:=by exact cA)(hx:bO env rs x=⟨fx,.int k a⟩:=by exact rfl)(hy:bO env rs y=⟨fy,.int k2 b⟩:=by exact rfl)(kx:f=true->fx=true:=by exact bn)(ky:f=true->fy=true:=by exact bn)(hn:f=true->0<=b:=by exact rr)(hb:f=true->a.fdiv (2^(min b.toNat k.bits))=v):ay Y draw (⟨.bin .shr x y,g⟩::r) env rs nx m K:=
 br rfl hg _ (fun hf=>Kd) (fun hf=>o8) (fun ha=>h)
def CR {x y:Src}{fx fy:Bool}{k:IntKind}{a b:Int}(v:Int)(h:ay Y draw r env (⟨f,.int k v⟩::rs) nx m K)(hg:GF rs g f:=by exact cA)(hx:bO env rs x=⟨fx,.int k a⟩:=by exact rfl)(hy:bO env rs y=⟨fy,.int k b⟩:=by exact rfl)(kx:f=true->fx=true:=by exact bn)(ky:f=true->fy=true:=by exact bn)(hb:f=true->k.wrap (((BitVec.ofInt k.bits a)&&&(BitVec.ofInt k.bits b)).toNat)=v):ay Y draw (⟨.bin .and x y,g⟩::r) env rs nx m K:=
 br rfl hg _ (fun hf=>gM) (fun hf=>o8) (fun ha=>h)
def aeV {x y:Src}{fx fy:Bool}{k:IntKind}{a b:Int}(v:Int)(h:ay Y draw r env (⟨f,.int k v⟩::rs) nx m K)(hg:GF rs g f:=by exact cA)(hx:bO env rs x=⟨fx,.int k a⟩:=by exact rfl)(hy:bO env rs y=⟨fy,.int k b⟩:=by exact rfl)(kx:f=true->fx=true:=by exact bn)(ky:f=true->fy=true:=by exact bn)(hb:f=true->k.wrap (((BitVec.ofInt k.bits a) |||(BitVec.ofInt k.bits b)).toNat)=v):ay Y draw (⟨.bin .or x y,g⟩::r) env rs nx m K:=
 br rfl hg _ (fun hf=>gM) (fun hf=>o8) (fun ha=>h)
def Hq {x y:Src}{fx fy:Bool}{k:IntKind}{a b:Int}(v:Int)(h:ay Y draw r env (⟨f,.int k v⟩::rs) nx m K)(hg:GF rs g f:=by exact cA)(hx:bO env rs x=⟨fx,.int k a⟩:=by exact rfl)(hy:bO env rs y=⟨fy,.int k b⟩:=by exact rfl)(kx:f=true->fx=true:=by exact bn)(ky:f=true->fy=true:=by exact bn)(hb:f=true->k.wrap (((BitVec.ofInt k.bits a)^^^(BitVec.ofInt k.bits b)).toNat)=v):ay Y draw (⟨.bin .xor x y,g⟩::r) env rs nx m K:=
 br rfl hg _ (fun hf=>gM) (fun hf=>o8) (fun ha=>h)
def yO {x y:Src}{fx fy:Bool}{k:IntKind}{a b:Int}(h:ay Y draw r env (⟨f,.bool (decide (a<b))⟩::rs) nx m K)(hg:GF rs g f:=by exact cA)(hx:bO env rs x=⟨fx,.int k a⟩:=by exact rfl)(hy:bO env rs y=⟨fy,.int k b⟩:=by exact rfl)(kx:f=true->fx=true:=by exact bn)(ky:f=true->fy=true:=by exact bn):ay Y draw (⟨.bin .lss x y,g⟩::r) env rs nx m K:=
 br rfl hg _ (fun hf=>gM) (fun hf=>zb) (fun ha=>h)
def Ht {x y:Src}{fx fy:Bool}{k:IntKind}{a b:Int}(h:ay Y draw r env (⟨f,.bool (decide (a<=b))⟩::rs) nx m K)(hg:GF rs g f:=by exact cA)(hx:bO env rs x=⟨fx,.int k a⟩:=by exact rfl)(hy:bO env rs y=⟨fy,.int k b⟩:=by exact rfl)(kx:f=true->fx=true:=by exact bn)(ky:f=true->fy=true:=by exact bn):ay Y draw (⟨.bin .leq x y,g⟩::r) env rs nx m K:=
 br rfl hg _ (fun hf=>gM) (fun hf=>zb) (fun ha=>h)
def oS {x y:Src}{fx fy:Bool}{k:IntKind}{a b:Int}(h:ay Y draw r env (⟨f,.bool (decide (b<a))⟩::rs) nx m K)(hg:GF rs g f:=by exact cA)(hx:bO env rs x=⟨fx,.int k a⟩:=by exact rfl)(hy:bO env rs y=⟨fy,.int k b⟩:=by exact rfl)(kx:f=true->fx=true:=by exact bn)(ky:f=true->fy=true:=by exact bn):ay Y draw (⟨.bin .gtr x y,g⟩::r) env rs nx m K:=
 br rfl hg _ (fun hf=>gM) (fun hf=>zb) (fun ha=>h)
def Hr {x y:Src}{fx fy:Bool}{k:IntKind}{a b:Int}(h:ay Y draw r env (⟨f,.bool (decide (b<=a))⟩::rs) nx m K)(hg:GF rs g f:=by exact cA)(hx:bO env rs x=⟨fx,.int k a⟩:=by exact rfl)(hy:bO env rs y=⟨fy,.int k b⟩:=by exact rfl)(kx:f=true->fx=true:=by exact bn)(ky:f=true->fy=true:=by exact bn):ay Y draw (⟨.bin .geq x y,g⟩::r) env rs nx m K:=
 br rfl hg _ (fun hf=>gM) (fun hf=>zb) (fun ha=>h)
def OK {x y:Src}{fx fy:Bool}{k:IntKind}{a b:Int}(h:ay Y draw r env (⟨f,.bool (decide (a=b))⟩::rs) nx m K)(hg:GF rs g f:=by exact cA)(hx:bO env rs x=⟨fx,.int k a⟩:=by exact rfl)(hy:bO env rs y=⟨fy,.int k b⟩:=by exact rfl)(kx:f=true->fx=true:=by exact bn)(ky:f=true->fy=true:=by exact bn):ay Y draw (⟨.bin .eql x y,g⟩::r) env rs nx m K:=
 br rfl hg _ (fun hf=>gM) (fun hf=>zb) (fun ha=>h)
def oT {x y:Src}{fx fy:Bool}{k:IntKind}{a b:Int}(h:ay Y draw r env (⟨f,.bool (!decide (a=b))⟩::rs) nx m K)(hg:GF rs g f:=by exact cA)(hx:bO env rs x=⟨fx,.int k a⟩:=by exact rfl)(hy:bO env rs y=⟨fy,.int k b⟩:=by exact rfl)(kx:f=true->fx=true:=by exact bn)(ky:f=true->fy=true:=by exact bn):ay Y draw (⟨.bin .neq x y,g⟩::r) env rs nx m K:=
 br rfl hg _ (fun hf=>gM) (fun hf=>zb) (fun ha=>h)
def ajQ {x y:Src}{fx fy:Bool}{a b:List UInt8}(h:ay Y draw r env (⟨f,.bool (Op.bytesLess a b)⟩::rs) nx m K)(hg:GF rs g f:=by exact cA)(hx:bO env rs x=⟨fx,.str a⟩:=by exact rfl)(hy:bO env rs y=⟨fy,.str b⟩:=by exact rfl)(kx:f=true->fx=true:=by exact bn)(ky:f=true->fy=true:=by exact bn):ay Y draw (⟨.bin .lss x y,g⟩::r) env rs nx m K:=
 br rfl hg _ (fun hf=>gM) (fun hf=>za) (fun ha=>h)
def ajP {x y:Src}{fx fy:Bool}{a b:List UInt8}(h:ay Y draw r env (⟨f,.bool (Op.bytesLess a b ||decide (a=b))⟩::rs) nx m K)(hg:GF rs g f:=by exact cA)(hx:bO env rs x=⟨fx,.str a⟩:=by exact rfl)(hy:bO env rs y=⟨fy,.str b⟩:=by exact rfl)(kx:f=true->fx=true:=by exact bn)(ky:f=true->fy=true:=by exact bn):ay Y draw (⟨.bin .leq x y,g⟩::r) env rs nx m K:=
 br rfl hg _ (fun hf=>gM) (fun hf=>za) (fun ha=>h)
def ajH {x y:Src}{fx fy:Bool}{a b:List UInt8}(h:ay Y draw r env (⟨f,.bool (!(Op.bytesLess a b ||decide (a=b)))⟩::rs) nx m K)(hg:GF rs g f:=by exact cA)(hx:bO env rs x=⟨fx,.str a⟩:=by exact rfl)(hy:bO env rs y=⟨fy,.str b⟩:=by exact rfl)(kx:f=true->fx=true:=by exact bn)(ky:f=true->fy=true:=by exact bn):ay Y draw (⟨.bin .gtr x y,g⟩::r) env rs nx m K:=
 br rfl hg _ (fun hf=>gM) (fun hf=>za) (fun ha=>h)
def ajG {x y:Src}{fx fy:Bool}{a b:List UInt8}(h:ay Y draw r env (⟨f,.bool (!Op.bytesLess a b)⟩::rs) nx m K)(hg:GF rs g f:=by exact cA)(hx:bO env rs x=⟨fx,.str a⟩:=by exact rfl)(hy:bO env rs y=⟨fy,.str b⟩:=by exact rfl)(kx:f=true->fx=true:=by exact bn)(ky:f=true->fy=true:=by exact bn):ay Y draw (⟨.bin .geq x y,g⟩::r) env rs nx m K:=
 br rfl hg _ (fun hf=>gM) (fun hf=>za) (fun ha=>h)
def Yt {x y:Src}{fx fy:Bool}{a b:List UInt8}(h:ay Y draw r env (⟨f,.bool (decide (a=b))⟩::rs) nx m K)(hg:GF rs g f:=by exact cA)(hx:bO env rs x=⟨fx,.str a⟩:=by exact rfl)(hy:bO env rs y=⟨fy,.str b⟩:=by exact rfl)(kx:f=true->fx=true:=by exact bn)(ky:f=true->fy=true:=by exact bn):ay Y draw (⟨.bin .eql x y,g⟩::r) env rs nx m K:=
 br rfl hg _ (fun hf=>gM) (fun hf=>za) (fun ha=>h)
def ajR {x y:Src}{fx fy:Bool}{a b:List UInt8}(h:ay Y draw r env (⟨f,.bool (!decide (a=b))⟩::rs) nx m K)(hg:GF rs g f:=by exact cA)(hx:bO env rs x=⟨fx,.str a⟩:=by exact rfl)(hy:bO env rs y=⟨fy,.str b⟩:=by exact rfl)(kx:f=true->fx=true:=by exact bn)(ky:f=true->fy=true:=by exact bn):ay Y draw (⟨.bin .neq x y,g⟩::r) env rs nx m K:=
 br rfl hg _ (fun hf=>gM) (fun hf=>za) (fun ha=>h)
def OJ {x y:Src}{fx fy:Bool}{a b:List UInt8}(h:ay Y draw r env (⟨f,.str (a++b)⟩::rs) nx m K)(hg:GF rs g f:=by exact cA)(hx:bO env rs x=⟨fx,.str a⟩:=by exact rfl)(hy:bO env rs y=⟨fy,.str b⟩:=by exact rfl)(kx:f=true->fx=true:=by exact bn)(ky:f=true->fy=true:=by exact bn)(hb:f=true->a.length+b.length<=9223372036854775807):ay Y draw (⟨.bin .add x y,g⟩::r) env rs nx m K:=
 br rfl hg _ (fun hf=>by simp[ax.ey,hx,hy,kx hf,ky hf,Ar,hb hf]) (fun hf=>by simp only[ax.val,hx,hy,Eg]) (fun ha=>h)
def r_eqP {x y:Src}{fx fy:Bool}{ag:Bool}{ks:List CK}{a b:D}{v:Bool}(h:ay Y draw r env (⟨f,.bool (v)⟩::rs) nx m K)(hb:gV a.cells b.cells=v)(hg:GF rs g f:=by exact cA)(hx:bO env rs x=⟨fx,a⟩:=by exact rfl)(hy:bO env rs y=⟨fy,b⟩:=by exact rfl)(kx:f=true->fx=true:=by exact bn)(ky:f=true->fy=true:=by exact bn)(h1:f=true->a.isAgg=ag/\b.isAgg=ag/\fA ks a.cells/\fA ks b.cells:=by exact uo):ay Y draw (⟨.eqA false ag ks x y,g⟩::r) env rs nx m K:=
 br rfl hg _ (fun hf=>Sx) (fun hf=>by simp only[ax.val,hx,hy];rw[hb];rfl) (fun ha=>h)
def r_eqN {x y:Src}{fx fy:Bool}{ag:Bool}{ks:List CK}{a b:D}{v:Bool}(h:ay Y draw r env (⟨f,.bool (!v)⟩::rs) nx m K)(hb:gV a.cells b.cells=v)(hg:GF rs g f:=by exact cA)(hx:bO env rs x=⟨fx,a⟩:=by exact rfl)(hy:bO env rs y=⟨fy,b⟩:=by exact rfl)(kx:f=true->fx=true:=by exact bn)(ky:f=true->fy=true:=by exact bn)(h1:f=true->a.isAgg=ag/\b.isAgg=ag/\fA ks a.cells/\fA ks b.cells:=by exact uo):ay Y draw (⟨.eqA true ag ks x y,g⟩::r) env rs nx m K:=
 br rfl hg _ (fun hf=>Sx) (fun hf=>by simp only[ax.val,hx,hy];rw[hb];rfl) (fun ha=>h)
def qY {x:Src}{fx:Bool}{k k2:IntKind}{a:Int}(v:Int)(h:ay Y draw r env (⟨f,.int k v⟩::rs) nx m K)(hg:GF rs g f:=by exact cA)(hx:bO env rs x=⟨fx,.int k2 a⟩:=by exact rfl)(kx:f=true->fx=true:=by exact bn)(hb:f=true->k.wrap a=v):ay Y draw (⟨.cvi k x,g⟩::r) env rs nx m K:=
 br rfl hg _ (fun hf=>oo) (fun hf=>by simp only[ax.val,hx];rw[hb hf]) (fun ha=>h)
def CT {x:Src}{fx:Bool}{s:List UInt8}(h:(f=true->draw=false->s.length<=9223372036854775807)->ay Y draw r env (⟨f,.int .i64 s.length⟩::rs) nx m K)(hg:GF rs g f:=by exact cA)(hx:bO env rs x=⟨fx,.str s⟩:=by exact rfl)(kx:f=true->fx=true:=by exact bn):ay Y draw (⟨.lenS x,g⟩::r) env rs nx m K:=
 br rfl hg _ (fun hf=>oo) (fun hf=>pd) (fun ha=>h (fun hf hd=>Qa))
def Hs {x:Src}{fx:Bool}{α:Type}{k:Nat}{q:α->D}{xs:List α}(h:(f=true->draw=false->xs.length<=9223372036854775807)->ay Y draw r env (⟨f,.int .i64 xs.length⟩::rs) nx m K)(hg:GF rs g f:=by exact cA)(hx:bO env rs x=⟨fx,.sl k (xs.map q)⟩:=by exact rfl)(kx:f=true->fx=true:=by exact bn):ay Y draw (⟨.len x,g⟩::r) env rs nx m K:=
 br rfl hg _ (fun hf=>oo) (fun hf=>pd) (fun ha=>h (fun hf hd=>Qa))
def ON {x:Src}{fx:Bool}{l k i n:Nat}(h:(f=true->draw=false->n<=9223372036854775807)->ay Y draw r env (⟨f,.int .i64 n⟩::rs) nx m K)(hg:GF rs g f:=by exact cA)(hx:bO env rs x=⟨fx,.own l k i n⟩:=by exact rfl)(kx:f=true->fx=true:=by exact bn):ay Y draw (⟨.len x,g⟩::r) env rs nx m K:=
 br rfl hg _ (fun hf=>oo) (fun hf=>pd) (fun ha=>h (fun hf hd=>Qa))
def ajO {x:Src}{fx:Bool}(h:ay Y draw r env (⟨f,.int .i64 0⟩::rs) nx m K)(hg:GF rs g f:=by exact cA)(hx:bO env rs x=⟨fx,.aK⟩:=by exact rfl)(kx:f=true->fx=true:=by exact bn):ay Y draw (⟨.len x,g⟩::r) env rs nx m K:=
 br rfl hg _ (fun hf=>oo) (fun hf=>pd) (fun ha=>h)
def ajS {x:Src}{fx:Bool}{l k i o:Nat}(h:ay Y draw r env (⟨f,.ptr l k i o⟩::rs) nx m K)(hg:GF rs g f:=by exact cA)(hx:bO env rs x=⟨fx,.ptr l k i o⟩:=by exact rfl)(kx:f=true->fx=true:=by exact bn):ay Y draw (⟨.nilck x,g⟩::r) env rs nx m K:=
 br rfl hg _ (fun hf=>oo) (fun hf=>pd) (fun ha=>h)
def ajT {x:Src}{fx:Bool}{k i o:Nat}{es:List D}(h:ay Y draw r env (⟨f,.ref k es i o⟩::rs) nx m K)(hg:GF rs g f:=by exact cA)(hx:bO env rs x=⟨fx,.ref k es i o⟩:=by exact rfl)(kx:f=true->fx=true:=by exact bn):ay Y draw (⟨.nilck x,g⟩::r) env rs nx m K:=
 br rfl hg _ (fun hf=>oo) (fun hf=>pd) (fun ha=>h)
def Ry {x:Src}{fx:Bool}{off l k i o:Nat}(h:ay Y draw r env (⟨f,.ptr l k i (o+off)⟩::rs) nx m K)(hg:GF rs g f:=by exact cA)(hx:bO env rs x=⟨fx,.ptr l k i o⟩:=by exact rfl)(kx:f=true->fx=true:=by exact bn):ay Y draw (⟨.fa off x,g⟩::r) env rs nx m K:=
 br rfl hg _ (fun hf=>oo) (fun hf=>pd) (fun ha=>h)
def zM {x:Src}{fx:Bool}{off k i o:Nat}{es:List D}(h:ay Y draw r env (⟨f,.ref k es i (o+off)⟩::rs) nx m K)(hg:GF rs g f:=by exact cA)(hx:bO env rs x=⟨fx,.ref k es i o⟩:=by exact rfl)(kx:f=true->fx=true:=by exact bn):ay Y draw (⟨.fa off x,g⟩::r) env rs nx m K:=
 br rfl hg _ (fun hf=>oo) (fun hf=>pd) (fun ha=>h)
def cF {x y:Src}{fx fy:Bool}{α:Type}{k:Nat}{q:α->D}{xs:List α}{i:Int}{kk:IntKind}(j:Nat)(h:ay Y draw r env (⟨f,.ref k (xs.map q) j 0⟩::rs) nx m K)(hg:GF rs g f:=by exact cA)(hx:bO env rs x=⟨fx,.sl k (xs.map q)⟩:=by exact rfl)(hy:bO env rs y=⟨fy,.int kk i⟩:=by exact rfl)(kx:f=true->fx=true:=by exact bn)(ky:f=true->fy=true:=by exact bn)(hj:f=true->i=(j:Int):=by exact sB)(hb:f=true->j<xs.length:=by exact rr):ay Y draw (⟨.ia k x y,g⟩::r) env rs nx m K:=
 br rfl hg _ (fun hf=>by simp only[ax.ey,hx,hy,bg];exact⟨kx hf,ky hf,trivial,JZ,P5⟩) (fun hf=>Ka) (fun ha=>h)
def FA {x y:Src}{fx fy:Bool}{l k i0 n:Nat}{i:Int}{kk:IntKind}(j:Nat)(h:ay Y draw r env (⟨f,.ptr l k (i0+j) 0⟩::rs) nx m K)(hg:GF rs g f:=by exact cA)(hx:bO env rs x=⟨fx,.own l k i0 n⟩:=by exact rfl)(hy:bO env rs y=⟨fy,.int kk i⟩:=by exact rfl)(kx:f=true->fx=true:=by exact bn)(ky:f=true->fy=true:=by exact bn)(hj:f=true->i=(j:Int):=by exact sB)(hb:f=true->j<n:=by exact rr):ay Y draw (⟨.ia k x y,g⟩::r) env rs nx m K:=
 br rfl hg _ (fun hf=>by simp only[ax.ey,hx,hy];exact⟨kx hf,ky hf,trivial,JZ,P5⟩) (fun hf=>Ka) (fun ha=>h)
def OL {x y:Src}{fx fy:Bool}{l k k2 n i0 o:Nat}{i:Int}{kk:IntKind}(j:Nat)(h:ay Y draw r env (⟨f,.ptr l k2 i0 (o+j*k)⟩::rs) nx m K)(hg:GF rs g f:=by exact cA)(hx:bO env rs x=⟨fx,.ptr l k2 i0 o⟩:=by exact rfl)(hy:bO env rs y=⟨fy,.int kk i⟩:=by exact rfl)(kx:f=true->fx=true:=by exact bn)(ky:f=true->fy=true:=by exact bn)(hj:f=true->i=(j:Int):=by exact sB)(hb:f=true->j<n:=by exact rr):ay Y draw (⟨.iaP n k x y,g⟩::r) env rs nx m K:=
 br rfl hg _ (fun hf=>aad) (fun hf=>Ka) (fun ha=>h)
def zN {x y:Src}{fx fy:Bool}{s:List UInt8}{i:Int}{kk:IntKind}(j:Nat)(h:ay Y draw r env (⟨f,.int .u8 (at8 s j)⟩::rs) nx m K)(hg:GF rs g f:=by exact cA)(hx:bO env rs x=⟨fx,.str s⟩:=by exact rfl)(hy:bO env rs y=⟨fy,.int kk i⟩:=by exact rfl)(kx:f=true->fx=true:=by exact bn)(ky:f=true->fy=true:=by exact bn)(hj:f=true->i=(j:Int):=by exact sB)(hb:f=true->j<s.length:=by exact rr):ay Y draw (⟨.ixS x y,g⟩::r) env rs nx m K:=
 br rfl hg _ (fun hf=>aad) (fun hf=>Ka) (fun ha=>h)
def r_ixA {x y:Src}{fx fy:Bool}{n k:Nat}{ag:Bool}{cs:List D}{i:Int}{kk:IntKind}(j:Nat)(v:D)(h:ay Y draw r env (⟨f,v⟩::rs) nx m K)(hg:GF rs g f:=by exact cA)(hx:bO env rs x=⟨fx,.agg cs⟩:=by exact rfl)(hy:bO env rs y=⟨fy,.int kk i⟩:=by exact rfl)(kx:f=true->fx=true:=by exact bn)(ky:f=true->fy=true:=by exact bn)(hj:f=true->i=(j:Int):=by exact sB)(hb:f=true->j<n:=by exact rr)(hl:cs.length=n*k:=by exact rfl)(h1:ag=false->k=1:=by intro h;first|exact rfl|cases h)(hv:f=true->cut cs (j*k) k ag=v):ay Y draw (⟨.ixA n k ag x y,g⟩::r) env rs nx m K:=
 br rfl hg _ (fun hf=>by simp only[ax.ey,hx,hy];exact⟨kx hf,ky hf,h1,JZ,P5,hl⟩) (fun hf=>by simp only[ax.val,hx,hy];rw[<-hv hf,hj hf];rfl) (fun ha=>h)
def ajI {x y:Src}{fx fy:Bool}{α:Type}{k:Nat}{q:α->D}{xs:List α}{i:Int}{kk:IntKind}(h:ay Y draw r env (⟨f,.ref k (xs.map q) i.toNat 0⟩::rs) nx m K)(hg:GF rs g f:=by exact cA)(hx:bO env rs x=⟨fx,.sl k (xs.map q)⟩:=by exact rfl)(hy:bO env rs y=⟨fy,.int kk i⟩:=by exact rfl)(kx:f=true->fx=true:=by exact bn)(ky:f=true->fy=true:=by exact bn)(hb:f=true->0<=i/\i<(xs.length:Nat):=by exact Ig):ay Y draw (⟨.ia k x y,g⟩::r) env rs nx m K:=
 br rfl hg _ (fun hf=>by simp only[ax.ey,hx,hy,bg];exact⟨kx hf,ky hf,trivial,(hb hf).1,(hb hf).2⟩) (fun hf=>by simp only[ax.val,hx,hy]<;>rfl) (fun ha=>h)
def ajJ {x y:Src}{fx fy:Bool}{l k i0 n:Nat}{i:Int}{kk:IntKind}(h:ay Y draw r env (⟨f,.ptr l k (i0+i.toNat) 0⟩::rs) nx m K)(hg:GF rs g f:=by exact cA)(hx:bO env rs x=⟨fx,.own l k i0 n⟩:=by exact rfl)(hy:bO env rs y=⟨fy,.int kk i⟩:=by exact rfl)(kx:f=true->fx=true:=by exact bn)(ky:f=true->fy=true:=by exact bn)(hb:f=true->0<=i/\i<(n:Nat):=by exact Ig):ay Y draw (⟨.ia k x y,g⟩::r) env rs nx m K:=
 br rfl hg _ (fun hf=>by simp only[ax.ey,hx,hy,bg];exact⟨kx hf,ky hf,trivial,(hb hf).1,(hb hf).2⟩) (fun hf=>by simp only[ax.val,hx,hy]<;>rfl) (fun ha=>h)
def Yw {x y:Src}{fx fy:Bool}{s:List UInt8}{i:Int}{kk:IntKind}(h:ay Y draw r env (⟨f,.int .u8 (at8 s i.toNat)⟩::rs) nx m K)(hg:GF rs g f:=by exact cA)(hx:bO env rs x=⟨fx,.str s⟩:=by exact rfl)(hy:bO env rs y=⟨fy,.int kk i⟩:=by exact rfl)(kx:f=true->fx=true:=by exact bn)(ky:f=true->fy=true:=by exact bn)(hb:f=true->0<=i/\i<(s.length:Nat):=by exact Ig):ay Y draw (⟨.ixS x y,g⟩::r) env rs nx m K:=
 br rfl hg _ (fun hf=>by simp only[ax.ey,hx,hy,bg];exact⟨kx hf,ky hf,(hb hf).1,(hb hf).2⟩) (fun hf=>by simp only[ax.val,hx,hy]<;>rfl) (fun ha=>h)
def YH {x y:Src}{fx fy:Bool}{s:List UInt8}{k2:IntKind}{a:Int}(i:Nat)(h:ay Y draw r env (⟨f,.str (s.drop i)⟩::rs) nx m K)(hg:GF rs g f:=by exact cA)(hx:bO env rs x=⟨fx,.str s⟩:=by exact rfl)(hy:bO env rs y=⟨fy,.int k2 a⟩:=by exact rfl)(kx:f=true->fx=true:=by exact bn)(ky:f=true->fy=true:=by exact bn)(hi:f=true->a=(i:Int):=by exact sB)(hb:f=true->i<=s.length:=by exact rr):ay Y draw (⟨.slS x (some y) none,g⟩::r) env rs nx m K:=
 br rfl hg _ (fun hf=>by simp only[ax.ey,LA,dO,hx,hy];have:=hb hf;have:=hi hf;refine⟨kx hf,ky hf,trivial, ?_⟩;simp only[m6,dU,ee,dx,Int.ofNat_eq_natCast];omega) (fun hf=>by simp only[ax.val,dO,dU,hx,hy];rw[hi hf];simp) (fun ha=>h)
def YC {x y:Src}{fx fy:Bool}{α:Type}{k:Nat}{q:α->D}{s:List α}{k2:IntKind}{a:Int}(i:Nat)(h:ay Y draw r env (⟨f,.sl k ((s.drop i).map q)⟩::rs) nx m K)(hg:GF rs g f:=by exact cA)(hx:bO env rs x=⟨fx,.sl k (s.map q)⟩:=by exact rfl)(hy:bO env rs y=⟨fy,.int k2 a⟩:=by exact rfl)(kx:f=true->fx=true:=by exact bn)(ky:f=true->fy=true:=by exact bn)(hi:f=true->a=(i:Int):=by exact sB)(hb:f=true->i<=s.length:=by exact rr):ay Y draw (⟨.slA k x (some y) none,g⟩::r) env rs nx m K:=
 br rfl hg _ (fun hf=>by simp only[ax.ey,LA,dO,hx,hy,bg];have:=hb hf;have:=hi hf;refine⟨kx hf,ky hf,trivial,trivial, ?_⟩;simp only[m6,dU,ee,dx,Int.ofNat_eq_natCast];omega) (fun hf=>by simp only[ax.val,dO,dU,hx,hy];rw[hi hf];first|(simp only[List.take_length,Int.toNat_natCast,List.map_drop];done)|simp[List.map_drop,List.map_take]) (fun ha=>h)
def LX {x y:Src}{fx fy:Bool}{l k i0 n:Nat}{k2:IntKind}{a:Int}(i:Nat)(h:ay Y draw r env (⟨f,.own l k (i0+i) (n-i)⟩::rs) nx m K)(hg:GF rs g f:=by exact cA)(hx:bO env rs x=⟨fx,.own l k i0 n⟩:=by exact rfl)(hy:bO env rs y=⟨fy,.int k2 a⟩:=by exact rfl)(kx:f=true->fx=true:=by exact bn)(ky:f=true->fy=true:=by exact bn)(hi:f=true->a=(i:Int):=by exact sB)(hb:f=true->i<=n:=by exact rr):ay Y draw (⟨.slA k x (some y) none,g⟩::r) env rs nx m K:=
 br rfl hg _ (fun hf=>by simp only[ax.ey,LA,dO,hx,hy];have:=hb hf;have:=hi hf;refine⟨kx hf,ky hf,trivial,trivial, ?_⟩;simp only[m6,dU,ee,dx,Int.ofNat_eq_natCast];omega) (fun hf=>by simp only[ax.val,dO,dU,hx,hy];rw[hi hf];simp) (fun ha=>h)
def YF {x z:Src}{fx fz:Bool}{s:List UInt8}{k3:IntKind}{c:Int}(j:Nat)(h:ay Y draw r env (⟨f,.str (s.take j)⟩::rs) nx m K)(hg:GF rs g f:=by exact cA)(hx:bO env rs x=⟨fx,.str s⟩:=by exact rfl)(hz:bO env rs z=⟨fz,.int k3 c⟩:=by exact rfl)(kx:f=true->fx=true:=by exact bn)(kz:f=true->fz=true:=by exact bn)(hj:f=true->c=(j:Int):=by exact sB)(hb:f=true->j<=s.length:=by exact rr):ay Y draw (⟨.slS x none (some z),g⟩::r) env rs nx m K:=
 br rfl hg _ (fun hf=>by simp only[ax.ey,LA,dO,hx,hz];have:=hb hf;have:=hj hf;refine⟨kx hf,trivial,kz hf, ?_⟩;simp only[m6,dU,ee,dx,Int.ofNat_eq_natCast];omega) (fun hf=>by simp only[ax.val,dO,dU,hx,hz];rw[hj hf];simp) (fun ha=>h)
def YA {x z:Src}{fx fz:Bool}{α:Type}{k:Nat}{q:α->D}{s:List α}{k3:IntKind}{c:Int}(j:Nat)(h:ay Y draw r env (⟨f,.sl k ((s.take j).map q)⟩::rs) nx m K)(hg:GF rs g f:=by exact cA)(hx:bO env rs x=⟨fx,.sl k (s.map q)⟩:=by exact rfl)(hz:bO env rs z=⟨fz,.int k3 c⟩:=by exact rfl)(kx:f=true->fx=true:=by exact bn)(kz:f=true->fz=true:=by exact bn)(hj:f=true->c=(j:Int):=by exact sB)(hb:f=true->j<=s.length:=by exact rr):ay Y draw (⟨.slA k x none (some z),g⟩::r) env rs nx m K:=
 br rfl hg _ (fun hf=>by simp only[ax.ey,LA,dO,hx,hz,bg];have:=hb hf;have:=hj hf;refine⟨kx hf,trivial,kz hf,trivial, ?_⟩;simp only[m6,dU,ee,dx,Int.ofNat_eq_natCast];omega) (fun hf=>by simp only[ax.val,dO,dU,hx,hz];rw[hj hf];first|(simp only[List.take_length,Int.toNat_natCast,List.map_drop];done)|simp[List.map_drop,List.map_take]) (fun ha=>h)
def YD {x z:Src}{fx fz:Bool}{l k i0 n:Nat}{k3:IntKind}{c:Int}(j:Nat)(h:ay Y draw r env (⟨f,.own l k i0 j⟩::rs) nx m K)(hg:GF rs g f:=by exact cA)(hx:bO env rs x=⟨fx,.own l k i0 n⟩:=by exact rfl)(hz:bO env rs z=⟨fz,.int k3 c⟩:=by exact rfl)(kx:f=true->fx=true:=by exact bn)(kz:f=true->fz=true:=by exact bn)(hj:f=true->c=(j:Int):=by exact sB)(hb:f=true->j<=n:=by exact rr):ay Y draw (⟨.slA k x none (some z),g⟩::r) env rs nx m K:=
 br rfl hg _ (fun hf=>by simp only[ax.ey,LA,dO,hx,hz];have:=hb hf;have:=hj hf;refine⟨kx hf,trivial,kz hf,trivial, ?_⟩;simp only[m6,dU,ee,dx,Int.ofNat_eq_natCast];omega) (fun hf=>by simp only[ax.val,dO,dU,hx,hz];rw[hj hf];simp) (fun ha=>h)
def YG {x y z:Src}{fx fy fz:Bool}{s:List UInt8}{k2:IntKind}{a:Int}(i:Nat){k3:IntKind}{c:Int}(j:Nat)(h:ay Y draw r env (⟨f,.str ((s.take j).drop i)⟩::rs) nx m K)(hg:GF rs g f:=by exact cA)(hx:bO env rs x=⟨fx,.str s⟩:=by exact rfl)(hy:bO env rs y=⟨fy,.int k2 a⟩:=by exact rfl)(hz:bO env rs z=⟨fz,.int k3 c⟩:=by exact rfl)(kx:f=true->fx=true:=by exact bn)(ky:f=true->fy=true:=by exact bn)(kz:f=true->fz=true:=by exact bn)(hi:f=true->a=(i:Int):=by exact sB)(hj:f=true->c=(j:Int):=by exact sB)(hb:f=true->i<=j/\j<=s.length:=by exact Ig):ay Y draw (⟨.slS x (some y) (some z),g⟩::r) env rs nx m K:=
 br rfl hg _ (fun hf=>by simp only[ax.ey,LA,dO,hx,hy,hz];have:=hb hf;have:=hi hf;have:=hj hf;refine⟨kx hf,ky hf,kz hf, ?_⟩;simp only[m6,dU,ee,dx,Int.ofNat_eq_natCast];omega) (fun hf=>by simp only[ax.val,dO,dU,hx,hy,hz];rw[hi hf,hj hf];simp) (fun ha=>h)
def YB {x y z:Src}{fx fy fz:Bool}{α:Type}{k:Nat}{q:α->D}{s:List α}{k2:IntKind}{a:Int}(i:Nat){k3:IntKind}{c:Int}(j:Nat)(h:ay Y draw r env (⟨f,.sl k (((s.take j).drop i).map q)⟩::rs) nx m K)(hg:GF rs g f:=by exact cA)(hx:bO env rs x=⟨fx,.sl k (s.map q)⟩:=by exact rfl)(hy:bO env rs y=⟨fy,.int k2 a⟩:=by exact rfl)(hz:bO env rs z=⟨fz,.int k3 c⟩:=by exact rfl)(kx:f=true->fx=true:=by exact bn)(ky:f=true->fy=true:=by exact bn)(kz:f=true->fz=true:=by exact bn)(hi:f=true->a=(i:Int):=by exact sB)(hj:f=true->c=(j:Int):=by exact sB)(hb:f=true->i<=j/\j<=s.length:=by exact Ig):ay Y draw (⟨.slA k x (some y) (some z),g⟩::r) env rs nx m K:=
 br rfl hg _ (fun hf=>by simp only[ax.ey,LA,dO,hx,hy,hz,bg];have:=hb hf;have:=hi hf;have:=hj hf;refine⟨kx hf,ky hf,kz hf,trivial, ?_⟩;simp only[m6,dU,ee,dx,Int.ofNat_eq_natCast];omega) (fun hf=>by simp only[ax.val,dO,dU,hx,hy,hz];rw[hi hf,hj hf];first|(simp only[List.take_length,Int.toNat_natCast,List.map_drop];done)|simp[List.map_drop,List.map_take]) (fun ha=>h)
def YE {x y z:Src}{fx fy fz:Bool}{l k i0 n:Nat}{k2:IntKind}{a:Int}(i:Nat){k3:IntKind}{c:Int}(j:Nat)(h:ay Y draw r env (⟨f,.own l k (i0+i) (j-i)⟩::rs) nx m K)(hg:GF rs g f:=by exact cA)(hx:bO env rs x=⟨fx,.own l k i0 n⟩:=by exact rfl)(hy:bO env rs y=⟨fy,.int k2 a⟩:=by exact rfl)(hz:bO env rs z=⟨fz,.int k3 c⟩:=by exact rfl)(kx:f=true->fx=true:=by exact bn)(ky:f=true->fy=true:=by exact bn)(kz:f=true->fz=true:=by exact bn)(hi:f=true->a=(i:Int):=by exact sB)(hj:f=true->c=(j:Int):=by exact sB)(hb:f=true->i<=j/\j<=n:=by exact Ig):ay Y draw (⟨.slA k x (some y) (some z),g⟩::r) env rs nx m K:=
 br rfl hg _ (fun hf=>by simp only[ax.ey,LA,dO,hx,hy,hz];have:=hb hf;have:=hi hf;have:=hj hf;refine⟨kx hf,ky hf,kz hf,trivial, ?_⟩;simp only[m6,dU,ee,dx,Int.ofNat_eq_natCast];omega) (fun hf=>by simp only[ax.val,dO,dU,hx,hy,hz];rw[hi hf,hj hf];simp) (fun ha=>h)
def kL {x:Src}{fx:Bool}{i:Nat}{ds:List D}(v:D)(h:ay Y draw r env (⟨f,v⟩::rs) nx m K)(hg:GF rs g f:=by exact cA)(hx:bO env rs x=⟨fx,.tup ds⟩:=by exact rfl)(kx:f=true->fx=true:=by exact bn)(hv:f=true->ds.getD i .any=v:=by exact fun _=>rfl)(hb:f=true->i<ds.length:=by intro _;simp only[bD,b9];omega):ay Y draw (⟨.ext x i,g⟩::r) env rs nx m K:=
 br rfl hg _ (fun hf=>by simp only[ax.ey,hx];exact⟨kx hf,hb hf⟩) (fun hf=>by simp only[ax.val,hx];exact hv hf) (fun ha=>h)
def bP {z:List D}{ps:List (Nat×Nat×Src)}(v:List D)(h:ay Y draw r env (⟨f,.agg v⟩::rs) nx m K)(hg:GF rs g f:=by exact cA)(hv:f=true->BT (bO env rs) z ps=v:=by exact fun _=>rfl)(ho:f=true->zu (bO env rs) z.length ps:=by exact uo):ay Y draw (⟨.build z ps,g⟩::r) env rs nx m K:=
 br rfl hg _ (fun hf=>ho hf) (fun hf=>by simp only[ax.val];rw[hv hf]) (fun _=>h)
def a8 {z:List D}{ps:List (Nat×Nat×Src)}(d:D)(h:ay Y draw r env (⟨f,d⟩::rs) nx m K)(hg:GF rs g f:=by exact cA)(hv:f=true->D.agg (BT (bO env rs) z ps)=d:=by exact fun _=>rfl)(ho:f=true->zu (bO env rs) z.length ps:=by exact uo):ay Y draw (⟨.build z ps,g⟩::r) env rs nx m K:=
 br rfl hg _ (fun hf=>ho hf) (fun hf=>by simp only[ax.val];exact hv hf) (fun _=>h)
def aiy {e:D}{n o:Nat}{ag:Bool}(h:e.isAgg=ag):kU e n n o ag=e:=by simp[kU,h]
def mf {x:Src}{fx:Bool}{n l:Nat}{ag:Bool}{d:D}(h:ay Y draw r env (⟨f,d⟩::rs) nx m K)(hg:GF rs g f:=by exact cA)(hx:bO env rs x=⟨fx,.ptr l n 0 0⟩:=by exact rfl)(kx:f=true->fx=true:=by exact bn)(hl:f=true->look m l=some (.buf n [d]):=by exact fun _=>rfl)(ha:f=true->d.isAgg=ag:=by exact fun _=>rfl):ay Y draw (⟨.ld n ag x,g⟩::r) env rs nx m K:=
 fT rfl hg _ (fun hf=>by simp only[ax.ey,hx,Lg,dT,hl hf];exact⟨kx hf,⟨trivial,aF⟩,ae⟩) (fun hf=>by simp only[ax.val,hx,Lh,aH,hl hf,iL];exact aiy (ha hf)) m rfl (fun ha=>h)
def pK {x:Src}{fx:Bool}{n l k o:Nat}{ag:Bool}{d:D}(v:D)(h:ay Y draw r env (⟨f,v⟩::rs) nx m K)(hg:GF rs g f:=by exact cA)(hx:bO env rs x=⟨fx,.ptr l k 0 o⟩:=by exact rfl)(kx:f=true->fx=true:=by exact bn)(hl:f=true->look m l=some (.buf k [d]):=by exact fun _=>rfl)(hv:f=true->kU d k n o ag=v:=by exact fun _=>rfl)(ho:o+n<=k:=by omega):ay Y draw (⟨.ld n ag x,g⟩::r) env rs nx m K:=
 fT rfl hg _ (fun hf=>by simp only[ax.ey,hx,Lg,dT,hl hf];exact⟨kx hf,⟨trivial,aF⟩,ho⟩) (fun hf=>P8) m rfl (fun ha=>h)
def xk {x:Src}{fx:Bool}{α:Type} [Inhabited α]{n l k i o:Nat}{ag:Bool}{q:α->D}{xs:List α}(v:D)(h:ay Y draw r env (⟨f,v⟩::rs) nx m K)(hg:GF rs g f:=by exact cA)(hx:bO env rs x=⟨fx,.ptr l k i o⟩:=by exact rfl)(kx:f=true->fx=true:=by exact bn)(hl:f=true->look m l=some (.buf k (xs.map q)):=by exact fun _=>rfl)(hi:f=true->i<xs.length:=by exact rr)(hv:f=true->kU (q xs[i]!) k n o ag=v:=by exact fun _=>rfl)(ho:o+n<=k:=by omega):ay Y draw (⟨.ld n ag x,g⟩::r) env rs nx m K:=
 fT rfl hg _ (fun hf=>by simp only[ax.ey,hx,Lg,dT,hl hf,bg];exact⟨kx hf,⟨trivial,by have:=hi hf;omega⟩,ho⟩) (fun hf=>by simp only[ax.val,hx,Lh,aH,hl hf];rw[getD_map (hi hf)];exact hv hf) m rfl (fun ha=>h)
def c7 {x:Src}{fx:Bool}{α:Type} [Inhabited α]{n k i o:Nat}{ag:Bool}{q:α->D}{xs:List α}(v:D)(h:ay Y draw r env (⟨f,v⟩::rs) nx m K)(hg:GF rs g f:=by exact cA)(hx:bO env rs x=⟨fx,.ref k (xs.map q) i o⟩:=by exact rfl)(kx:f=true->fx=true:=by exact bn)(hi:f=true->i<xs.length:=by exact rr)(hv:f=true->kU (q xs[i]!) k n o ag=v:=by exact fun _=>rfl)(ho:o+n<=k:=by omega):ay Y draw (⟨.ld n ag x,g⟩::r) env rs nx m K:=
 fT rfl hg _ (fun hf=>aap) (fun hf=>aal) m rfl (fun ha=>h)
def r_ldQ {x:Src}{fx:Bool}{n k i o:Nat}{ag:Bool}{es:List D}(v:D)(h:ay Y draw r env (⟨f,v⟩::rs) nx m K)(hg:GF rs g f:=by exact cA)(hx:bO env rs x=⟨fx,.ref k es i o⟩:=by exact rfl)(kx:f=true->fx=true:=by exact bn)(hi:f=true->i<es.length:=by intro _;simp only[bD,b9];omega)(hv:f=true->kU (es.getD i .any) k n o ag=v:=by exact fun _=>rfl)(ho:o+n<=k:=by omega):ay Y draw (⟨.ld n ag x,g⟩::r) env rs nx m K:=
 fT rfl hg _ (fun hf=>P3) (fun hf=>JV) m rfl (fun ha=>h)
def Yx {x:Src}{fx:Bool}{n k i o:Nat}{ag:Bool}{es:List D}(v:D)(h:ay Y draw r env (⟨f,v⟩::rs) nx m K)(hg:GF rs g f:=by exact cA)(hx:bO env rs x=⟨fx,.ref k es i o⟩:=by exact rfl)(kx:f=true->fx=true:=by exact bn)(hi:f=true->i<es.length:=by intro _;simp only[bD,b9];omega)(hv:f=true->kU (es.getD i .any) k n o ag=v:=by exact fun _=>rfl)(ho:o+n<=k:=by omega):ay Y draw (⟨.ldI n ag x,g⟩::r) env rs nx m K:=
 br rfl hg _ (fun hf=>P3) (fun hf=>JV) (fun ha=>h)
def xh {x:Src}{fx:Bool}{k:Nat}{d:D}{L:Nat}{m2:List (Nat×bd)}(h:ay Y draw r env (⟨f,.ptr L k 0 0⟩::rs) nx m2 K)(hg:GF rs g f:=by exact cA)(hx:bO env rs x=⟨fx,d⟩:=by exact rfl)(kx:f=true->fx=true:=by exact bn)(hc:d.cells.length=k:=by exact rfl)(hL:nx+rs.length=L:=by exact y3)(hm:cO m L (.buf k [d])=m2:=by simp only[cO,cW,Nat.reduceEqDiff,bh,aZ,Nat.reduceAdd,reduceCtorEq];exact rfl):ay Y draw (⟨.box k x,g⟩::r) env rs nx m K:=
 fT rfl hg _ (fun hf=>by simp only[ax.ey,hx];exact⟨kx hf,hc⟩) (fun hf=>by simp only[ax.val,hx,hL]) _ (by simp only[ax.bL,hx,hL];exact hm) (fun _=>h)
def r_mkB {L:Nat}{m2:List (Nat×bd)}(h:ay Y draw r env (⟨f,.ptr L 2 0 0⟩::rs) nx m2 K)(hg:GF rs g f:=by exact cA)(hL:nx+rs.length=L:=by exact y3)(hm:cO m L (.bld none 0 false)=m2:=by simp only[cO,cW,Nat.reduceEqDiff,bh,aZ,Nat.reduceAdd,reduceCtorEq];exact rfl):ay Y draw (⟨.mkB,g⟩::r) env rs nx m K:=
 fT rfl hg _ (fun _=>trivial) (fun hf=>by simp only[ax.val,hL]) _ (by simp only[ax.bL,hL];exact hm) (fun _=>h)
def r_s2b {x:Src}{fx:Bool}{s:List UInt8}{L:Nat}{m2:List (Nat×bd)}(h:ay Y draw r env (⟨f,.own L 1 0 s.length⟩::rs) nx m2 K)(hg:GF rs g f:=by exact cA)(hx:bO env rs x=⟨fx,.str s⟩:=by exact rfl)(kx:f=true->fx=true:=by exact bn)(hL:nx+rs.length=L:=by exact y3)(hm:cO m L (.buf 1 (s.map fun b=>.int .u8 b.toNat))=m2:=by simp only[cO,cW,Nat.reduceEqDiff,bh,aZ,Nat.reduceAdd,reduceCtorEq];exact rfl):ay Y draw (⟨.s2b x,g⟩::r) env rs nx m K:=
 fT rfl hg _ (fun hf=>by simp only[ax.ey,hx];exact⟨kx hf,trivial⟩) (fun hf=>by simp only[ax.val,hx,hL]) _ (by simp only[ax.bL,hx,hL];exact hm) (fun _=>h)
def r_rng {x:Src}{fx:Bool}{s:List UInt8}{L:Nat}{m2:List (Nat×bd)}(h:ay Y draw r env (⟨f,.it L⟩::rs) nx m2 K)(hg:GF rs g f:=by exact cA)(hx:bO env rs x=⟨fx,.str s⟩:=by exact rfl)(kx:f=true->fx=true:=by exact bn)(hL:nx+rs.length=L:=by exact y3)(hm:cO m L (.iter s 0)=m2:=by simp only[cO,cW,Nat.reduceEqDiff,bh,aZ,Nat.reduceAdd,reduceCtorEq];exact rfl):ay Y draw (⟨.rng x,g⟩::r) env rs nx m K:=
 fT rfl hg _ (fun hf=>by simp only[ax.ey,hx];exact⟨kx hf,trivial⟩) (fun hf=>by simp only[ax.val,hx,hL]) _ (by simp only[ax.bL,hx,hL];exact hm) (fun _=>h)
def bc {k n:Nat}{z:D}{ps:List (Nat×Src)}{L:Nat}{m2:List (Nat×bd)}(es:List D)(h:ay Y draw r env (⟨f,.own L k 0 n⟩::rs) nx m2 K)(hg:GF rs g f:=by exact cA)(he:lU (bO env rs) (List.replicate n z) ps=es:=by exact rfl)(ho:f=true->qi (bO env rs) k n ps:=by exact uo)(hz:z.cells.length=k:=by exact rfl)(hL:nx+rs.length=L:=by exact y3)(hm:cO m L (.buf k es)=m2:=by simp only[cO,cW,Nat.reduceEqDiff,bh,aZ,Nat.reduceAdd,reduceCtorEq];exact rfl):ay Y draw (⟨.bsl k z n ps,g⟩::r) env rs nx m K:=
 fT rfl hg _ (fun hf=>⟨hz,ho hf⟩) (fun hf=>by simp only[ax.val,hL]) _ (by simp only[ax.bL,he,hL];exact hm) (fun _=>h)
def aeX {k:Nat}{z:D}{x y:Src}{k1 k2:IntKind}{a c:Int}{L:Nat}{m2:List (Nat×bd)}(n:Nat)(h:ay Y draw r env (⟨true,.own L k 0 n⟩::rs) nx m2 K)(hx:bO env rs x=⟨true,.int k1 a⟩:=by exact rfl)(hy:bO env rs y=⟨true,.int k2 c⟩:=by exact rfl)(hn:a=(n:Int):=by first|exact rfl|omega)(hc:a<=c/\c<=1073741824:=by constructor<;>omega)(hz:z.cells.length=k:=by exact rfl)(hL:nx+rs.length=L:=by exact y3)(hm:cO m L (.buf k (List.replicate n z))=m2:=by simp only[cO,cW,Nat.reduceEqDiff,bh,aZ,Nat.reduceAdd,reduceCtorEq];exact rfl):ay Y draw (⟨.mks k z x y,none⟩::r) env rs nx m K:=
 oU rfl _ (by simp only[ax.ey,hx,hy];exact⟨trivial,trivial,hz,ae,hc.1,hc.2⟩) (by simp only[ax.val,hx,hL,D.nat,hn];rfl) _ (by simp only[ax.bL,hx,hL,D.nat,hn];exact hm) (fun _=>h)
def cy {n l k o:Nat}{x y:Src}{d v:D}{m2:List (Nat×bd)}(e:D)(h:ay Y draw r env (⟨true,.any⟩::rs) nx m2 K)(hx:bO env rs x=⟨true,.ptr l k 0 o⟩:=by exact rfl)(hy:bO env rs y=⟨true,v⟩:=by exact rfl)(hl:look m l=some (.buf k [d]):=by exact rfl)(hc:v.cells.length=n:=by exact rfl)(he:su d k n o v=e:=by exact rfl)(ho:o+n<=k:=by omega)(hm:cO m l (.buf k [e])=m2:=by simp only[cO,cW,Nat.reduceEqDiff,bh,aZ,Nat.reduceAdd,reduceCtorEq];exact rfl):ay Y draw (⟨.st n x y,none⟩::r) env rs nx m K:=
 oU rfl _ (by simp only[ax.ey,hx,hy,dT,hl];exact⟨trivial,trivial,hc,⟨trivial,aF⟩,ho⟩) rfl _ (by simp only[ax.bL,hx,hy,aH,hl,iL,List.set_cons_zero,he];exact hm) (fun _=>h)
def aeY {n l k o:Nat}{x y:Src}{qs:List Src}{d v:D}{m2:List (Nat×bd)}(e:D)(h:ay Y draw r env (⟨true,.any⟩::rs) nx m2 K)(hx:bO env rs x=⟨true,.ptr l k 0 o⟩:=by exact rfl)(hy:bO env rs y=⟨true,v⟩:=by exact rfl)(hl:look m l=some (.buf k [d]):=by exact rfl)(hc:v.cells.length=n:=by exact rfl)(he:su d k n o v=e:=by exact rfl)(ho:o+n<=k:=by omega)(hw:k<=4:=by omega)(hm:cO m l (.buf k [e])=m2:=by simp only[cO,cW,Nat.reduceEqDiff,bh,aZ,Nat.reduceAdd,reduceCtorEq];exact rfl):ay Y draw (⟨.stU n x y qs,none⟩::r) env rs nx m K:=
 oU rfl _ (by simp only[ax.ey,hx,hy,dT,hl];exact⟨trivial,trivial,hc,⟨trivial,aF⟩,ho,.inl hw⟩) rfl _ (by simp only[ax.bL,hx,hy,aH,hl,iL,List.set_cons_zero,he];exact hm) (fun _=>h)
def sa {n l k i o:Nat}{x y:Src}{v:D}{es:List D}{m2:List (Nat×bd)}(es2:List D)(h:ay Y draw r env (⟨true,.any⟩::rs) nx m2 K)(hx:bO env rs x=⟨true,.ptr l k i o⟩:=by exact rfl)(hy:bO env rs y=⟨true,v⟩:=by exact rfl)(hl:look m l=some (.buf k es):=by exact rfl)(hi:i<es.length)(hc:v.cells.length=n:=by exact rfl)(he:es.set i (su (es.getD i .any) k n o v)=es2)(ho:o+n<=k:=by omega)(hm:cO m l (.buf k es2)=m2:=by simp only[cO,cW,Nat.reduceEqDiff,bh,aZ,Nat.reduceAdd,reduceCtorEq];exact rfl):ay Y draw (⟨.st n x y,none⟩::r) env rs nx m K:=
 oU rfl _ (by simp only[ax.ey,hx,hy,dT,hl];exact⟨trivial,trivial,hc,⟨trivial,ae⟩,ho⟩) rfl _ (by simp only[ax.bL,hx,hy,aH,hl,he];exact hm) (fun _=>h)
def nF (m:List (Nat×bd))(k:Nat)(d:D)(ys:List D):Prop:=BN m k d/\p8 m d=ys
def nF.sl {k:Nat}{es:List D}:nF m k (.sl k es) es:=⟨rfl,rfl⟩
def nF.aK {k:Nat}:nF m k .aK []:=⟨trivial,rfl⟩
def nF.own {l k i n:Nat}{es:List D}(hl:look m l=some (.buf k es))(hb:i+n<=es.length):nF m k (.own l k i n) ((es.drop i).take n):=⟨⟨rfl,by simp only[dT,hl];exact⟨trivial,hb⟩⟩,by simp only[p8,aH,hl]⟩
def nF.all {l k n:Nat}{es:List D}(hl:look m l=some (.buf k es))(hb:n=es.length):nF m k (.own l k 0 n) es:=by
 have:=nF.own (i:=0) (n:=n) hl ae;simpa[hb]using this
def nF.str {s:List UInt8}:nF m 1 (.str s) (s.map fun b=>.int .u8 b.toNat):=⟨rfl,rfl⟩
def yM {k n:Nat}{x y:Src}{d:D}{ys:List D}{L:Nat}{m2:List (Nat×bd)}(h:ay Y draw r env (⟨true,.own L k 0 n⟩::rs) nx m2 K)(hx:bO env rs x=⟨true,.aK⟩:=by exact rfl)(hy:bO env rs y=⟨true,d⟩:=by exact rfl)(he:nF m k d ys)(hn:ys.length=n)(hb:n<=1073741824:=by omega)(hL:nx+rs.length=L:=by exact y3)(hm:cO m L (.buf k ys)=m2:=by simp only[cO,cW,Nat.reduceEqDiff,bh,aZ,Nat.reduceAdd,reduceCtorEq];exact rfl):ay Y draw (⟨.app k x y,none⟩::r) env rs nx m K:=
 oU rfl _ (by simp only[ax.ey,hx,hy,he.2,hn];exact⟨trivial,trivial,he.1,hb⟩) (by simp only[ax.val,hx,hy,he.2,hn,hL]) _ (by simp only[ax.bL,hx,hy,he.2,hL];exact hm) (fun _=>h)
def Bl {k n:Nat}{y:Src}{fy:Bool}{d:D}{ys:List D}{L:Nat}{m2:List (Nat×bd)}(h:ay Y draw r env (⟨f,.own L k 0 n⟩::rs) nx m2 K)(hg:GF rs g f:=by exact cA)(hy:bO env rs y=⟨fy,d⟩:=by exact rfl)(ky:f=true->fy=true:=by exact bn)(he:nF m k d ys)(hn:ys.length=n)(hb:n<=1073741824:=by omega)(hL:nx+rs.length=L:=by exact y3)(hm:cO m L (.buf k ys)=m2:=by simp only[cO,cW,Nat.reduceEqDiff,bh,aZ,Nat.reduceAdd,reduceCtorEq];exact rfl):ay Y draw (⟨.appN k y,g⟩::r) env rs nx m K:=
 fT rfl hg _ (fun hf=>by simp only[ax.ey,hy,he.2,hn];exact⟨ky hf,he.1,hb⟩) (fun hf=>by simp only[ax.val,hy,he.2,hn,hL]) _ (by simp only[ax.bL,hy,he.2,hL];exact hm) (fun _=>h)
def xg {k l i a n:Nat}{x y:Src}{d:D}{xs ys:List D}{L:Nat}{m2:List (Nat×bd)}(zs:List D)(h:ay Y draw r env (⟨true,.own L k 0 n⟩::rs) nx m2 K)(hx:bO env rs x=⟨true,.own l k i a⟩:=by exact rfl)(hy:bO env rs y=⟨true,d⟩:=by exact rfl)(hl:look m l=some (.buf k xs):=by exact rfl)(ha:i+a<=xs.length)(he:nF m k d ys)(hz:(xs.drop i).take a++ys=zs)(hn:a+ys.length=n)(hb:n<=1073741824:=by omega)(hL:nx+rs.length=L:=by exact y3)(hm:cO (cW m l) L (.buf k zs)=m2:=by simp only[cO,cW,Nat.reduceEqDiff,bh,aZ,Nat.reduceAdd,reduceCtorEq];exact rfl):ay Y draw (⟨.app k x y,none⟩::r) env rs nx m K:=
 oU rfl _ (by simp only[ax.ey,hx,hy,he.2,dT,hl,hn];exact⟨trivial,trivial,he.1,trivial,⟨trivial,ha⟩,hb⟩) (by simp only[ax.val,hx,hy,he.2,hn,hL]) _ (by simp only[ax.bL,hx,hy,he.2,aH,hl,hz,hL];exact hm) (fun _=>h)
def cI {α:Type}{q:α->D}{xs:List α}{e:α}{k l ly:Nat}{x y:Src}{L:Nat}{m2:List (Nat×bd)}(h:ay Y draw r env (⟨true,.own L k 0 (xs++[e]).length⟩::rs) nx m2 K)(hx:bO env rs x=⟨true,.own l k 0 xs.length⟩:=by exact rfl)(hy:bO env rs y=⟨true,.own ly k 0 1⟩:=by exact rfl)(hl:look m l=some (.buf k (xs.map q)):=by exact rfl)(he:look m ly=some (.buf k [q e]):=by exact rfl)(hb:xs.length+1<=1073741824:=by omega)(hL:nx+rs.length=L:=by exact y3)(hm:cO (cW m l) L (.buf k ((xs++[e]).map q))=m2:=by simp only[cO,cW,Nat.reduceEqDiff,bh,aZ,Nat.reduceAdd,reduceCtorEq];exact rfl):ay Y draw (⟨.app k x y,none⟩::r) env rs nx m K:=
 xg (zs:=(xs++[e]).map q) (hx:=hx) (hy:=hy) (hl:=hl) (ha:=aF) (he:=nF.all (es:=[q e]) he rfl) (hz:=by rw[dI,gK aF];simp) (hn:=aF) (hb:=fo) (hL:=hL) (hm:=hm) (h:=h)
def oR {α:Type}{q:α->D}{xs ys:List α}{k l:Nat}{x y:Src}{d:D}{L:Nat}{m2:List (Nat×bd)}(h:ay Y draw r env (⟨true,.own L k 0 (xs++ys).length⟩::rs) nx m2 K)(hx:bO env rs x=⟨true,.own l k 0 xs.length⟩:=by exact rfl)(hy:bO env rs y=⟨true,d⟩:=by exact rfl)(hl:look m l=some (.buf k (xs.map q)):=by exact rfl)(he:nF m k d (ys.map q))(hb:xs.length+ys.length<=1073741824:=by omega)(hL:nx+rs.length=L:=by exact y3)(hm:cO (cW m l) L (.buf k ((xs++ys).map q))=m2:=by simp only[cO,cW,Nat.reduceEqDiff,bh,aZ,Nat.reduceAdd,reduceCtorEq];exact rfl):ay Y draw (⟨.app k x y,none⟩::r) env rs nx m K:=
 xg (zs:=(xs++ys).map q) (hx:=hx) (hy:=hy) (hl:=hl) (ha:=aF) (he:=he) (hz:=by rw[dI,gK aF];simp) (hn:=aF) (hb:=fo) (hL:=hL) (hm:=hm) (h:=h)
def Yq {x:Src}{fx:Bool}{d:D}{ys:List D}(s:List UInt8)(h:ay Y draw r env (⟨f,.str s⟩::rs) nx m K)(hg:GF rs g f:=by exact cA)(hx:bO env rs x=⟨fx,d⟩:=by exact rfl)(kx:f=true->fx=true:=by exact bn)(he:f=true->nF m 1 d ys)(hs:f=true->ys=s.map fun b=>.int .u8 b.toNat)(hd:d.aio=false:=by exact rfl):ay Y draw (⟨.b2s x,g⟩::r) env rs nx m K:=
 fT rfl hg _ (fun hf=>by
  simp only[ax.ey,hx,(he hf).2,hs hf];refine⟨kx hf,(by cases d<;>first|trivial|(cases hd)),(he hf).1,fun e hm=>?_⟩;obtain⟨b,_,rfl⟩:=bW.1 hm;have:=b.toNat_lt;exact⟨rfl,ae,ae⟩) (fun hf=>by simp only[ax.val,hx,(he hf).2,hs hf];rw[abe]) m rfl (fun _=>h)
def Hv {x:Src}{l pos:Nat}{s:List UInt8}{m2:List (Nat×bd)}(c w:Nat)(h:ay Y draw r env (⟨true,.tup [.bool true,.int .i64 pos,.int .i32 c]⟩::rs) nx m2 K)(hx:bO env rs x=⟨true,.it l⟩:=by exact rfl)(hl:look m l=some (.iter s pos):=by exact rfl)(hp:pos<s.length)(hc:yi s pos=(c,w))(hm:cO m l (.iter s (pos+w))=m2:=by simp only[cO,cW,Nat.reduceEqDiff,bh,aZ,Nat.reduceAdd,reduceCtorEq];exact rfl):ay Y draw (⟨.aR x,none⟩::r) env rs nx m K:=
 oU rfl _ (by simp only[ax.ey,hx,hl];exact⟨trivial,trivial⟩) (by simp only[ax.val,hx,hl,hc,hp,decide_true,cond_true]) _ (by simp only[ax.bL,hx,hl,hc,hp,decide_true,cond_true];exact hm) (fun _=>h)
def Hu {x:Src}{l pos:Nat}{s:List UInt8}(h:ay Y draw r env (⟨true,.tup [.bool false]⟩::rs) nx m K)(hx:bO env rs x=⟨true,.it l⟩:=by exact rfl)(hl:look m l=some (.iter s pos):=by exact rfl)(hp:¬pos<s.length):ay Y draw (⟨.aR x,none⟩::r) env rs nx m K:=
 oU rfl _ (by simp only[ax.ey,hx,hl];exact⟨trivial,trivial⟩) (by simp only[ax.val,hx,hl,hp,decide_false,cond_false]) _ (by simp only[ax.bL,hx,hl,hp,decide_false,cond_false]) (fun _=>h)
def aE {n:Nat}{args:List Src}{sh:List (List Sh)}{aEc:List D}{v:D}(h:ay Y draw r env (⟨f,v⟩::rs) nx m K)(hg:GF rs g f:=by exact cA)(hc:Y.pre n aEc/\Y.val n aEc=v)(ha:f=true->iY m sh (iG (bO env rs) args)=aEc:=by exact fun _=>rfl)(ho:f=true->Bh (bO env rs) args:=by exact uo)(hp:f=true->iO m sh (iG (bO env rs) args):=by exact uo)(hk:f=true->qd (iG (bO env rs) args) v=true:=by exact fun _=>rfl):ay Y draw (⟨.call n args sh,g⟩::r) env rs nx m K:=
 fT rfl hg _ (fun hf=>by simp only[ax.ey,(dq _ _ _).1,ha hf,hc.2];exact⟨ho hf,(dq _ _ _).2.2 (hp hf),hc.1,hk hf⟩) (fun hf=>by simp only[ax.val,(dq _ _ _).1,ha hf,hc.2]) m rfl (fun _=>h)
def ct {n:Nat}{args:List Src}{sh:List (List Sh)}{aEc:List D}{v:D}(h:ay Y draw r env (⟨f,v⟩::rs) nx m K)(hg:GF rs g f:=by exact cA)(hc:f=true->Y.pre n aEc/\Y.val n aEc=v)(ha:f=true->iY m sh (iG (bO env rs) args)=aEc:=by exact fun _=>rfl)(ho:f=true->Bh (bO env rs) args:=by exact uo)(hp:f=true->iO m sh (iG (bO env rs) args):=by exact uo)(hk:f=true->qd (iG (bO env rs) args) v=true:=by exact fun _=>rfl):ay Y draw (⟨.call n args sh,g⟩::r) env rs nx m K:=
 fT rfl hg _ (fun hf=>by simp only[ax.ey,(dq _ _ _).1,ha hf,(hc hf).2];exact⟨ho hf,(dq _ _ _).2.2 (hp hf),(hc hf).1,hk hf⟩) (fun hf=>by simp only[ax.val,(dq _ _ _).1,ha hf,(hc hf).2]) m rfl (fun _=>h)
def Bm {n:Nat}{x:Src}{fx:Bool}{caps:List D}{args:List Src}{sh:List (List Sh)}{aEc:List D}{v:D}(h:ay Y draw r env (⟨f,v⟩::rs) nx m K)(hg:GF rs g f:=by exact cA)(hx:bO env rs x=⟨fx,.fn n caps⟩:=by exact rfl)(kx:f=true->fx=true:=by exact bn)(hb:n<1000000:=by decide)(hc:f=true->Y.pre n aEc/\Y.val n aEc=v)(ha:f=true->iY m sh (iG (bO env rs) args++caps)=aEc:=by exact fun _=>rfl)(ho:f=true->Bh (bO env rs) args:=by exact uo)(hp:f=true->iO m sh (iG (bO env rs) args++caps):=by exact uo)(hk:f=true->qd (iG (bO env rs) args++caps) v=true:=by exact fun _=>rfl):ay Y draw (⟨.callv x args sh,g⟩::r) env rs nx m K:=
 fT rfl hg _ (fun hf=>by simp only[ax.ey,hx,(dq _ _ _).1,ha hf,(hc hf).2];exact⟨kx hf,ho hf,hb,(dq _ _ _).2.2 (hp hf),(hc hf).1,hk hf⟩) (fun hf=>by simp only[ax.val,hx,(dq _ _ _).1,ha hf,(hc hf).2]) m rfl (fun _=>h)
def Rz {n:Nat}{caps:List Src}(cs:List D)(h:ay Y draw r env (⟨f,.fn n cs⟩::rs) nx m K)(hg:GF rs g f:=by exact cA)(hc:f=true->iG (bO env rs) caps=cs:=by exact fun _=>rfl)(ho:f=true->Bh (bO env rs) caps:=by exact uo):ay Y draw (⟨.mkf n caps,g⟩::r) env rs nx m K:=
 br rfl hg _ (fun hf=>ho hf) (fun hf=>by simp only[ax.val,hc hf]) (fun _=>h)
def c8 {n l k:Nat}{x:Src}{args:List Src}{sh:List (List Sh)}{d v e:D}{aEc:List D}{m2:List (Nat×bd)}(h:ay Y draw r env (⟨true,v⟩::rs) nx m2 K)(hx:bO env rs x=⟨true,.ptr l k 0 0⟩:=by exact rfl)(hl:look m l=some (.buf k [d]):=by exact rfl)(hd:d.aS=true:=by exact rfl)(hc:Y.fp n d aEc/\Y.fv n d aEc=v/\Y.fs n d aEc=e)(ha:iY [] sh (iG (bO env rs) args)=aEc:=by exact rfl)(ho:Bh (bO env rs) args:=by repeat' first|exact trivial|exact rfl|refine And.intro ?_ ?_|decide)(hn:aL (iG (bO env rs) args)=true:=by exact rfl)(hm:cO m l (.buf k [e])=m2:=by simp only[cO,cW,Nat.reduceEqDiff,bh,aZ,Nat.reduceAdd,reduceCtorEq];exact rfl):ay Y draw (⟨.callF n x args sh,none⟩::r) env rs nx m K:=
 oU rfl _ aah (by simp only[ax.val,hx,aH,hl,iL,(dq _ _ _).1,ha,hc.2.1]) _ (by simp only[ax.bL,hx,aH,hl,iL,(dq _ _ _).1,ha,hc.2.2];exact hm) (fun _=>h)
end
end
end Go.Abs
section
namespace Go.Abs
abbrev av:=List UInt8
structure bX where
 major:Int
 minor:Int
 patch:Int
 pre:av
 build:av
 deriving Inhabited,DecidableEq
def bX.D (v:bX):D:=.agg [.int .i64 v.major,.int .i64 v.minor,.int .i64 v.patch,.str v.pre,.str v.build]
structure eg where
 name:av
 v:bX
 shelf:av
 sum:Int
 feats:List av
 deriving Inhabited,DecidableEq
def eg.D (x:eg):D:=.agg [.str x.name,.int .i64 x.v.major,.int .i64 x.v.minor,.int .i64 x.v.patch,.str x.v.pre,.str x.v.build,.str x.shelf,.int .u64 x.sum,.sl 1 (x.feats.map D.str)]
structure Env where
 e0:av
 e1:av
 e2:av
 deriving Inhabited,DecidableEq
def Env.D (e:Env):D:=.agg [.str e.e0,.str e.e1,.str e.e2]
structure mB where
 env:Env
 lines:List eg
 deriving Inhabited,DecidableEq
def mB.D (l:mB):D:=.agg [.str l.env.e0,.str l.env.e1,.str l.env.e2,.sl 9 (l.lines.map eg.D)]
end Go.Abs
namespace Go.Abs
theorem sM (a b:List UInt8):eqD (.str a) (.str b)=decide (a=b):=Qo a b
theorem A7 (k k2:IntKind)(a b:Int):eqD (.int k a) (.int k2 b)=decide (a=b):=rfl
def bX.eq (a b:bX):gV (bX.D a).cells (bX.D b).cells=decide (a=b):=by
 obtain⟨a1,a2,a3,a4,a5⟩:=a;obtain⟨b1,b2,b3,b4,b5⟩:=b
 grind [bX.D,D.cells,gV,sM,A7]
def Env.eq (a b:Env):gV (Env.D a).cells (Env.D b).cells=decide (a=b):=by
 obtain⟨a1,a2,a3⟩:=a;obtain⟨b1,b2,b3⟩:=b
 grind [Env.D,D.cells,gV,sM,A7]
theorem bX.inj {a b:bX}(h:bX.D a=bX.D b):a=b:=by
 obtain⟨a1,a2,a3,a4,a5⟩:=a;obtain⟨b1,b2,b3,b4,b5⟩:=b
 grind [bX.D]
theorem Env.inj {a b:Env}(h:Env.D a=Env.D b):a=b:=by
 obtain⟨a1,a2,a3⟩:=a;obtain⟨b1,b2,b3⟩:=b
 grind [Env.D]
theorem map_inj {α:Type}{q:α->D}(hq:∀a b,q a=q b->a=b):∀{xs ys:List α},xs.map q=ys.map q->xs=ys
 |[],[],_=>rfl
 |[],_::_,h=>by simp at h
 |_::_,[],h=>by simp at h
 |a::r,b::s,h=>by
  simp only[List.map_cons,sE]at h;rw[hq a b h.1,map_inj hq h.2]
theorem str_inj (a b:List UInt8)(h:D.str a=D.str b):a=b:=by simpa using h
theorem eg.inj {a b:eg}(h:eg.D a=eg.D b):a=b:=by
 obtain⟨a1,⟨v1,v2,v3,v4,v5⟩,a2,a3,a4⟩:=a;obtain⟨b1,⟨w1,w2,w3,w4,w5⟩,b2,b3,b4⟩:=b
 grind [eg.D,map_inj,str_inj]
theorem mB.inj {a b:mB}(h:mB.D a=mB.D b):a=b:=by
 obtain⟨⟨a1,a2,a3⟩,a4⟩:=a;obtain⟨⟨b1,b2,b3⟩,b4⟩:=b
 grind [mB.D,map_inj,eg.inj]
end Go.Abs
end
section
namespace Go.Abs
def allI (p:Nat->Bool):Nat->Nat->Bool
 |_,0=>true
 |i,k+1=>p i&&allI p (i+1) k
def bU (p:Nat->Bool)(i n:Nat):Bool:=allI p i (n-i)
def az {p:Nat->Bool}{i n:Nat}(h:i<n):bU p i n=(p i&&bU p (i+1) n):=by
 unfold bU;rw[show n-i=(n-(i+1))+1 by omega];rfl
def bA {p:Nat->Bool}{i n:Nat}(h:n<=i):bU p i n=true:=by
 unfold bU;rw[show n-i=0 by omega];rfl
theorem Kw {p:Nat->Bool}:∀{k i:Nat},allI p i k=true↔∀j,i<=j->j<i+k->p j=true
 |0,i=>by simp[allI];intro j h1 h2;omega
 |k+1,i=>by
  simp only[allI,aD,Kw (k:=k)]
  grind
theorem bw {p:Nat->Bool}{i n:Nat}:bU p i n=true↔∀j,i<=j->j<n->p j=true:=by
 grind [bU,Kw]
end Go.Abs
namespace Go.Abs
def bS {a a' b b':D}(h1:a=a')(h2:b=b'):D.tup [a,b]=D.tup [a',b']:=by rw[h1,h2]
end Go.Abs
namespace Go.Abs
def ld8 (s:av)(i:Nat):kU (D.int .u8 (s[i]!).toNat) 1 1 0 false=.int .u8 (at8 s i):=by
 simp only[kU,D.isAgg,at8];simp;rfl
end Go.Abs
namespace Go.Abs
def wy (s:av)(pos:Nat)(h:pos<s.length):∃c w,yi s pos=(c,w)/\1<=w/\((w=1/\(c:Int)=at8 s pos/\c<128)\/(128<=c/\128<=at8 s pos)):=by
 refine⟨(yi s pos).1,(yi s pos).2,rfl, ?_⟩;have e:yi s pos=Lib.decodeN (s.length-pos) (s.getD pos 0).toNat (s.getD (pos+1) 0).toNat (s.getD (pos+2) 0).toNat (s.getD (pos+3) 0).toNat:=Lib.decode_N ⟨⟨s⟩⟩ pos;rw[e];unfold at8;generalize (s.getD pos 0).toNat=b0;generalize (s.getD (pos+1) 0).toNat=b1;generalize (s.getD (pos+2) 0).toNat=b2;generalize (s.getD (pos+3) 0).toNat=b3;generalize s.length-pos=n;by_cases hb:b0<128
 .unfold Lib.decodeN;rw[ak hb];exact⟨aO _,.inl ⟨rfl,rfl,hb⟩⟩
 .unfold Lib.decodeN
  grind
end Go.Abs
namespace Go.Abs
def th {α:Type}{q:α->D}{xs:List α}{m:List (Nat×bd)}{l:Nat}(hq:∀x,xV m [.a] (q x)=q x)(hl:look m l=some (.buf 1 (xs.map q))):xV m [.sl 1 [.a]] (.own l 1 0 xs.length)=.sl 1 (xs.map q):=by
 show D.sl 1 _=_;simp only[aH,hl,dI,bR,List.map_map];congr 1;apply List.map_congr_left;intro x _;have:=hq x;simp only[Function.comp];generalize q x=d at this;cases d<;>exact this
def pT {α:Type}{q:α->D}{xs:List α}{m:List (Nat×bd)}{l:Nat}(hq:∀x,xVO m [.a] (q x))(hl:look m l=some (.buf 1 (xs.map q))):xVO m [.sl 1 [.a]] (.own l 1 0 xs.length):=by
 grind [xVO,xHO,UM,dT,aH,bR]
end Go.Abs
end
namespace Go.Abs
def jH (c:Int):Bool:=decide (97<=c)&&decide (c<=122)
def bH (c:Int):Bool:=decide (48<=c)&&decide (c<=57)
def F6 (c:Int):Bool:=jH c ||bH c ||decide (c=95)
def gC (s:av):Bool:=decide (1<=s.length)&&decide (s.length<=12)&&bU (fun i=>F6 (at8 s i)) 0 s.length
def nch (s:av)(i:Nat):Bool:=(jH (at8 s i) ||bH (at8 s i) ||decide (at8 s i=45))&& !(decide (at8 s i=45)&&decide (at8 s (i-1)=45))
def dd (s:av):Bool:=decide (1<=s.length)&&decide (s.length<=16)&&jH (at8 s 0)&& !decide (at8 s (s.length-1)=45)&&bU (nch s) 1 s.length
def oQ (s:av)(i:Nat):Bool:=jH (at8 s i) ||(bH (at8 s i)&& !decide (i=0)) ||(decide (at8 s i=45)&& !decide (i=0)&& !decide (i=s.length-1)&& !decide (at8 s (i-1)=45))
def acU (s:av)(h1:1<=s.length)(h2:s.length<=16):dd s=bU (oQ s) 0 s.length:=by
 rw[Bool.eq_iff_iff];simp only[dd,bo h1,bo h2,ew,aD,cz,cv,bw];constructor
 .rintro⟨⟨h3,h4⟩,h5⟩ j _ hj;rcases Nat.eq_zero_or_pos j with rfl|hp
  .simp[oQ,h3]
  .have:=h5 j hp hj;simp only[nch,aD,dC,cz,ed,aW,cv]at this;simp only[oQ,aD,dC,cz,aW,cv];rcases this with⟨(h6|h6)|h6,h7⟩
   .exact Or.inl (Or.inl h6)
   .exact Or.inl (Or.inr ⟨h6,ae⟩)
   .refine Or.inr ⟨⟨⟨h6,ae⟩, ?_⟩, ?_⟩
    .rintro rfl;exact h4 h6
    .rcases h7 with h7|h7
     .exact absurd h6 h7
     .exact h7
 .intro h;have h0:=h 0 ae ae;have hlow:jH (at8 s 0)=true:=by simpa[oQ]using h0
  refine⟨⟨hlow, ?_⟩,fun j hj1 hj2=>?_⟩
  .intro he;have hl:=h (s.length-1) ae ae;rcases Nat.eq_or_lt_of_le h1 with e|e
   .rw[<-e]at he;simp only[Nat.sub_self]at he;simp only[jH,aD,aW]at hlow;omega
   .simp only[oQ,he,jH,bH]at hl;simp at hl
  .have:=h j ae hj2;simp only[oQ,aD,dC,cz,aW,cv]at this;simp only[nch,aD,dC,cz,ed,aW,cv];rcases this with(h6|h6)|h6
   .refine⟨Or.inl (Or.inl h6),Or.inl ?_⟩;simp only[jH,aD,aW]at h6;omega
   .refine⟨Or.inl (Or.inr h6.1),Or.inl ?_⟩;have:=h6.1;simp only[bH,aD,aW]at this;omega
   .exact⟨Or.inr h6.1.1.1,Or.inr h6.2⟩
def eR (s:av):Nat:=s.foldl (fun n b=>n*10+(b.toNat-48)) 0
def n5 (s:av):Bool:=decide (1<=s.length)&&decide (s.length<=9)&& !(decide (1<s.length)&&decide (at8 s 0=48))&&bU (fun i=>bH (at8 s i)) 0 s.length&&decide (eR s<=9999)
def Cz (s:av):Int:=if n5 s=true then(eR s:Int)else 0
theorem qJ (s:av)(i:Nat)(h:i<s.length):s.take (i+1)=s.take i++[s.getD i 0]:=by
 rw[List.take_succ];simp[h]
def zI (s:av)(i:Nat)(h:i<s.length):eR (s.take (i+1))=eR (s.take i)*10+((at8 s i).toNat-48):=by
 rw[qJ s i h];simp[eR,List.foldl_append,at8]
def TF (s:av):eR s+23<=23*10^s.length:=by
 have:∀(s:av) (n k:Nat),n+23<=23*10^k->s.foldl (fun n b=>n*10+(b.toNat-48)) n+23<=23*10^(k+s.length):=by
  intro s;induction s with
  |nil=>intro n k h;simpa using h
  |cons b r ih=>
   intro n k h;have hb:=b.toNat_lt;have:=ih (n*10+(b.toNat-48)) (k+1) (by rw[Nat.pow_succ];omega);simp only[List.foldl_cons,bD];rw[show k+(r.length+1)=k+1+r.length by omega];exact this
 have:=this s 0 0 aF;simpa[eR]using this
def wW (s:av)(i:Nat)(h:i<=9):eR (s.take i)<=23000000000:=by
 have h1:=TF (s.take i);have h2:(s.take i).length<=9:=fo;have h3:10^(s.take i).length<=10^9:=Nat.pow_le_pow_right ae h2;omega
def Lx (s:av):∀n:Nat,s.foldl (fun n b=>n*10+(b.toNat-48)) n=n*10^s.length+eR s:=by
 unfold eR;induction s with
 |nil=>intro n;simp
 |cons b r ih=>
  intro n;simp only[List.foldl_cons,bD];rw[ih,ih (0*10+(b.toNat-48)),Nat.pow_succ];simp only[Nat.zero_mul,cD,Nat.add_mul];rw[Nat.mul_assoc n 10,Nat.mul_comm 10];omega
def zH (b:UInt8)(r:av):eR (b::r)=(b.toNat-48)*10^r.length+eR r:=by
 have:=Lx r (0*10+(b.toNat-48));simp only[eR,List.foldl_cons]at this⊢;rw[this];simp
def zo {b:UInt8}{r:av}(h:bU (fun i=>bH (at8 (b::r) i)) 0 (b::r).length=true):bH b.toNat=true/\bU (fun i=>bH (at8 r i)) 0 r.length=true:=by
 rw[bw]at h;refine⟨by simpa[at8]using h 0 ae aF, ?_⟩;rw[bw];intro j _ hj;simpa[at8]using h (j+1) ae fo
def Fp:∀(s:av),bU (fun i=>bH (at8 s i)) 0 s.length=true->eR s<10^s.length
 |[],_=>by simp[eR]
 |b::r,h=>by
  obtain⟨h1,h2⟩:=zo h;have:=Fp r h2;rw[zH,bD,Nat.pow_succ];simp only[bH,aD,aW]at h1;have h3:b.toNat-48<=9:=ae;have:=fH (10^r.length) h3;omega
def TE {b:UInt8}{r:av}(h:49<=b.toNat):10^r.length<=eR (b::r):=by
 rw[zH];have:=fH (10^r.length) (show 1<=b.toNat-48 by omega);omega
def XC (s:av):n5 s=(decide (1<=s.length)&&decide (s.length<=4)&& !(decide (1<s.length)&&decide (at8 s 0=48))&&bU (fun i=>bH (at8 s i)) 0 s.length):=by
 unfold n5;cases hd:bU (fun i=>bH (at8 s i)) 0 s.length with
 |false=>simp
 |true=>
  have hlt:=Fp s hd;by_cases h4:s.length<=4
  .have:10^s.length<=10^4:=Nat.pow_le_pow_right ae h4;rw[bo h4,bo (by omega:s.length<=9),bo (by omega:eR s<=9999)];simp
  .rw[bG h4]
   match s,hd,h4 with
   |b::r,hd,h4=>
    by_cases h0:at8 (b::r) 0=48
    .rw[bo h0,bo (by omega:1<(b::r).length)];simp
    .have h1:=(zo hd).1;simp only[bH,aD,aW]at h1;have h2:49<=b.toNat:=by
      simp[at8]at h0;omega
     have h3:=TE (r:=r) h2;have:10^4<=10^r.length:=Nat.pow_le_pow_right ae (by simp at h4;omega);rw[bG (by omega:¬eR (b::r)<=9999)];simp
def dg (n:Nat):UInt8:=UInt8.ofNat (48+n)
def GC:Nat->Nat->av
 |0,n=>[dg n]
 |f+1,n=>if n<10 then [dg n]else GC f (n/10)++[dg (n%10)]
def nI (n:Nat):av:=GC n n
def QD:∀(f g n:Nat),n<=f->n<=g->GC f n=GC g n
 |0,0,n,_,_=>rfl
 |0,g+1,n,h,_=>by
  obtain rfl:n=0:=ae;simp[GC]
 |f+1,0,n,_,h=>by
  obtain rfl:n=0:=ae;simp[GC]
 |f+1,g+1,n,h1,h2=>by
  simp only[GC];split
  .rfl
  .rw[QD f g (n/10) ae ae]
def A5 {n:Nat}(h:n<10):nI n=[dg n]:=by
 unfold nI;cases n<;>simp[GC,h]
def A4 {n:Nat}(h:9<n):nI n=nI (n/10)++[dg (n%10)]:=by
 unfold nI;obtain⟨k,rfl⟩:∃k,n=k+1:=⟨n-1,ae⟩
 simp only[GC];rw[ah ae,QD k ((k+1) /10) _ ae ae]
def gU:∀(k n:Nat),n<10^k->0<k->(nI n).length<=k:=by
 intro k;induction k with
 |zero=>intro n _ h;omega
 |succ k ih=>
  intro n h _;by_cases h10:n<10
  .rw[A5 h10];simp
  .rw[A4 ae];have hk:0<k:=by
    rcases Nat.eq_zero_or_pos k with rfl|h0
    .simp at h;omega
    .exact h0
   have:=ih (n/10) (by rw[Nat.pow_succ]at h;omega) hk;simp;omega
def aew {n:Nat}(h:n<10):((dg n).toNat:Int)=48+n:=by
 have:(48+n)%256=48+n:=Nat.mod_eq_of_lt ae;simp[dg,this]
def fj (b:Int):av->av->List av
 |[],cur=>[cur]
 |c::r,cur=>if(c.toNat:Int)=b then cur::fj b r []else fj b r (cur++[c])
def a7 (s:av)(b:Int):List av:=fj b s []
def QF (s:av)(i:Nat)(h:i<s.length):s.drop i=s.getD i 0::s.drop (i+1):=by
 rw[eY h];simp[h]
def FQ {s:av}{b:Int}{i fr:Nat}(h:i<s.length)(he:at8 s i=b):fj b (s.drop i) ((s.take i).drop fr)=((s.take i).drop fr)::fj b (s.drop (i+1)) ((s.take (i+1)).drop (i+1)):=by
 rw[QF s i h];have h2:(s.take (i+1)).drop (i+1)=[]:=aF;rw[h2];simp only[fj];rw[ak (by simpa[at8]using he)]
def FR {s:av}{b:Int}{i fr:Nat}(h:i<s.length)(hf:fr<=i)(he:¬at8 s i=b):fj b (s.drop i) ((s.take i).drop fr)=fj b (s.drop (i+1)) ((s.take (i+1)).drop fr):=by
 rw[QF s i h,qJ s i h,List.drop_append_of_le_length fo];simp only[fj];rw[ah (by simpa[at8]using he)]
def Dv {s:av}{b:Int}{i fr:Nat}(h:s.length<=i):fj b (s.drop i) ((s.take i).drop fr)=[s.drop fr]:=by
 rw[j2 h,gK h];rfl
def vI (b:Int):∀(s cur:av),(fj b s cur).length<=s.length+1
 |[],cur=>by simp[fj]
 |c::r,cur=>by
  simp only[fj];split
  .have:=vI b r [];simp;omega
  .have:=vI b r (cur++[c]);simp;omega
def Px (s:av)(b:Int):(a7 s b).length<=s.length+1:=vI b s []
def mZ (c:Int):Bool:=jH c ||bH c ||decide (c=45)
def vM (t:av):Bool:=decide (1<=t.length)&&decide (t.length<=8)&&bU (fun i=>mZ (at8 t i)) 0 t.length
def cK (t:av):Bool:=bU (fun i=>bH (at8 t i)) 0 t.length&&decide (0<t.length)
def jc (p:Bool)(t:av):Bool:=vM t&& !(p&&cK t&& !n5 t)
def sv (s:av)(p:Bool):Bool:=decide ((a7 s 46).length<=4)&&bU (fun i=>jc p (a7 s 46)[i]!) 0 (a7 s 46).length
def DA (s:av)(p:Bool):Bool:=decide (s=[]) ||sv s p
def B2 (n:Int):Bool:=decide (0<=n)&&decide (n<=9999)
def gA (v:bX):Bool:=B2 v.major&&B2 v.minor&&B2 v.patch&&DA v.pre true&&DA v.build false
def EK (v:bX):av:=nI v.major.toNat++[46]++nI v.minor.toNat++[46]++nI v.patch.toNat++(if v.pre=[]then []else 45::v.pre)++(if v.build=[]then []else 43::v.build)
def um (v:bX):av:=if gA v=true then EK v else []
def bX.sm (v:bX):Prop:=v.pre.length<=1048576/\v.build.length<=1048576
def or64 (a b:Int):Int:=IntKind.u64.wrap ((BitVec.ofInt 64 a |||BitVec.ofInt 64 b).toNat)
def Se (a b:Int):Int:=IntKind.u64.wrap ((BitVec.ofInt 64 a^^^BitVec.ofInt 64 b).toNat)
def Zi (a:Int)(k:Nat):Int:=IntKind.u64.wrap (a*2^k)
def FM (a:Int)(k:Nat):Int:=a.fdiv (2^k)
def rot (h:Int)(k:Nat):Int:=or64 (Zi h k) (FM h (64-k))
def RY (h:Int)(c:Int):Int:=IntKind.u64.wrap (rot (Se h c) 13*18397679294719823053)
def yY (s:av):Int:=s.foldl (fun h c=>RY h c.toNat) 11400714819323198485
def sumL (s:av):Int:=Se (yY s) (FM (yY s) 29)
def FW (s:av)(i:Nat)(h:i<s.length):yY (s.take (i+1))=RY (yY (s.take i)) (at8 s i):=by
 grind [qJ,yY,at8]
def Env.at (e:Env):Nat->av
 |0=>e.e0
 |1=>e.e1
 |_=>e.e2
def Env.ld (e:Env){i:Nat}(h:i<3):kU (Env.D e) 3 1 (0+i*1) false=.str (e.at i):=by
 match i,h with
 |0,_=>rfl
 |1,_=>rfl
 |2,_=>rfl
def mB.ld (l:mB){i:Nat}(h:i<3):kU (mB.D l) 4 1 (0+i*1) false=.str (l.env.at i):=by
 match i,h with
 |0,_=>rfl
 |1,_=>rfl
 |2,_=>rfl
def Env.cut (e:Env){i:Nat}(h:i<3):Abs.cut [.str e.e0,.str e.e1,.str e.e2] (i*1) 1 false=.str (e.at i):=by
 match i,h with
 |0,_=>rfl
 |1,_=>rfl
 |2,_=>rfl
def nK (e:Env):Bool:=bU (fun i=>decide (e.at i=[]) ||gC (e.at i)) 0 3
def zq (l:List av)(i:Nat):Bool:=gC l[i]! && !(decide (0<i)&& !Op.bytesLess l[i-1]! l[i]!)
def G3 (x:eg):Bool:=dd x.name&&gA x.v&& !(decide (x.shelf≠[])&& !dd x.shelf)&& !(decide (x.shelf=[])&&decide (x.sum≠0))&&decide (x.feats.length<=9)&&bU (zq x.feats) 0 x.feats.length
def wL (l:List eg)(i:Nat):Bool:=G3 l[i]! && !(decide (0<i)&& !Op.bytesLess l[i-1]!.name l[i]!.name)
def Ld (l:mB):Bool:=nK l.env&&decide (l.lines.length<=48)&&bU (wL l.lines) 0 l.lines.length
def eg.sm (x:eg):Prop:=x.v.sm/\x.name.length<=1048576/\x.shelf.length<=1048576/\x.feats.length<=1048576/\∀t∈x.feats,t.length<=1048576
def mB.sm (l:mB):Prop:=l.lines.length<=1048576/\(∀x∈l.lines,x.sm)/\∀i,(l.env.at i).length<=1048576
theorem aq {α:Type} [Inhabited α]{l:List α}{i:Nat}(h:i<l.length):l[i]! ∈l:=by
 simp[h]
structure Kp where
 name:av
 v:bX
 deriving Inhabited,DecidableEq
def Kp.D (x:Kp):D:=.agg [.str x.name,.int .i64 x.v.major,.int .i64 x.v.minor,.int .i64 x.v.patch,.str x.v.pre,.str x.v.build]
def MH {α:Type} [Inhabited α] [DecidableEq α]{a b:List α}(h:a.length=b.length):decide (a=b)=bU (fun i=>decide (a[i]! =b[i]!)) 0 a.length:=by
 rw[Bool.eq_iff_iff,aW,bw];constructor
 .rintro rfl j _ _;simp
 .intro hj;apply List.ext_getElem h
  grind
def eg.same {a b:eg}(e1:a.name=b.name)(e2:a.v=b.v)(e3:a.shelf=b.shelf)(e4:a.sum=b.sum)(e5:a.feats.length=b.feats.length):decide (a=b)=bU (fun i=>decide (a.feats[i]! =b.feats[i]!)) 0 a.feats.length:=by
 rw[<-MH e5];obtain⟨a1,a2,a3,a4,a5⟩:=a;obtain⟨b1,b2,b3,b4,b5⟩:=b
 grind
def ch (b:av):List av->av
 |[]=>[]
 |[t]=>t
 |t::u::r=>t++b++ch b (u::r)
def vl (b t:av)(r:List av)(h:r≠[]):ch b (t::r)=t++b++ch b r:=by
 cases r with
 |nil=>exact absurd rfl h
 |cons u r=>rfl
def rO {α:Type}(q:α->av)(B:Nat):∀l:List α,(∀x∈l,(q x).length<=B)->((l.map q).flatten).length<=l.length*B
 |[],_=>aF
 |a::r,h=>by
  have h1:=h a (.head _);have h2:=rO q B r fun x hx=>h x (.tail _ hx)
  simp only[List.map_cons,List.flatten_cons,cn,bD,Nat.succ_mul];omega
def DL (v:bX)(h:v.sm):(um v).length<=2097200:=by
 unfold um;split
 .rename_i hv;simp only[gA,aD]at hv;obtain⟨⟨⟨⟨hv1,hv2⟩,hv3⟩,_⟩,_⟩:=hv;simp only[B2,aD,aW]at hv1 hv2 hv3;have hl1:=gU 4 v.major.toNat ae ae;have hl2:=gU 4 v.minor.toNat ae ae;have hl3:=gU 4 v.patch.toNat ae ae;obtain⟨h1,h2⟩:=h
  grind [EK]
 .simp
def Env.sm (e:Env):Prop:=∀i,(e.at i).length<=1048576
end Go.Abs
section
namespace Go.Abs
def jY (v n:Int):Int:=if n<1 then 0 else if v.tmod n<0 then v.tmod n+n else v.tmod n
def DE (v n:Int)(h:1<=n):-n<v.tmod n/\v.tmod n<n:=⟨Int.lt_tmod_of_pos v ae,Int.tmod_lt_of_pos v ae⟩
def kI (v n:Int)(h:1<=n):0<=jY v n/\jY v n<n:=by
 have:=DE v n h
 grind [jY]
def atI (l:List Int)(i:Int):Int:=if i<0\/(l.length:Int)<=i then i.tmod 3 else l[i.toNat]!
structure Gs where
 l:List Int
 i:Int
 deriving Inhabited
def Gs.D (g:Gs):D:=.agg [.sl 1 (g.l.map (D.int .i64)),.int .i64 g.i]
def Gs.val (g:Gs)(n:Int):Int:=jY (atI g.l g.i) n
def Gs.aR (g:Gs):Gs:=⟨g.l,g.i+1⟩
def ue (s:av)(b:UInt8):av×av×Bool:=match s.findIdx? (fun c=>c==b)with
 |some k=>(s.take k,s.drop (k+1),true)
 |none=>(s,[],false)
def qg (s p:av):av×Bool:=if p.isPrefixOf s=true then(s.drop p.length,true)else(s,false)
def VR (s:av)(b:UInt8):(ue s b).1.length<=s.length/\((ue s b).2.2=true->(ue s b).1.length+1<=s.length):=by
 unfold ue;split
 .rename_i k h;have:=List.findIdx?_eq_some_iff_findIdx_eq.1 h;simp only[ek];omega
 .simp
structure Rdr where
 s:av
 at':Nat
 n:Nat
def Rdr.D (r:Rdr):D:=.agg [.str r.s,.int .i64 (r.at':Nat),.int .i64 (r.n:Nat)]
def Rdr.ln (r:Rdr):av×av×Bool:=ue (r.s.drop r.at') 10
def Rdr.aR (r:Rdr):Rdr:=⟨r.s,if r.ln.2.2=true then r.at'+(r.ln.1.length+1)else r.at',r.n+1⟩
def vJ (b:Int):∀(s cur:av),∀t∈fj b s cur,t.length<=cur.length+s.length
 |[],cur,t,h=>by simp only[fj,aC]at h;subst h;simp
 |c::r,cur,t,h=>by
  simp only[fj]at h;split at h
  .rcases bF.1 h with rfl|h
   .simp
   .have:=vJ b r [] t h;simp at this⊢;omega
  .have:=vJ b r (cur++[c]) t h;simp at this⊢;omega
def Py (s:av)(b:Int){t:av}(h:t∈a7 s b):t.length<=s.length:=by
 have:=vJ b s [] t h;simpa using this
end Go.Abs
namespace Go.Abs
end Go.Abs
namespace Go.Abs
end Go.Abs
namespace Go.Abs
end Go.Abs
namespace Go.Abs
def NP (s p:av):(qg s p).1.length<=s.length:=by
 unfold qg;split<;>simp
end Go.Abs
namespace Go.Abs
variable {e:Env} {f:Nat} {r:Rdr} {ls:List eg}
end Go.Abs
namespace Go.Abs
end Go.Abs
end
namespace Go.Abs
section
section
variable {Y:Ctx} {draw:Bool} {r:List GI} {env rs:List aX} {nx:Nat} {m:List (Nat×bd)} {K:List aX->St->Prop} {g:Option (Nat×Bool)} {f:Bool}
def Ys {n l k j:Nat}{w:Bool}{x:Src}{args:List Src}{sh:List (List Sh)}{d v e:D}{aEc:List D}{m2:List (Nat×bd)}(h:ay Y false r env (⟨true,v⟩::rs) nx m2 K)(hg:GF rs (some (j,w)) true:=by exact⟨_,_,rfl,rfl⟩)(hx:bO env rs x=⟨true,.ptr l k 0 0⟩:=by exact rfl)(hl:look m l=some (.buf k [d]):=by exact rfl)(hd:d.aS=true:=by exact rfl)(hc:Y.fp n d aEc/\Y.fv n d aEc=v/\Y.fs n d aEc=e)(ha:iY [] sh (iG (bO env rs) args)=aEc:=by exact rfl)(ho:Bh (bO env rs) args:=by repeat' first|exact trivial|exact rfl|refine And.intro ?_ ?_|decide)(hn:aL (iG (bO env rs) args)=true:=by exact rfl)(hm:cO m l (.buf k [e])=m2:=by simp only[cO,cW,Nat.reduceEqDiff,bh,aZ,Nat.reduceAdd,reduceCtorEq];exact rfl):ay Y false (⟨.callF n x args sh,some (j,w)⟩::r) env rs nx m K:=
 Yu rfl rfl hg (fun _=>⟨v,aah,by simp only[ax.val,hx,aH,hl,iL,(dq _ _ _).1,ha,hc.2.1],m2,by simp only[ax.bL,hx,aH,hl,iL,(dq _ _ _).1,ha,hc.2.2];exact hm,h⟩) (fun h=>bZ)
def ajC {i:ax}{j:Nat}{w:Bool}(h:ay Y false r env (⟨false,.any⟩::rs) nx m K)(hM:i.cJ=false:=by exact rfl)(hC:i.calm=false:=by exact rfl)(hg:GF rs (some (j,w)) false:=by exact⟨_,_,rfl,rfl⟩):ay Y false (⟨i,some (j,w)⟩::r) env rs nx m K:=
 Yu hM hC hg (fun h=>bZ) (fun _=>h)
def r_off {i:ax}{j:Nat}{w:Bool}(d:D)(h:ay Y draw r env (⟨false,d⟩::rs) nx m K)(hC:i.pure=true:=by exact rfl)(hg:GF rs (some (j,w)) false:=by exact⟨_,_,rfl,rfl⟩):ay Y draw (⟨i,some (j,w)⟩::r) env rs nx m K:=
 br hC hg d (fun h=>bZ) (fun h=>bZ) (fun _=>h)
def dA {n:Nat}{args:List Src}{aEc:List D}{v:D}{nx':Nat}{m':List (Nat×bd)}(h:ay Y draw r env (⟨true,v⟩::rs) nx' m' K)
  (hc:∀K':D->St->Prop,K' v ⟨nx'+rs.length,m'⟩->Y.tr n aEc ⟨nx+rs.length,m⟩ K') (hn:nx<=nx') (ha:iG (bO env rs) args=aEc:=by exact rfl)
  (ho:Bh (bO env rs) args:=by repeat' first|exact trivial|exact rfl|refine And.intro ?_ ?_):ay Y draw (⟨.callM n args,none⟩::r) env rs nx m K:=by
 unfold ay;show True/\(true=true->Bh (Src.ev env rs.reverse) args/\Y.tr n (iG (Src.ev env rs.reverse) args) {nx:=nx+rs.reverse.length,m:=m} _)/\(true=false->_)
 grind [oA,ay]
def ajU {α:Type}{q:α->D}{s:List α}{k:Nat}{x y z:Src}{fx fy fz:Bool}{kh km:IntKind}{h' m':Int}(j:Nat)(h:ay Y draw r env (⟨f,.sl k ((s.take j).map q)⟩::rs) nx m K)(hg:GF rs g f:=by exact cA)(hx:bO env rs x=⟨fx,.sl k (s.map q)⟩:=by exact rfl)(hy:bO env rs y=⟨fy,.int kh h'⟩:=by exact rfl)(hz:bO env rs z=⟨fz,.int km m'⟩:=by exact rfl)
  (kx:f=true->fx=true:=by exact bn) (ky:f=true->fy=true:=by exact bn) (kz:f=true->fz=true:=by exact bn)
  (hj:f=true->h'=(j:Int)) (hb:f=true->(j:Int)<=m'/\m'<=(s.length:Int)):ay Y draw (⟨.slX k x y z,g⟩::r) env rs nx m K:=
 br rfl hg _ (fun hf=>by have h1:=hj hf;have h2:=hb hf;simp only[ax.ey,hx,hy,hz,bg];exact⟨kx hf,ky hf,kz hf,ae,ae,trivial,h2.2⟩) (fun hf=>by simp only[ax.val,hx,hy];rw[hj hf,Int.toNat_natCast,List.map_take]) (fun _=>h)
def CS {x:Src}{fx:Bool}{α:Type} [Inhabited α]{n k i o:Nat}{ag:Bool}{q:α->D}{xs:List α}(v:D)(h:ay Y draw r env (⟨f,v⟩::rs) nx m K)(hg:GF rs g f:=by exact cA)(hx:bO env rs x=⟨fx,.ref k (xs.map q) i o⟩:=by exact rfl)(kx:f=true->fx=true:=by exact bn)(hi:f=true->i<xs.length:=by exact rr)(hv:f=true->kU (q xs[i]!) k n o ag=v:=by exact fun _=>rfl)(ho:o+n<=k:=by omega):ay Y draw (⟨.ldU n ag x,g⟩::r) env rs nx m K:=
 fT rfl hg _ (fun hf=>aap) (fun hf=>aal) m rfl (fun ha=>h)
def OM {x:Src}{fx:Bool}{n k i o:Nat}{ag:Bool}{es:List D}(v:D)(h:ay Y draw r env (⟨f,v⟩::rs) nx m K)(hg:GF rs g f:=by exact cA)(hx:bO env rs x=⟨fx,.ref k es i o⟩:=by exact rfl)(kx:f=true->fx=true:=by exact bn)(hi:f=true->i<es.length:=by intro _;simp only[bD,b9];omega)(hv:f=true->kU (es.getD i .any) k n o ag=v:=by exact fun _=>rfl)(ho:o+n<=k:=by omega):ay Y draw (⟨.ldU n ag x,g⟩::r) env rs nx m K:=
 fT rfl hg _ (fun hf=>P3) (fun hf=>JV) m rfl (fun ha=>h)
def yN {x:Src}{fx:Bool}{n l k o:Nat}{ag:Bool}{d:D}(v:D)(h:ay Y draw r env (⟨f,v⟩::rs) nx m K)(hg:GF rs g f:=by exact cA)(hx:bO env rs x=⟨fx,.ptr l k 0 o⟩:=by exact rfl)(kx:f=true->fx=true:=by exact bn)(hl:f=true->look m l=some (.buf k [d]):=by exact fun _=>rfl)(hv:f=true->kU d k n o ag=v:=by exact fun _=>rfl)(ho:o+n<=k:=by omega)(hd:f=true->d.aS=false:=by exact fun _=>rfl):ay Y draw (⟨.ldU n ag x,g⟩::r) env rs nx m K:=
 fT rfl hg _ (fun hf=>by simp only[ax.ey,hx,Lg,dT,hl hf];exact⟨kx hf,⟨⟨trivial,aF⟩,ho⟩,by simp only[aH,hl hf,aL,hd hf];rfl⟩) (fun hf=>P8) m rfl (fun ha=>h)
def Yy {x:Src}{fx:Bool}{n l k o:Nat}{ag:Bool}{d:D}(v:D)(h:ay Y draw r env (⟨f,v⟩::rs) nx m K)(hg:GF rs g f:=by exact cA)(hx:bO env rs x=⟨fx,.ptr l k 0 o⟩:=by exact rfl)(kx:f=true->fx=true:=by exact bn)(hl:f=true->look m l=some (.buf k [d]):=by exact fun _=>rfl)(hv:f=true->kU d k n o ag=v:=by exact fun _=>rfl)(ho:o+n<=k:=by omega)(hd:4<k:=by omega):ay Y draw (⟨.ldW n ag x,g⟩::r) env rs nx m K:=
 fT rfl hg _ (fun hf=>by simp only[ax.ey,hx,Lg,dT,hl hf];exact⟨kx hf,⟨⟨trivial,aF⟩,ho⟩,hd⟩) (fun hf=>P8) m rfl (fun ha=>h)
end
end
end Go.Abs
section
namespace Go.Abs
def Gs.XD (g:Gs):g.aR.i=g.i+1:=rfl
def Gs.eI (g:Gs)(n:Int)(h:1<=n):0<=g.val n/\g.val n<n:=kI _ _ h
def fW:av:=[102]
def Xk:av:=[109,97,105,110]
def Dq:av:=[115,105,100,101]
def cB:List av:=[[97,110,116],[98,101,101],[99,111,119],[100,111,103]]
def bN:List bX:=[⟨1,0,0,[],[]⟩,⟨1,2,0,[],[]⟩,⟨2,0,0,[97,46,49],[]⟩,⟨2,0,0,[],[]⟩]
def E2:List av:=[[],[108,105,110,117,120],[112,108,97,110,57]]
def ll (n:Int):Env:=⟨E2[(jY n 3).toNat]!,[],[]⟩
def nlS:List av->D
 |[]=>.aK
 |a::r=>.sl 1 ((a::r).map D.str)
def eg.N (x:eg):Go.Abs.D:=.agg [.str x.name,.int .i64 x.v.major,.int .i64 x.v.minor,.int .i64 x.v.patch,.str x.v.pre,.str x.v.build,.str x.shelf,.int .u64 x.sum,nlS x.feats]
end Go.Abs
namespace Go.Abs
def eg.F (name:av)(v:bX)(shelf:av)(sum:Int)(fs:Go.Abs.D):Go.Abs.D:=.agg [.str name,.int .i64 v.major,.int .i64 v.minor,.int .i64 v.patch,.str v.pre,.str v.build,.str shelf,.int .u64 sum,fs]
def Wv (l k:Nat)(es:List Go.Abs.D)(g:Gs):iW l k es (Gs.D g)=Gs.D g:=rfl
mutual
theorem gW (l k:Nat)(es:List D):∀d:D,d.aS=true->iW l k es d=d
 | .agg a,h=>by simp only[iW,jU l k es a (by simpa[D.aS]using h)]
 | .tup a,h=>by simp only[iW,jU l k es a (by simpa[D.aS]using h)]
 | .fn n a,h=>by simp only[iW,jU l k es a (by simpa[D.aS]using h)]
 | .own ..,h=>by simp[D.aS]at h
 | .ptr ..,h=>by simp[D.aS]at h
 | .it ..,h=>by simp[D.aS]at h
 | .any,_| .bool _,_| .int ..,_| .str _,_| .aK,_| .sl ..,_| .ref ..,_| .nilp,_| .nilf,_=>rfl
theorem jU (l k:Nat)(es:List D):∀ds:List D,aL ds=true->ow l k es ds=ds
 |[],_=>rfl
 |d::r,h=>by
  simp only[aL,aD]at h;simp only[ow,gW l k es d h.1,jU l k es r h.2]
end
end Go.Abs
namespace Go.Abs
end Go.Abs
namespace Go.Abs
def bq (L c:Nat)(ls:List eg)(k j:Nat):D:=if j=k then eg.F ls[j]!.name ls[j]!.v ls[j]!.shelf ls[j]!.sum (.own L 1 0 c)else eg.D ls[j]!
end Go.Abs
namespace Go.Abs
end Go.Abs
namespace Go.Abs
end Go.Abs
namespace Go.Abs
end Go.Abs
end
section
namespace Go.Abs
end Go.Abs
namespace Go.Abs
def Kp.eq (a b:Kp):gV (Kp.D a).cells (Kp.D b).cells=decide (a=b):=by
 obtain⟨n1,⟨a1,a2,a3,a4,a5⟩⟩:=a;obtain⟨n2,⟨b1,b2,b3,b4,b5⟩⟩:=b
 grind [Kp.D,D.cells,gV,sM,A7]
def ah7 {l:List av}{B:Nat}(h:∀t∈l,t.length<=B)(i:Nat):(l[i]!).length<=B:=by
 by_cases hi:i<l.length
 .grind
 .simp only[List.getElem!_eq_getElem?_getD,List.getElem?_eq_none (Nat.le_of_not_lt hi),Option.getD_none];exact Nat.zero_le _
structure eg.ok (n:Nat)(x:eg):Prop where
 pre:x.v.pre.length<=3
 build:x.v.build.length<=2
 name:x.name.length<=16
 shelf:x.shelf.length<=16
 nf:x.feats.length<=n
 ft:∀t∈x.feats,t.length<=16
 sum:0<=x.sum/\x.sum<18446744073709551616
structure mB.ok (n:Nat)(l:mB):Prop where
 len:l.lines.length<=4
 lines:∀x∈l.lines,x.ok n
 env:∀i,(l.env.at i).length<=16
theorem mB.ok.sm {n:Nat}{l:mB}(h:l.ok n)(hn:n<=1000):l.sm:=by
 refine⟨by have:=h.len;omega,fun x hx=>?_,fun i=>by have:=h.env i;omega⟩;have k:=h.lines x hx;have k1:=k.pre;have k2:=k.build;have k3:=k.name;have k4:=k.shelf;have k5:=k.nf;exact⟨⟨ae,ae⟩,ae,ae,ae,fun t ht=>by have:=k.ft t ht;omega⟩
def ab4 (n:Int)(i:Nat):((ll n).at i).length<=16:=by
 have h:∀t∈E2,t.length<=16:=aU
 match i with
 |0=>exact ah7 h _
 |1=>show([]:av).length<=_;decide
 |_+2=>show([]:av).length<=_;decide
def eg.ok.mono {n m:Nat}{x:eg}(h:x.ok n)(hm:n<=m):x.ok m:=⟨h.pre,h.build,h.name,h.shelf,eX h.nf hm,h.ft,h.sum⟩
end Go.Abs
end
namespace Go.Abs
section
def lk {α:Type}:List (Nat×α)->Nat->α->α
 |[],_,d=>d
 |(a,b)::r,n,d=>bif Nat.beq a n then b else lk r n d
structure Row where
 key:Nat
 pre:List D->Prop
 val:List D->D
structure RowF where
 pre:D->List D->Prop
 val:D->List D->D
 new:D->List D->D
def Row.no:Row:=⟨0,fun _=>False,fun _=>.any⟩
def RowF.no:RowF:=⟨fun _ _=>False,fun _ _=>.any,fun _ _=>.any⟩
section
variable [cG] {P:Program} {ν:List (Nat×Nat)} {bL:List Nat} {Y:Ctx}
end
end
section
variable [cG]
section
variable {P:Program} {ν:List (Nat×Nat)} {bL:List Nat} {Y:Ctx}
def RD.re {x x':X}{σ:List (Nat×Nat)}(hw:x'.w=x.w)(hI:x'.I=x.I)(hβ:∀l l',mK 0 σ l=some l'->x'.β l'=x.β l){v:Value}{d d':D}(hv:RD ν x v d)(hd:RnD 0 σ d d'):RD ν x' v d':=by
 rcases hd with⟨rfl,hn⟩|hd|hd
 .exact hv.aS hn (fun _ h=>by rw[hI];exact h) (fun _ _=>by rw[hw])
 .grind [RD.rn]
 grind [RD.nl]
def oK.re {x x':X}{σ:List (Nat×Nat)}(hw:x'.w=x.w)(hI:x'.I=x.I)(hβ:∀l l',mK 0 σ l=some l'->x'.β l'=x.β l){b base tot:Nat}{b0 blk:bd}(o2:oK ν x b base tot b0)(q3:p0 0 σ b0 blk):oK ν x' b base tot blk:=by
 cases b0 with
 |iter s p=>
  cases blk with
  |iter s' p'=>simp only[p0]at q3;obtain⟨rfl,rfl⟩:=q3;simp only[oK,hw]at o2⊢;exact o2
  |_=>simp[p0]at q3
 |row s=>
  cases blk with
  |row s'=>simp only[p0]at q3;subst q3;simp only[oK,hw]at o2⊢;exact o2
  |_=>simp[p0]at q3
 |bld o n u=>
  cases blk with
  |bld o' n' u'=>
   simp only[p0]at q3;obtain⟨q3,rfl,rfl⟩:=q3;obtain⟨p1,v,p2,p3⟩:=o2;refine⟨p1,v,by rw[hw];exact p2, ?_⟩;cases o with
   |none=>simp only at q3;subst q3;exact p3
   |some l0=>
    obtain⟨l1,q4,rfl⟩:=q3;obtain⟨g,t,p4,p5,p6⟩:=p3;exact⟨g,t,p4,p5,by rw[hβ l0 l1 q4];exact p6⟩
  |_=>simp[p0]at q3
 |mpb s=>
  cases blk with
  |mpb s'=>
   simp only[p0]at q3;subst q3;obtain⟨p1,es2,cl,p2,p3,p4,p5⟩:=o2;exact⟨p1,es2,cl,by rw[hw];exact p2,p3,p4,fun i hi=>(p5 i hi).aS (cR p1 i) (fun _ h=>by rw[hI];exact h) (fun _ _=>by rw[hw])⟩
  |_=>simp[p0]at q3
 |buf k es=>
  cases blk with
  |iter s' p'=>simp[p0]at q3
  |row s'=>simp[p0]at q3
  |bld o' n' u'=>simp[p0]at q3
  |mpb s'=>simp[p0]at q3
  |buf k' es'=>
   simp only[p0]at q3;obtain⟨rfl,q3⟩:=q3;obtain⟨p1,p2,cc,T,fr,p3,p4,p5,p6⟩:=o2;rw[<-hw]at p3;rcases q3 with⟨rfl,hn⟩|q3|q3
   .exact⟨p1,p2,cc,T,fr,p3,p4,p5,fun i hi=>⟨(p6 i hi).1,fun j hj=>⟨((p6 i hi).2 j hj).1,RD.re hw hI hβ ((p6 i hi).2 j hj).2 (.inl ⟨rfl,lB (cR hn i) j⟩)⟩⟩⟩
   .obtain⟨r1,r2⟩:=jK q3;refine⟨p1,ae,cc,T,fr,p3,p4,p5,fun i hi=>?_⟩;have hi':i<es.length:=ae;obtain⟨s1,s2⟩:=FI (r2 i hi');exact⟨s1.trans (p6 i hi').1,fun j hj=>⟨((p6 i hi').2 j hj).1,RD.re hw hI hβ ((p6 i hi').2 j hj).2 (.inr (.inl (s2 j (by rw[(p6 i hi').1];exact hj))))⟩⟩
   .obtain⟨r1,r2⟩:=ru q3;refine⟨p1,ae,cc,T,fr,p3,p4,p5,fun i hi=>?_⟩;have hi':i<es.length:=ae;obtain⟨s1,s2⟩:=ER (r2 i hi');exact⟨s1.trans (p6 i hi').1,fun j hj=>⟨((p6 i hi').2 j hj).1,RD.re hw hI hβ ((p6 i hi').2 j hj).2 (.inr (.inr (s2 j (by rw[(p6 i hi').1];exact hj))))⟩⟩
def RM {lo c:Nat}{σ:List (Nat×Nat)}{l l':Nat}(h0:gE 0 c σ=true)(h:mK 0 σ l=some l'):l'<c/\(l,l')∈σ:=by
 obtain⟨h1,h2⟩:=xK h0 h
 grind
def wR {c:Nat}:∀{σ:List (Nat×Nat)}{a b:Nat},gE 0 c σ=true->(a,b)∈σ->mK 0 σ a=some b
 |[],a,b,_,h=>by cases h
 |(a0,b0)::r,a,b,h0,h=>by
  unfold mK;simp only[gE,aD,List.all_eq_true,cz]at h0;obtain⟨_,_,p4,p5⟩:=h0;rcases bF.1 h with h|h
  .simp only[c9]at h;obtain⟨rfl,rfl⟩:=h;simp
  .have:=(p4 _ h).1;simp only at this;have hne:Nat.beq a0 a=false:=by
    cases hb:Nat.beq a0 a with
    |false=>rfl
    |true=>obtain rfl:=Nat.eq_of_beq_eq_true hb;simp at this
   rw[hne];exact wR p5 h
structure Fr (σi σo:List (Nat×Nat))(q q1:Nat)(m0 m1:List (Nat×bd))(st st':St):Prop where
 oki:gE 0 q σi=true
 oko:gE 0 st'.nx σo=true
 nx:st.nx<=st'.nx
 lt:∀l i,(l,i)∈σi->look st.m l≠none
 io:∀i l,(i,l)∈σo->(l,i)∈σi\/st.nx<=l
 m0:∀i b,look m0 i=some b->∃l b',(l,i)∈σi/\look st.m l=some b'/\p0 0 σi b' b
 m1:∀l b,look st'.m l=some b->(∃i b1,(i,l)∈σo/\look m1 i=some b1/\p0 0 σo b1 b)\/(nO σo l=none/\(∀i,(l,i)∉σi)/\look st.m l=some b)
def ab8 {fid:Nat}{fn:Func}{af:aj}{K:D->St->Prop}(hΓ:Ok P ν bL Y)(hmix:P.follows .mixedOrders=true)(hf:P.funcs[fid]? =some fn)(hc:compile P ν bL fn=some af)
  {x:X} {args:Array Value} {ds cs:List D} {st:St} {σi:List (Nat×Nat)} {q:Nat} {m0:List (Nat×bd)} (hl:args.size=ds.length) (hargs:∀i,i<ds.length->RD ν x (args.getD i undef) (ds.getD i .any))
  (hs:fu ν x (look st.m)) (hfr:e7 st x) (hlen:cs.length=ds.length) (hds:∀i,i<ds.length->RnD 0 σi (ds.getD i .any) (cs.getD i .any)) (hnp:cs.length=af.np)
  (oki:gE 0 q σi=true) (hlt:∀l i,(l,i)∈σi->look st.m l≠none) (hm0:∀i b,look m0 i=some b->∃l b',(l,i)∈σi/\look st.m l=some b'/\p0 0 σi b' b)
  (hw:dn (Y.at q) af.body (fun e env st1=>e.home/\n8 st1.m env af.res/\∃(σo:List (Nat×Nat)) (q1:Nat) (m1:List (Nat×bd)) (st':St) (vd':D),Fr σi σo q q1 m0 m1 st st'/\RnD 0 σo (j1 af env st1) vd'/\K vd' st'/\∀i,look st1.m i=look m1 i) (fI af cs) ⟨q,m0⟩):
  Calls P fid args x.w fun
   | .returned v,w'=>∃x' d st',K d st'/\x'.w=w'/\Step x x'/\RD ν x' v d/\fu ν x' (look st'.m)/\e7 st' x'
   |_,_=>False:=by
 obtain⟨body,c1,c2,c3,c4,c5,c6⟩:=gp hc
 let x0:X:=⟨x.w,x.I,fun i=>(nO σi i).bind x.β⟩
 have hx0:∀l i,(l,i)∈σi->x0.β i=x.β l:=fun l i h=>by simp only[x0,A9 oki h,Option.bind_some]
 have hβ0:∀l i,mK 0 σi l=some i->x0.β i=x.β l:=fun l i h=>hx0 l i (RM (lo:=0) oki h).2
 have hx0':∀i p,x0.β i=some p->∃l,(l,i)∈σi/\x.β l=some p/\i<q:=by
  intro i p h;obtain⟨l,h1,h2⟩:=Option.bind_eq_some_iff.1 (show(nO σi i).bind x.β=some p from h);exact⟨l,lY h1,h2,sH oki (lY h1)⟩
 have hs0:fu ν x0 (look m0):=by
  refine⟨fun i blk b base tot e1 e2=>?_,fun i j b base tot base' tot' e1 e2 e3 e4=>?_,hs.imm,fun i b base tot e=>?_,cG.le x _ (fun _ h=>h) (fun _ _=>rfl) hs.gd⟩
  .obtain⟨l,b',h1,h2,h3⟩:=hm0 i blk e1;rw[hx0 l i h1]at e2;obtain⟨o1,o2⟩:=hs.own l b' b base tot h2 e2;exact⟨o1,oK.re (x:=x) (x':=x0) rfl rfl hβ0 o2 h3⟩
  .obtain⟨l,h1,h2,_⟩:=hx0' i _ e3;obtain⟨l',h1',h2',_⟩:=hx0' j _ e4;have:=hs.inj l l' b base tot base' tot' (hlt _ _ h1) (hlt _ _ h1') h2 h2';subst this;have:=wR oki h1;rw[wR oki h1']at this;exact(aV this).symm
  .obtain⟨l,_,h2,_⟩:=hx0' i _ e;exact hs.dU l b base tot h2
 have hf0:e7 ⟨q,m0⟩ x0:=by
  refine⟨fun i hi=>?_,fun i hi=>?_⟩
  .cases h:x0.β i with
   |none=>rfl
   |some p=>obtain⟨_,_,_,h4⟩:=hx0' i p h;simp only at hi;omega
  .cases h:look m0 i with
   |none=>exact absurd h hi
   |some b=>obtain⟨l,b',h1,_⟩:=hm0 i b h;exact sH oki h1
 have hi:=td (P:=P) (ν:=ν) (bL:=bL) (x:=x0) (ds:=cs) (st:=⟨q,m0⟩) c4 c5 c6 (args:=args) ae hnp (fun i hi=>RD.re (x:=x) (x':=x0) rfl rfl hβ0 (hargs i ae) (hds i ae)) hs0 hf0;have hcs:=qf (C:={P,ν,bL,slots:=slotsOf fn,ntmps:=fn.ntmps,vm:=PI P fn}) (hΓ.at q) (mj fn).1 hmix x0 (fun l h=>hf0.β l h) body af.body c2 _ _ _ _ x0 hw hi (.refl _);refine calls_of_wp hf c1 (wp_mono hcs fun e a w' hp=>?_);obtain⟨e',x',env',st1,he,hxw,hst,hi',hh,hro,σo,q1,m1,st',vd',hfm,hvd,hK,hlk⟩:=hp;subst hxw;obtain⟨v,r1,r2,r3⟩:=oH hΓ.small hi' c3 hro
 let x2:X:=⟨x'.w,x'.I,fun l=>match nO σo l with|some i=>x'.β i|none=>x.β l⟩
 have hx2:∀i l,(i,l)∈σo->x2.β l=x'.β i:=fun i l h=>by simp only[x2,A9 hfm.oko h]
 have hx2n:∀l,nO σo l=none->x2.β l=x.β l:=fun l h=>by simp only[x2,h]
 have hβ2:∀i l,mK 0 σo i=some l->x2.β l=x'.β i:=fun i l h=>hx2 i l (RM (lo:=0) hfm.oko h).2
 have hx0s:∀l i p,(l,i)∈σi->x.β l=some p->x'.β i=some p:=fun l i p h e=>hst.β _ _ (by rw[hx0 l i h];exact e)

 have hnew:∀i p,x'.β i=some p->(∃l,(l,i)∈σi/\x.β l=some p)\/x.w.heap.size<=p.1\/∃l p',(∃j,(l,j)∈σi)/\x.β l=some p'/\p'.1=p.1:=by
  intro i p e;rcases hst.newβ i p e with h|h|⟨j,p',h1,h2⟩
  .obtain⟨l,h3,h4,_⟩:=hx0' i p h;exact .inl ⟨l,h3,h4⟩
  .exact .inr (.inl h)
  .obtain⟨l,h3,h4,_⟩:=hx0' j p' h1;exact .inr (.inr ⟨l,p',⟨j,h3⟩,h4,h2⟩)
 have hstep:Step x x2:=by
  refine⟨hst.os,hst.tape,hst.output,hst.size,hst.I,hst.oP,fun l p hp=>?_,fun b hb hn=>hst.old b hb fun i p h e=>?_,fun b h=>?_,fun l p h=>?_⟩
  .cases h:nO σo l with
   |none=>rw[hx2n l h];exact hp
   |some i=>
    have hm:=lY h;rw[hx2 i l hm];rcases hfm.io i l hm with h2|h2
    .exact hx0s l i p h2 hp
    .rw[hfr.β l h2]at hp;cases hp
  .obtain⟨l,_,h2,_⟩:=hx0' i p h;exact hn l p h2 e
  .rcases hst.newI b h with h|h|⟨i,p,h1,h2⟩
   .exact .inl h
   .exact .inr (.inl h)
   .obtain⟨l,_,h3,_⟩:=hx0' i p h1;exact .inr (.inr ⟨l,p,h3,h2⟩)
  .cases h1:nO σo l with
   |none=>rw[hx2n l h1]at h;exact .inl h
   |some i=>
    have hm:=lY h1;rw[hx2 i l hm]at h;rcases hnew i p h with⟨l',h2,h3⟩|h2|⟨l',p',_,h3,h4⟩
    .exact .inr (.inr ⟨l',p,h3,rfl⟩)
    .exact .inr (.inl h2)
    .exact .inr (.inr ⟨l',p',h3,h4⟩)
 have hsim:fu ν x2 (look st'.m):=by
  refine⟨fun l blk b base tot e1 e2=>?_,fun l1 l2 b base tot base' tot' e1 e2 e3 e4=>?_,hi'.oq.imm,fun l b base tot e=>?_,cG.le x' _ (fun _ h=>h) (fun _ _=>rfl) hi'.oq.gd⟩
  .rcases hfm.m1 l blk e1 with⟨i,b1,h1,h2,h3⟩|⟨h1,h2,h3⟩
   .rw[hx2 i l h1]at e2;obtain⟨o1,o2⟩:=hi'.oq.own i b1 b base tot (by rw[hlk];exact h2) e2;exact⟨o1,oK.re (x:=x') (x':=x2) rfl rfl hβ2 o2 h3⟩
   .rw[hx2n l h1]at e2;obtain⟨o1,o2⟩:=hs.own l blk b base tot h3 e2;have hlt:=hs.dU l b base tot e2;have hno:∀i p,x0.β i=some p->p.1≠b:=by
     rintro i ⟨b',base',tot'⟩ h e;simp only at e;subst e;obtain⟨l',h4,h5,_⟩:=hx0' i _ h;have:=hs.inj l' l b' base' tot' base tot (hfm.lt _ _ h4) (by rw[h3];simp) h5 e2;subst this;exact h2 _ h4
    refine⟨fun h=>?_,o2.mono hstep.le (hst.old b hlt hno)⟩;rcases hst.newI b h with h|h|⟨i,p,h4,h5⟩
    .exact o1 h
    .exact absurd hlt (Nat.not_lt.2 h)
    .exact hno i p h4 h5
  .have mix:∀l1 l2 base tot base' tot',(∃i b1,(i,l1)∈σo/\look m1 i=some b1)->nO σo l2=none->(∀i,(l2,i)∉σi)->look st.m l2≠none->x2.β l1=some (b,base,tot)->x2.β l2=some (b,base',tot')->False:=by
    rintro l1 l2 base tot base' tot' ⟨i,b1,h1,h2⟩ h3 h4 h5 e3 e4;rw[hx2 i l1 h1]at e3;rw[hx2n l2 h3]at e4;rcases hnew i _ e3 with⟨l',h6,h7⟩|h6|⟨l',⟨pb,pt,pq⟩,⟨j,h6⟩,h7,h8⟩
    .have:=hs.inj l' l2 b base tot base' tot' (hfm.lt _ _ h6) h5 h7 e4;subst this;exact h4 _ h6
    .have:=hs.dU l2 b base' tot' e4;simp only at h6;omega
    .simp only at h8;subst h8;have:=hs.inj l' l2 pb pt pq base' tot' (hfm.lt _ _ h6) h5 h7 e4;subst this;exact h4 _ h6
   cases f1:look st'.m l1 with
   |none=>exact absurd f1 e1
   |some b1=>
    cases f2:look st'.m l2 with
    |none=>exact absurd f2 e2
    |some b2=>
     rcases hfm.m1 l1 b1 f1 with⟨i,c1,h1,h2,_⟩|⟨h1,h2,h3⟩<;>rcases hfm.m1 l2 b2 f2 with⟨j,c2,k1,k2,_⟩|⟨k1,k2,k3⟩
     .rw[hx2 i l1 h1]at e3;rw[hx2 j l2 k1]at e4;have:=hi'.oq.inj i j b base tot base' tot' (by rw[hlk,h2];simp) (by rw[hlk,k2];simp) e3 e4;subst this;have:=wR hfm.oko h1;rw[wR hfm.oko k1]at this;exact(aV this).symm
     .exact(mix l1 l2 base tot base' tot' ⟨i,c1,h1,h2⟩ k1 k2 (by rw[k3];simp) e3 e4).elim
     .exact(mix l2 l1 base' tot' base tot ⟨j,c2,k1,k2⟩ h1 h2 (by rw[h3];simp) e4 e3).elim
     .rw[hx2n l1 h1]at e3;rw[hx2n l2 k1]at e4;exact hs.inj l1 l2 b base tot base' tot' (by rw[h3];simp) (by rw[k3];simp) e3 e4
  .cases h1:nO σo l with
   |none=>rw[hx2n l h1]at e;exact jd (hs.dU l b base tot e) hst.size
   |some i=>
    rw[hx2 i l (lY h1)]at e;exact hi'.oq.dU i b base tot e
 have hfr2:e7 st' x2:=by
  refine⟨fun l hl=>?_,fun l hl=>?_⟩
  .cases h1:nO σo l with
   |none=>rw[hx2n l h1];exact hfr.β l (by have:=hfm.nx;omega)
   |some i=>have:=sH hfm.oko (lY h1);omega
  .cases f1:look st'.m l with
   |none=>exact absurd f1 hl
   |some b1=>
    rcases hfm.m1 l b1 f1 with⟨i,c1,h1,_⟩|⟨_,_,h3⟩
    .exact sH hfm.oko h1
    .have:=hfr.m l (by rw[h3];simp);have:=hfm.nx;omega
 have hrd:=RD.re (ν:=ν) (x:=x') (x':=x2) rfl rfl hβ2 r2 hvd;rcases Ex.Bg hh with h|h<;>rw[h]at he<;>subst he<;>exact⟨hi'.defers,v,r1,x2,vd',st',hK,rfl,hstep,hrd,hsim,hfr2⟩
end
end
section
structure RowT where
 tr:List D->St->(D->St->Prop)->Prop
 mu:List D->St->Nat
 mono:∀(ds:List D) (st:St) (K K':D->St->Prop),(∀d st',K d st'->K' d st')->tr ds st K->tr ds st K'
def RowT.no:RowT:=⟨fun _ _ _=>False,fun _ _=>0,fun _ _ _ _ _ h=>h⟩
def uc (af:aj)(Q:D->List (Nat×bd)->Prop):Ex->List aX->St->Prop:=fun e env st=>e.home/\n8 st.m env af.res/\∃m1,(∀i,look st.m i=look m1 i)/\Q (j1 af env st) m1
def dY {af:aj}{Q:D->List (Nat×bd)->Prop}{vd:D}{m1:List (Nat×bd)}{e:Ex}{env:List aX}{st:St}(h1:e.home)(h2:n8 st.m env af.res)(h3:j1 af env st=vd)(h4:st.m=m1)(h5:Q vd m1):uc af Q e env st:=⟨h1,h2,m1,fun i=>by rw[h4],by rw[h3];exact h5⟩
section
variable [cG] {P:Program} {ν:List (Nat×Nat)} {bL:List Nat} {Y:Ctx}
def Vc (P:Program)(ν:List (Nat×Nat))(Γ':Ctx)(bL:List Nat)(tr:List D->St->(D->St->Prop)->Prop)(fid:Nat):Prop:=
 ∀(ds:List D) (st:St) (K:D->St->Prop),tr ds st K->Ok P ν bL Γ'->∀(x:X) (args:Array Value),args.size=ds.length->(∀i,i<ds.length->RD ν x (args.getD i undef) (ds.getD i .any))->fu ν x (look st.m)->e7 st x->
  jC P x (fun v x'=>∃d st',K d st'/\Step x x'/\RD ν x' v d/\fu ν x' (look st'.m)/\e7 st' x') ((callFunc fid args).run P x.w)
end
end
section
abbrev RT:=List D->D->Prop
abbrev FT:=D->List D->D->D->Prop
abbrev TT:=List D->St->(D->St->Prop)->Prop
def Ko (T:TT):Prop:=∀ds st K K',(∀d st',K d st'->K' d st')->T ds st K->T ds st K'
def G1 (A:RT->Prop):RT:=fun ds d=>∀T,A T->T ds d
def nR (A:FT->Prop):FT:=fun d ds v s=>∀T,A T->T d ds v s
def ae3 (T:TT):Ctx:=⟨fun _ _=>False,fun _ _=>.any,fun _=>T,fun _ _ _=>False,fun _ _ _=>.any,fun _ _ _=>.any,0⟩
def W7 (C:Ctx->Prop):TT:=fun ds st K=>∀T,Ko T->C (ae3 T)->T ds st K
def Li (C:Ctx->Prop):Ko (W7 C):=fun _ _ _ _ h h1 T hT hC=>hT _ _ _ _ h (h1 T hT hC)
def noR:RT:=fun _ _=>False
def noF:FT:=fun _ _ _ _=>False
def noT:TT:=fun _ _ _=>False
def Cx:Ko noT:=fun _ _ _ _ _ h=>h.elim
structure mC where
 key:Nat
 rel:RT
 mu:List D->Nat
 relF:FT
 tr:TT
 muE:List D->St->Nat
 mono:Ko tr
def mu0:List D->Nat:=fun _=>0
def muE0:List D->St->Nat:=fun _ _=>0
def mU:mC:=⟨0,noR,mu0,noF,noT,muE0,Cx⟩
def rP (k:Nat)(A:RT->Prop)(mu:List D->Nat:=mu0):mC:=⟨k,G1 A,mu,noF,noT,muE0,Cx⟩
def rF (k:Nat)(A:FT->Prop):mC:=⟨k,noR,mu0,nR A,noT,muE0,Cx⟩
def rG (k:Nat)(C:Ctx->Prop)(mu:List D->St->Nat:=muE0):mC:=⟨k,noR,mu0,noF,W7 C,mu,Li C⟩
noncomputable def pick (r:D->Prop):D:=Classical.epsilon r
def lC {r:D->Prop}(h:∃d,r d):r (pick r):=Classical.epsilon_spec h
def Det (R:RT):Prop:=∀ds d d',R ds d->R ds d'->d=d'
def yb (R:FT):Prop:=∀d ds v s v' s',R d ds v s->R d ds v' s'->v=v'/\s=s'
def agM {A:RT->Prop}(h:A fun ds d=>A fun ds' d'=>ds'=ds->d=d'):Det (G1 A):=fun ds d d' h1 h2=>h2 _ (h1 _ h) rfl
def abH {A:FT->Prop}(h:A fun d ds v s=>A fun d' ds' v' s'=>d'=d->ds'=ds->v=v'/\s=s'):yb (nR A):=fun d ds v s v' s' h1 h2=>h2 _ (h1 _ h) rfl rfl
noncomputable def Ek (t:List (Nat×mC)):Ctx where
 pre n ds:=∃d,(lk t n mU).rel ds d
 val n ds:=pick ((lk t n mU).rel ds)
 tr n:=(lk t n mU).tr
 fp n d ds:=∃v s,(lk t n mU).relF d ds v s
 fv n d ds:=pick fun v=>∃s,(lk t n mU).relF d ds v s
 fs n d ds:=pick fun s=>∃v,(lk t n mU).relF d ds v s
 lo:=0
def YI (t:List (Nat×mC)):Rank:=⟨fun n=>(lk t n mU).key,fun n=>(lk t n mU).mu,fun n=>(lk t n mU).muE⟩
noncomputable abbrev under (t:List (Nat×mC))(k u:Nat):Ctx:=(Ek t).under (YI t) k u
def F3 (t:List (Nat×mC))(k u n:Nat):(((Ek t).under (YI t) k u).at n).bV:=
 fun f ds st K K' h hh=>⟨hh.1,(lk t f mU).mono ds st K K' h hh.2⟩
section
variable {t:List (Nat×mC)} {n k u:Nat} {ds:List D} {d v s:D} {st:St} {K:D->St->Prop}
def okp (hD:Det (lk t n mU).rel)(hk:(lk t n mU).key<k\/(lk t n mU).key=k/\(lk t n mU).mu ds<u)(h:(lk t n mU).rel ds d):(under t k u).pre n ds/\(under t k u).val n ds=d:=
 ⟨⟨hk,d,h⟩,hD _ _ _ (lC ⟨d,h⟩) h⟩
def okf (hD:yb (lk t n mU).relF)(hk:(lk t n mU).key<k)(h:(lk t n mU).relF d ds v s):(under t k u).fp n d ds/\(under t k u).fv n d ds=v/\(under t k u).fs n d ds=s:=by
 refine⟨⟨.inl hk,v,s,h⟩, ?_, ?_⟩
 .obtain⟨s',h'⟩:=lC (r:=fun v=>∃s,(lk t n mU).relF d ds v s) ⟨v,s,h⟩;exact(hD _ _ _ _ _ _ h' h).1
 .obtain⟨v',h'⟩:=lC (r:=fun s=>∃v,(lk t n mU).relF d ds v s) ⟨s,v,h⟩;exact(hD _ _ _ _ _ _ h' h).2
def Rn (hk:(lk t n mU).key<k\/(lk t n mU).key=k/\(lk t n mU).muE ds st<u)(h:(lk t n mU).tr ds st K):(under t k u).tr n ds st K:=⟨hk,h⟩
end
section
variable [cG] {P:Program} {ν:List (Nat×Nat)} {bL:List Nat} {Y:Ctx} {t:List (Nat×mC)} {fid n key:Nat}
def Km (P:Program)(ν:List (Nat×Nat))(bL:List Nat)(Y:Ctx)(fid:Nat)(ds:List D)(d:D):Prop:=Ok P ν bL Y->∀(x:X) (args:Array Value),args.size=ds.length->(∀i,i<ds.length->RD ν x (args.getD i undef) (ds.getD i .any))->aL ds=true->
  (∀b,x.I b->b<x.w.heap.size)->cG.gd x->jC P x (fun v x'=>nG x x'/\RD ν x' v d) ((callFunc fid args).run P x.w)
def Qf (P:Program)(ν:List (Nat×Nat))(bL:List Nat)(Y:Ctx)(fid:Nat)(d:D)(ds:List D)(vd new:D):Prop:=Ok P ν bL Y->∀(x:X) (f:Nat->Option bd) (args:Array Value) (l k:Nat),args.size=ds.length+1->
   RD ν x (args.getD 0 undef) (.ptr l k 0 0)->(∀i,i<ds.length->RD ν x (args.getD (i+1) undef) (ds.getD i .any))->fu ν x f->f l=some (.buf k [d])->d.aS=true->aL ds=true->
   jC P x (fun v x'=>Step x x'/\RD ν x' v vd/\fu ν x' (fun l'=>if l'=l then some (.buf k [new])else f l')/\x'.β=x.β) ((callFunc fid args).run P x.w)
def uu (P:Program)(ν:List (Nat×Nat))(bL:List Nat)(Y:Ctx)(fid:Nat)(ds:List D)(st:St)(K:D->St->Prop):Prop:=Ok P ν bL Y->∀(x:X) (args:Array Value),args.size=ds.length->(∀i,i<ds.length->RD ν x (args.getD i undef) (ds.getD i .any))->fu ν x (look st.m)->e7 st x->
  jC P x (fun v x'=>∃d st',K d st'/\Step x x'/\RD ν x' v d/\fu ν x' (look st'.m)/\e7 st' x') ((callFunc fid args).run P x.w)
structure Owe (P:Program)(ν:List (Nat×Nat))(bL:List Nat)(t:List (Nat×mC))(fid n:Nat):Prop where
 p:∀ds d,(lk t n mU).rel ds d->Km P ν bL (under t (lk t n mU).key ((lk t n mU).mu ds)) fid ds d
 f:yb (lk t n mU).relF/\∀d ds v s,(lk t n mU).relF d ds v s->Qf P ν bL (under t (lk t n mU).key ((lk t n mU).mu (d::ds))) fid d ds v s
 g:∀ds st K,(lk t n mU).tr ds st K->uu P ν bL (under t (lk t n mU).key ((lk t n mU).muE ds st)) fid ds st K
def okA (hsm:∀fid n,dH ν fid=some n->n<1000000)(hB:∀t,bL.contains (1000000000+t)=true->t=cG.tB)(hG:∀g,bL.contains (500000000+g)=true/\g<400000000->cG.gz g)(h:∀fid n,dH ν fid=some n->Owe P ν bL t fid n):Ok P ν bL (Ek t):=by
 refine ok_of (YI t) hsm hB hG (fun fid n hn ds hp hok=>(h fid n hn).p ds _ (lC hp) hok) (fun fid n hn _ d ds hp hok=>?_) (fun fid n hn ds st K htr hok=>(h fid n hn).g ds st K htr hok);obtain⟨v,s,hr⟩:=hp;obtain⟨hD,hf⟩:=(h fid n hn).f;have h2:(Ek t).fv n d ds=v/\(Ek t).fs n d ds=s:=by
  constructor
  .obtain⟨s',h'⟩:=lC (r:=fun v=>∃s,(lk t n mU).relF d ds v s) ⟨v,s,hr⟩;exact(hD _ _ _ _ _ _ h' hr).1
  .obtain⟨v',h'⟩:=lC (r:=fun s=>∃v,(lk t n mU).relF d ds v s) ⟨s,v,hr⟩;exact(hD _ _ _ _ _ _ h' hr).2
 rw[h2.1,h2.2];exact hf d ds v s hr hok
def Hf {Y:D->List D->Ctx}:yb noF/\∀d ds v s,noF d ds v s->Qf P ν bL (Y d ds) fid d ds v s:=⟨fun _ _ _ _ _ _ h=>h.elim,fun _ _ _ _ h=>h.elim⟩
def aM {A:RT->Prop}{mu:List D->Nat}(hr:lk t n mU=rP key A mu)(h:A fun ds d=>Km P ν bL (under t key (mu ds)) fid ds d):Owe P ν bL t fid n:=by
 refine⟨?_, ?_, ?_⟩<;>rw[hr]
 .exact fun ds d hd=>hd (fun ds d=>Km P ν bL (under t key (mu ds)) fid ds d) h
 .exact Hf
 .exact fun _ _ _ h=>h.elim
def OG {A:FT->Prop}(hr:lk t n mU=rF key A)(hD:yb (nR A))(h:A fun d ds v s=>Qf P ν bL (under t key 0) fid d ds v s):Owe P ν bL t fid n:=by
 refine⟨?_, ?_, ?_⟩<;>rw[hr]
 .exact fun _ _ h=>h.elim
 .exact⟨hD,fun d ds v s hd=>hd _ h⟩
 .exact fun _ _ _ h=>h.elim
def Td {Y:List D->St->Ctx}:Ko fun ds st K=>uu P ν bL (Y ds st) fid ds st K:=fun ds st K K' h hg hok x args hl ha hs hf=>(hg hok x args hl ha hs hf).mono fun v x' ⟨d,st',h1,h2⟩=>⟨d,st',h _ _ h1,h2⟩
def yG {C:Ctx->Prop}{mu:List D->St->Nat}(hr:lk t n mU=rG key C mu)(h:C (ae3 fun ds st K=>uu P ν bL (under t key (mu ds st)) fid ds st K)):Owe P ν bL t fid n:=by
 refine⟨?_, ?_, ?_⟩<;>rw[hr]
 .exact fun _ _ h=>h.elim
 .exact Hf
 .exact fun ds st K hd=>hd (fun ds st K=>uu P ν bL (under t key (mu ds st)) fid ds st K) Td h
def UF (P:Program)(ν:List (Nat×Nat))(bL:List Nat)(fid:Nat)(af:aj):Prop:=(P.funcs[fid]?).map (fun f=>(compile P ν bL f,f.name== "runtime.NumGoroutine"))=some (some af,false)
def UF.split {af:aj}(h:UF P ν bL fid af):∃fn,P.funcs[fid]? =some fn/\compile P ν bL fn=some af/\(fn.name== "runtime.NumGoroutine")=false:=by
 grind [UF]
def au {af:aj}{ds:List D}{d:D}(hmix:P.follows .mixedOrders=true)(hC:UF P ν bL fid af)(h1:ds.length=af.np)(h2:dn (Y.at 0) af.body (Nu af d) (fI af ds) ⟨0,[]⟩):Km P ν bL Y fid ds d:=by
 intro hok x args hl hargs hnl himm hgd;obtain⟨fn,hf,hc,hn⟩:=hC.split;obtain⟨body,c1,_⟩:=gp hc;exact .inr ⟨fid,args,gT hf hn (by rw[c1];rfl) args x.w,ab9 hok hmix hf hc hl hargs hnl himm hgd h1 h2⟩
def B5 {af:aj}{d:D}{ds:List D}{vd new:D}(k0:Nat)(hmix:P.follows .mixedOrders=true)(hC:UF P ν bL fid af)(h1:ds.length+1=af.np)(hk:d.cells.length=k0)
  (h2:dn (Y.at 1) af.body (Gl af k0 vd new) (fI af (.ptr 0 k0 0 0::ds)) ⟨1,[(0,.buf k0 [d])]⟩):Qf P ν bL Y fid d ds vd new:=by
 intro hok x f args l k hl h0 hargs hs hfl hd hnl;obtain⟨fn,hf,hc,hn⟩:=hC.split;obtain⟨body,c1,_⟩:=gp hc;have hkk:k=k0:=by
  generalize args.getD 0 undef=v0 at h0;cases h0 with
  |ptr _ _ _ _ b base tot at_ hβ hat=>
   obtain⟨p1,p2,c,T,fr,p3,p4,p5,p6⟩:=(hs.own l _ b base tot hfl hβ).2;have:=(p6 0 aF).1
   grind
 subst hkk;exact .inr ⟨fid,args,gT hf hn (by rw[c1];rfl) args x.w,ab7 hok hmix hf hc hl h0 hargs hs hfl hd hnl h1 h2⟩
def KZ {af:aj}{ds:List D}{st:St}{K:D->St->Prop}{σi:List (Nat×Nat)}{q:Nat}{m0:List (Nat×bd)}{cs:List D}{Q:D->List (Nat×bd)->Prop}(hmono:∀q,(Y.at q).bV)(hmix:P.follows .mixedOrders=true)(hC:UF P ν bL fid af)
  (h1:cs.length=ds.length) (h2:∀i,i<ds.length->RnD 0 σi (ds.getD i .any) (cs.getD i .any)) (h3:cs.length=af.np)
  (h4:gE 0 q σi=true) (h5:∀l i,(l,i)∈σi->look st.m l≠none) (h6:∀i b,look m0 i=some b->∃l b',(l,i)∈σi/\look st.m l=some b'/\p0 0 σi b' b)
  (h7:dn (Y.at q) af.body (uc af Q) (fI af cs) ⟨q,m0⟩) (h8:∀d m1,Q d m1->∃(σo:List (Nat×Nat)) (q1:Nat) (st':St) (vd':D),Fr σi σo q q1 m0 m1 st st'/\RnD 0 σo d vd'/\K vd' st'):uu P ν bL Y fid ds st K:=by
 intro hok x args hl hargs hs hfr;obtain⟨fn,hf,hc,hn⟩:=hC.split;obtain⟨body,c1,_⟩:=gp hc;refine .inr ⟨fid,args,gT hf hn (by rw[c1];rfl) args x.w, ?_⟩;refine Calls.mono (ab8 (K:=K) hok hmix hf hc hl hargs hs hfr h1 h2 h3 h4 h5 h6 (hY (hmono q) _ _ _ _ _ (fun e env st1 h=>?_) h7)) fun e w' he=>?_
 .obtain⟨g1,g2,m1,g3,g4⟩:=h
  grind
 grind
end
end
theorem kF {α:Type}{f:α->D}(hf:∀x y,f x=f y↔x=y):∀a b:List α,a.map f=b.map f↔a=b
 |[],[]=>aF
 |[],_::_=>aF
 |_::_,[]=>aF
 |x::a,y::b=>by simp only[List.map_cons,sE,hf,kF hf a b]
def iNat (a b:Nat):((a:Nat):Int)=(b:Nat)↔a=b:=ae
theorem iU8 (x y:UInt8):((x.toNat:Nat):Int)=(y.toNat:Nat)↔x=y:=(iNat _ _).trans oZ
def WQ (a b:List av):a.map D.str=b.map D.str↔a=b:=kF (fun _ _=>aF) a b
def Tj (a b:List Int):a.map (D.int .i64)=b.map (D.int .i64)↔a=b:=kF (fun _ _=>aF) a b
def iByt (a b:av):(a.map fun c=>D.int .u8 c.toNat)=(b.map fun c=>D.int .u8 c.toNat)↔a=b:=by grind [kF,iU8]
def iVer (a b:bX):bX.D a=bX.D b↔a=b:=by cases a;cases b;simp[bX.D]
end Go.Abs
