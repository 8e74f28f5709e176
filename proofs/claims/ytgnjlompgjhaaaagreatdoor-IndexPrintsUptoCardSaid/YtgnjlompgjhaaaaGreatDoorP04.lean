/- A part of the proofs. -/
import Derived.IntWalk
import Derived.KernelRfl
import Derived.Lib.TrimUEq
import Derived.Test.YtgnjlompgjhaaaaGreatDoorP03
set_option linter.all false
set_option maxRecDepth 4000
namespace Go.Abs
section
section
variable {Y:Ctx} {Q Q':Ex->List bI->St->Prop} {env:List bI} {st:St}
def Ctx.bd (Y:Ctx):Prop:=∀f ds st (K K':D->St->Prop),(∀d st,K d st->K' d st)->Y.tr f ds st K->Y.tr f ds st K'
def jP {draw:Bool}{K K':List bI->St->Prop}(h:∀vs st,K vs st->K' vs st)(htr:Y.bd):∀(l:List GI)(env vs:List bI)(st:St),iy Y draw l env vs st K->iy Y draw l env vs st K'
 |[],env,vs,st,hh=>h _ _ hh
 |⟨i,g⟩::r,env,vs,st,hh=>by
  cases hcm:i.dp with
  |true=>
   cases i<;>simp only[aJ.dp]at hcm<;>try(cases hcm;done)
   ·exact⟨hh.1,fun hf=>⟨(hh.2.1 hf).1,htr _ _ _ _ _ (fun d st' ⟨h1,h2⟩=>⟨h1,jP h htr r _ _ _ h2⟩) (hh.2.1 hf).2⟩,fun hf=>jP h htr r _ _ _ (hh.2.2 hf)⟩
   ·rename_i fv args;simp only[iy]at hh⊢;refine⟨hh.1,hh.2.1,hh.2.2.1, ?_⟩;have h3:=hh.2.2.2;cases hd:(Src.ev env vs fv).d<;>simp only[hd]at h3⊢;exact htr _ _ _ _ _ (fun d st' ⟨h1,h2⟩=>⟨h1,jP h htr r _ _ _ h2⟩) h3
  |false=>
   cases hf:i.sL draw g with
   |true=>
    rw[xi hcm hf]at hh⊢;exact⟨hh.1,fun e=>⟨(hh.2.1 e).1,jP h htr r _ _ _ (hh.2.1 e).2⟩,fun e=>jP h htr r _ _ _ (hh.2.2 e)⟩
   |false=>
    rw[kZ hcm hf]at hh⊢;exact⟨hh.1,hh.2.1,fun ha=>(hh.2.2 ha).imp fun _ h2=>⟨h2.1,jP h htr r _ _ _ h2.2⟩⟩
def Gh.mono {lo:Nat}{p q:List bI->St->Prop}(h:∀env st,p env st->q env st):Gh lo p env st->Gh lo q env st
 |⟨e,s,h1,h2⟩=>⟨e,s,h1,h _ _ h2⟩
def Gh.intro {lo:Nat}{p:List bI->St->Prop}(h:p env st):Gh lo p env st:=⟨env,st,.refl _ _,h⟩
def fJ (htr:Y.bd):∀(a:AC)(Q Q':Ex->List bI->St->Prop)(env:List bI)(st:St),(∀e env st,Q e env st->Q' e env st)->bH Y a Q env st->bH Y a Q' env st
 | .reg draw ins cm,Q,Q',env,st,h,hh=>Gh.mono (fun env st h2=>jP (fun vs st=>h _ _ _) htr _ _ _ _ h2) hh
 | .seq a b,Q,Q',env,st,h,hh=>Gh.mono (fun env st h2=>fJ htr a _ _ env st (fun e env st h2=>by
   cases e with
   |normal=>exact fJ htr b Q Q' env st h h2
   |exit id=>exact h _ _ _ h2
   |ret=>exact h _ _ _ h2) h2) hh
 | .cond c a b,Q,Q',env,st,h,hh=>Gh.mono (fun env st h2=>by
  refine⟨h2.1, ?_⟩;have:=h2.2;cases hd:(c.ev env []).d<;>simp only[hd]at this⊢;exact⟨fun ht=>fJ htr a Q Q' env st h (this.1 ht),fun ht=>fJ htr b Q Q' env st h (this.2 ht)⟩) hh
 | .block id a,Q,Q',env,st,h,hh=>Gh.mono (fun env st h2=>fJ htr a _ _ env st (fun e env st h2=>by
   cases e with
   |normal=>exact h _ _ _ h2
   |exit j=>simp only at h2⊢;split<;>rename_i hj<;>simp only[hj,br,bn]at h2<;>exact h _ _ _ h2
   |ret=>exact h _ _ _ h2) h2) hh
 | .loop a,Q,Q',env,st,h,hh=>Gh.mono (fun env st h2=>by
  obtain⟨I,μ,h1,h2⟩:=h2;refine⟨I,μ,h1,fun env st hi=>fJ htr a _ _ env st (fun e env' st' h3=>?_) (h2 env st hi)⟩;cases e with
  |normal=>exact h3
  |exit id=>exact h _ _ _ h3
  |ret=>exact h _ _ _ h3) hh
 | .exit id,Q,Q',env,st,h,hh=>Gh.mono (fun _ _=>h _ _ _) hh
 | .ret,Q,Q',env,st,h,hh=>Gh.mono (fun _ _=>h _ _ _) hh
 | .skip,Q,Q',env,st,h,hh=>Gh.mono (fun _ _=>h _ _ _) hh
def hX {a:AC}{env':List bI}{st':St}(g:bj Y.lo env st env' st')(h:bH Y a Q env' st'):bH Y a Q env st:=by
 cases a<;>(obtain⟨e2,s2,g2,h2⟩:=h;exact⟨e2,s2,.trans _ _ _ _ _ _ g g2,h2⟩)
def BQ (Y:Ctx)(id:Nat)(r:AC)(Q:Ex->List bI->St->Prop):Ex->List bI->St->Prop:=fun e env st=>match e with
 | .normal=>bH Y r Q env st
 | .exit j=>if j=id then bH Y r Q env st else Q (.exit j) env st
 | .ret=>Q .ret env st
def LQ (Y:Ctx)(id:Nat)(r:AC)(next:List bI->St->Prop)(Q:Ex->List bI->St->Prop):Ex->List bI->St->Prop:=fun e env st=>match e with
 | .normal=>next env st
 | .exit j=>if j=id then bH Y r Q env st else Q (.exit j) env st
 | .ret=>Q .ret env st
def BQ.normal {id:Nat}{r:AC}(h:bH Y r Q env st):BQ Y id r Q .normal env st:=h
def BQ.out {id:Nat}{r:AC}(h:bH Y r Q env st):BQ Y id r Q (.exit id) env st:=by simp only[BQ,br];exact h
def BQ.other {id j:Nat}{r:AC}(hj:(j==id)=false)(h:Q (.exit j) env st):BQ Y id r Q (.exit j) env st:=by simp only[BQ,ai (by simpa using hj)];exact h
def BQ.ret {id:Nat}{r:AC}(h:Q .ret env st):BQ Y id r Q .ret env st:=h
def LQ.normal {id:Nat}{r:AC}{next:List bI->St->Prop}(h:next env st):LQ Y id r next Q .normal env st:=h
def LQ.out {id:Nat}{r:AC}{next:List bI->St->Prop}(h:bH Y r Q env st):LQ Y id r next Q (.exit id) env st:=by simp only[LQ,br];exact h
def LQ.other {id j:Nat}{r:AC}{next:List bI->St->Prop}(hj:(j==id)=false)(h:Q (.exit j) env st):LQ Y id r next Q (.exit j) env st:=by simp only[LQ,ai (by simpa using hj)];exact h
def LQ.ret {id:Nat}{r:AC}{next:List bI->St->Prop}(h:Q .ret env st):LQ Y id r next Q .ret env st:=h
def IM {a b c:AC}(h:bH Y (.seq a (.seq b c)) Q env st):bH Y (.seq (.seq a b) c) Q env st:=by
 obtain⟨e1,s1,g1,h1⟩:=h;refine⟨e1,s1,g1,e1,s1,.refl _ _, ?_⟩;have:∀(Q1 Q2:Ex->List bI->St->Prop),Q1=Q2->bH Y a Q1 e1 s1->bH Y a Q2 e1 s1:=fun _ _ e h=>e▸h
 refine this _ _ ?_ h1;funext e env st;cases e with
 |normal=>exact propext ⟨fun⟨e2,s2,g2,h2⟩=>hX g2 h2,fun h=>⟨_,_,.refl _ _,h⟩⟩
 |exit id=>rfl
 |ret=>rfl
def CH {b:AC}(h:bH Y b Q env st):bH Y (.seq .skip b) Q env st:=.intro (.intro h)
def wp_skip (h:Q .normal env st):bH Y .skip Q env st:=.intro h
def FZ {b:AC}(h:Q .ret env st):bH Y (.seq .ret b) Q env st:=.intro (.intro h)
def wp_ret (h:Q .ret env st):bH Y .ret Q env st:=.intro h
def CG {id:Nat}{b:AC}(h:Q (.exit id) env st):bH Y (.seq (.exit id) b) Q env st:=.intro (.intro h)
def wp_exit {id:Nat}(h:Q (.exit id) env st):bH Y (.exit id) Q env st:=.intro h
def A5 {id:Nat}{a r:AC}(h:bH Y a (BQ Y id r Q) env st)(htr:Y.bd):bH Y (.seq (.block id a) r) Q env st:=by
 refine .intro (.intro (fJ htr a _ _ _ _ (fun e env st h=>?_) h));cases e with
 |normal=>exact h
 |exit j=>simp only[BQ]at h⊢;split<;>rename_i hj<;>simp only[hj,br,bn]at h<;>exact h
 |ret=>exact h
def wp_block {id:Nat}{a:AC}(h:bH Y a (BQ Y id .skip Q) env st)(htr:Y.bd)(hQ:∀e env env' st st',bj Y.lo env st env' st'->Q e env' st'->Q e env st):bH Y (.block id a) Q env st:=by
 refine .intro (fJ htr a _ _ _ _ (fun e env st h=>?_) h);have hs:∀env st,bH Y .skip Q env st->Q .normal env st:=fun env st ⟨e2,s2,g2,h2⟩=>hQ _ _ _ _ _ g2 h2
 cases e with
 |normal=>exact hs _ _ h
 |exit j=>simp only[BQ]at h⊢;split<;>rename_i hj<;>simp only[hj,br,bn]at h<;>first|exact hs _ _ h|exact h
 |ret=>exact h
def CQ (next:List bI->St->Prop)(Q:Ex->List bI->St->Prop):Ex->List bI->St->Prop:=fun e env st=>match e with
 | .normal=>next env st
 | .exit j=>Q (.exit j) env st
 | .ret=>Q .ret env st
def CQ.normal {next:List bI->St->Prop}(h:next env st):CQ next Q .normal env st:=h
def CQ.other {next:List bI->St->Prop}{j:Nat}(h:Q (.exit j) env st):CQ next Q (.exit j) env st:=h
def CQ.ret {next:List bI->St->Prop}(h:Q .ret env st):CQ next Q .ret env st:=h
def A9 (id:Nat)(Q:Ex->List bI->St->Prop):Ex->List bI->St->Prop:=fun e env st=>match e with
 | .normal=>Q .normal env st
 | .exit j=>if j=id then Q .normal env st else Q (.exit j) env st
 | .ret=>Q .ret env st
def A9.normal {id:Nat}(h:Q .normal env st):A9 id Q .normal env st:=h
def A9.out {id:Nat}(h:Q .normal env st):A9 id Q (.exit id) env st:=by simp only[A9,br];exact h
def A9.other {id j:Nat}(hj:(j==id)=false)(h:Q (.exit j) env st):A9 id Q (.exit j) env st:=by simp only[A9,ai (by simpa using hj)];exact h
def A9.ret {id:Nat}(h:Q .ret env st):A9 id Q .ret env st:=h
def FY {id:Nat}{a:AC}(h:bH Y a (A9 id Q) env st)(htr:Y.bd):bH Y (.block id a) Q env st:=by
 refine .intro (fJ htr a _ _ _ _ (fun e env st h=>?_) h);cases e with
 |normal=>exact h
 |exit j=>simp only[A9]at h⊢;split<;>rename_i hj<;>simp only[hj,br,bn]at h<;>exact h
 |ret=>exact h
def y0 (htr:Y.bd){a b:AC}{ι:Type}(F:ι->List bI)(G:ι->List (Nat×bK))(c:Nat)(P:ι->Prop)
  (h1:bH Y a (CQ (fun env' st'=>∃j,P j/\bj Y.lo env' st' (F j) ⟨c,G j⟩) Q) env st)
  (h2:∀i,P i->bH Y b Q (F i) ⟨c,G i⟩):bH Y (.seq a b) Q env st:=by
 refine .intro (fJ htr a _ _ _ _ (fun e env st h=>?_) h1);cases e with
 |normal=>obtain⟨j,hj,g⟩:=h;exact hX g (h2 j hj)
 |exit j=>exact h
 |ret=>exact h
def bh (htr:Y.bd){a r:AC}{id:Nat}{ι:Type}(F:ι->List bI)(G:ι->List (Nat×bK))(c:Nat)(P:ι->Prop)(μ:ι->Nat)(i0:ι)
  (hP:P i0) (h0:bj Y.lo env st (F i0) ⟨c,G i0⟩)
  (hr:∀i,P i->bH Y a (LQ Y id r (fun env' st'=>∃j,P j/\μ j<μ i/\bj Y.lo env' st' (F j) ⟨c,G j⟩) Q) (F i) ⟨c,G i⟩):bH Y (.seq (.block id (.loop a)) r) Q env st:=by
 let W:List bI->St->Nat->Prop:=fun env st k=>∃i,env=F i/\st=⟨c,G i⟩/\P i/\μ i=k
 have least:∀env st,(∃k,W env st k)->∃k,W env st k/\∀k',W env st k'->k<=k':=by
  intro env st ⟨k,hk⟩;induction k using Nat.strongRecOn with
  |_ k ih=>
   by_cases h:∃k',k'<k/\W env st k'
   ·obtain⟨k',h1,h2⟩:=h;exact ih k' h1 h2
   ·exact⟨k,hk,fun k' hk'=>by
     rcases eJ k' k with h1|h1
     ·exact absurd ⟨k',h1,hk'⟩ h
     ·exact h1⟩
 open Classical in
 refine .intro (.intro ⟨_,_,h0,fun env st=>∃k,W env st k,fun env st=>if h:∃k,W env st k then Classical.choose (least env st h)else 0,⟨_,i0,rfl,rfl,hP,rfl⟩,fun env st hk=>?_⟩);obtain⟨⟨i,e1,e2,e3,e5⟩,hmin⟩:=Classical.choose_spec (least env st hk);have:=hr i e3;rw[<-e1,<-e2]at this;refine fJ htr a _ _ env st ?_ this
 ·intro e env' st' h;cases e with
  |normal=>
   obtain⟨j,b3,b5,g⟩:=h;have hW:W (F j) ⟨c,G j⟩ (μ j):=⟨j,rfl,rfl,b3,rfl⟩;refine⟨F j,⟨c,G j⟩,g,⟨_,hW⟩, ?_⟩;show(if h:∃k,W (F j) ⟨c,G j⟩ k then Classical.choose (least _ _ h)else 0)<(if h:∃k,W env st k then Classical.choose (least env st h)else 0);rw[dif_pos ⟨_,hW⟩,dif_pos hk,<-e5];exact Nat.lt_of_le_of_lt ((Classical.choose_spec (least _ _ ⟨_,hW⟩)).2 _ hW) b5
  |exit j=>simp only[LQ]at h⊢;split<;>rename_i hj<;>simp only[hj,br,bn]at h<;>exact h
  |ret=>exact h
def Bb (id:Nat)(next:List bI->St->Prop)(Q:Ex->List bI->St->Prop):Ex->List bI->St->Prop:=fun e env st=>match e with
 | .normal=>next env st
 | .exit j=>if j=id then Q .normal env st else Q (.exit j) env st
 | .ret=>Q .ret env st
def Bb.normal {id:Nat}{next:List bI->St->Prop}(h:next env st):Bb id next Q .normal env st:=h
def Bb.out {id:Nat}{next:List bI->St->Prop}(h:Q .normal env st):Bb id next Q (.exit id) env st:=by simp only[Bb,br];exact h
def Bb.other {id j:Nat}{next:List bI->St->Prop}(hj:(j==id)=false)(h:Q (.exit j) env st):Bb id next Q (.exit j) env st:=by simp only[Bb,ai (by simpa using hj)];exact h
def Bb.ret {id:Nat}{next:List bI->St->Prop}(h:Q .ret env st):Bb id next Q .ret env st:=h
def lW (htr:Y.bd){a:AC}{id:Nat}{ι:Type}(F:ι->List bI)(G:ι->List (Nat×bK))(c:Nat)(P:ι->Prop)(μ:ι->Nat)(i0:ι)
  (hP:P i0) (h0:bj Y.lo env st (F i0) ⟨c,G i0⟩)
  (hr:∀i,P i->bH Y a (Bb id (fun env' st'=>∃j,P j/\μ j<μ i/\bj Y.lo env' st' (F j) ⟨c,G j⟩) Q) (F i) ⟨c,G i⟩):bH Y (.block id (.loop a)) Q env st:=by
 let W:List bI->St->Nat->Prop:=fun env st k=>∃i,env=F i/\st=⟨c,G i⟩/\P i/\μ i=k
 have least:∀env st,(∃k,W env st k)->∃k,W env st k/\∀k',W env st k'->k<=k':=by
  intro env st ⟨k,hk⟩;induction k using Nat.strongRecOn with
  |_ k ih=>
   by_cases h:∃k',k'<k/\W env st k'
   ·obtain⟨k',h1,h2⟩:=h;exact ih k' h1 h2
   ·exact⟨k,hk,fun k' hk'=>by
     rcases eJ k' k with h1|h1
     ·exact absurd ⟨k',h1,hk'⟩ h
     ·exact h1⟩
 open Classical in
 refine .intro ⟨_,_,h0,fun env st=>∃k,W env st k,fun env st=>if h:∃k,W env st k then Classical.choose (least env st h)else 0,⟨_,i0,rfl,rfl,hP,rfl⟩,fun env st hk=>?_⟩;obtain⟨⟨i,e1,e2,e3,e5⟩,hmin⟩:=Classical.choose_spec (least env st hk);have:=hr i e3;rw[<-e1,<-e2]at this;refine fJ htr a _ _ env st ?_ this
 ·intro e env' st' h;cases e with
  |normal=>
   obtain⟨j,b3,b5,g⟩:=h;have hW:W (F j) ⟨c,G j⟩ (μ j):=⟨j,rfl,rfl,b3,rfl⟩;refine⟨F j,⟨c,G j⟩,g,⟨_,hW⟩, ?_⟩;show(if h:∃k,W (F j) ⟨c,G j⟩ k then Classical.choose (least _ _ h)else 0)<(if h:∃k,W env st k then Classical.choose (least env st h)else 0);rw[dif_pos ⟨_,hW⟩,dif_pos hk,<-e5];exact Nat.lt_of_le_of_lt ((Classical.choose_spec (least _ _ ⟨_,hW⟩)).2 _ hW) b5
  |exit j=>simp only[Bb]at h⊢;split<;>rename_i hj<;>simp only[hj,br,bn]at h<;>exact h
  |ret=>exact h
def nth:List bI->Nat->bI
 |[],_=>.un
 |a::_,0=>a
 |_::r,n+1=>nth r n
def uJ:∀(l:List bI)(n:Nat),l.getD n .un=nth l n
 |[],n=>by simp[nth]
 |a::_,0=>by simp[nth]
 |_::r,n+1=>by simpa[nth]using uJ r n
def cv (env rs:List bI):Src->bI
 | .s n=>nth env n
 | .l p=>bif Nat.blt p rs.length then nth rs (rs.length-1-p)else .un
 | .c d=>⟨true,d⟩
def kM (env rs:List bI):Src.ev env rs.reverse=cv env rs:=by
 funext s;cases s with
 |s n=>exact uJ env n
 |l p=>
  simp only[Src.ev,cv];cases h:Nat.blt p rs.length with
  |true=>
   have:p<rs.length:=by simp[Nat.blt]at h;omega
   rw[cond_true,<-uJ];simp only[List.getD];rw[List.getElem?_reverse this]
  |false=>
   have:¬p<rs.length:=by intro e;have:Nat.blt p rs.length=true:=by {simp[Nat.blt];omega};rw[this]at h;cases h
   rw[cond_false];simp[List.getD,List.getElem?_eq_none (show rs.reverse.length<=p by simp;omega)]
 |c d=>rfl
def aG (Y:Ctx)(draw:Bool)(l:List GI)(env rs:List bI)(nx:Nat)(m:List (Nat×bK))(K:List bI->St->Prop):Prop:=iy Y draw l env rs.reverse ⟨nx,m⟩ K
def GH (env rs:List bI):List (Nat×Nat)->List bI
 |[]=>env
 |(s,p)::r=>GH (env.set s (cv [] rs (.l p))) rs r
def Bu (rs:List bI):∀(cm:List (Nat×Nat))(env:List bI),gJ env rs.reverse cm=GH env rs cm
 |[],env=>rfl
 |(s,p)::r,env=>by
  simp only[gJ,GH];rw[Bu rs r,<-congrFun (kM [] rs) (.l p)];rfl
def ak {draw:Bool}{ins:List GI}{cm:List (Nat×Nat)}{b:AC}{nx:Nat}{m:List (Nat×bK)}
  (h:aG Y draw ins env [] nx m (fun vs st'=>bH Y b Q (gJ env vs cm) st')):bH Y (.seq (.reg draw ins cm) b) Q env ⟨nx,m⟩:=.intro (.intro h)
def NF {draw:Bool}{ins:List GI}{cm:List (Nat×Nat)}{nx:Nat}{m:List (Nat×bK)}
  (h:aG Y draw ins env [] nx m (fun vs st'=>Q .normal (gJ env vs cm) st')):bH Y (.reg draw ins cm) Q env ⟨nx,m⟩:=.intro h
def Kf {draw:Bool}{cm:List (Nat×Nat)}{b:AC}{nx nx':Nat}{m:List (Nat×bK)}{rs gG env':List bI}(h:bH Y b Q env' ⟨nx',m⟩)
  (he:GH env rs cm=env':=by exact rfl) (hn:nx+rs.length=nx':=by exact vO):aG Y draw [] gG rs nx m (fun vs st'=>bH Y b Q (gJ env vs cm) st'):=by
 subst he;subst hn;simp only[aG,iy,List.length_reverse,Bu];exact h
def Kg {draw:Bool}{cm:List (Nat×Nat)}{nx nx':Nat}{m:List (Nat×bK)}{rs gG env':List bI}(h:Q .normal env' ⟨nx',m⟩)
  (he:GH env rs cm=env':=by exact rfl) (hn:nx+rs.length=nx':=by exact vO):aG Y draw [] gG rs nx m (fun vs st'=>Q .normal (gJ env vs cm) st'):=by
 subst he;subst hn;simp only[aG,iy,List.length_reverse,Bu];exact h
def aw {c:Src}{a b r:AC}{t:Bool}(h1:t=true->bH Y (.seq a r) Q env st)(h2:t=false->bH Y (.seq b r) Q env st)(hc:cv env [] c=⟨true,.bool t⟩:=by exact rfl):bH Y (.seq (.cond c a b) r) Q env st:=by
 have hc':c.ev env []=⟨true,.bool t⟩:=by rw[<-hc,<-kM];rfl
 refine .intro (.intro ?_);simp only[hc'];refine⟨trivial,fun ht=>?_,fun ht=>?_⟩
 ·obtain⟨e,s,g,h⟩:=h1 ht;exact hX g h
 ·obtain⟨e,s,g,h⟩:=h2 ht;exact hX g h
def wp_cond {c:Src}{a b:AC}{t:Bool}(h1:t=true->bH Y a Q env st)(h2:t=false->bH Y b Q env st)(hc:cv env [] c=⟨true,.bool t⟩:=by exact rfl):bH Y (.cond c a b) Q env st:=by
 have hc':c.ev env []=⟨true,.bool t⟩:=by rw[<-hc,<-kM];rfl
 refine .intro ?_;simp only[hc'];exact⟨trivial,h1,h2⟩
def bj.to {lo c nx nx':Nat}{env env':List bI}{m m':List (Nat×bK)}(σ:List (Nat×Nat))(hc:nx'=c)(h:gY lo c σ=true)(he:c9 lo σ env env')(hm:ba lo c σ m m'):bj lo env ⟨nx,m⟩ env' ⟨nx',m'⟩:=by
 subst hc;exact .ren σ nx' env env' nx m m' h he hm
def cA {α β:Type}(q:α->β)(xs:List α):(xs.map q).take xs.length=xs.map q:=dQ aT
def fQ {α:Type}{q:α->D}(h:∀x,(q x).bG=true):∀xs:List α,bt (xs.map q)=true
 |[]=>rfl
 |a::r=>by simp only[List.map_cons,bt,h a,fQ h r,jr]
def bj.fz {lo:Nat}{env env' env2:List bI}{nx k:Nat}{m m':List (Nat×bK)}{es:List D}{st2:St}(l:Nat)(hl:look m l=some (.buf k es))(hn:bt es=true)(he:tE l k es env=env')(hm:wc l k es (dH m l)=m')(h:bj lo env' ⟨nx,m'⟩ env2 st2):bj lo env ⟨nx,m⟩ env2 st2:=by
 have:=bj.F2 (lo:=lo) l env ⟨nx,m⟩;simp only[Abs.F2,hl,hn,cond_true,he,hm]at this;exact .trans _ _ _ _ _ _ this h
def lI {a:AC}{nx k:Nat}{m m':List (Nat×bK)}{es:List D}{env env':List bI}(l:Nat)(h:bH Y a Q env' ⟨nx,m'⟩)(hl:look m l=some (.buf k es):=by exact rfl)(hn:bt es=true:=by first|exact rfl|exact fQ (fun _=>rfl) _)
  (he:tE l k es env=env':=by simp only[tE,mb,rz,wc,zy,dH,Nat.reduceEqDiff,br,bn,iM,ed,dW,iK,iL,cT,cI,aY,dx,cA,reduceCtorEq,ay,az,Nat.reduceAdd,Nat.reduceLeDiff];exact rfl)
  (hm:wc l k es (dH m l)=m':=by simp only[tE,mb,rz,wc,zy,dH,Nat.reduceEqDiff,br,bn,iM,ed,dW,iK,iL,cT,cI,aY,dx,cA,reduceCtorEq,ay,az,Nat.reduceAdd,Nat.reduceLeDiff];exact rfl):bH Y a Q env ⟨nx,m⟩:=
 hX (bj.fz l hl hn he hm (.refl _ _)) h
def Mk.rf:∀e:List bI,Mk e e
 |[]=>trivial
 |_::r=>⟨⟨rfl,.refl _⟩,Mk.rf r⟩
def D9.nil:D9 [] []:=⟨rfl,fun _=>.refl _⟩
def D9.cons {x y:D}{a b:List D}(h:tP x y)(h2:D9 a b):D9 (x::a) (y::b):=⟨by simp[h2.1],fun i=>by cases i with
 |zero=>exact h
 |succ i=>simpa using h2.2 i⟩
def D9.rf (a:List D):D9 a a:=⟨rfl,fun _=>.refl _⟩
def D9.map {α:Type}{q p:α->D}:∀{xs:List α},(∀x∈xs,tP (q x) (p x))->D9 (xs.map q) (xs.map p)
 |[],_=>.nil
 |x::r,h=>.cons (h x (.head _)) (D9.map fun y hy=>h y (.tail _ hy))
def tP.ag {a b:List D}(h:D9 a b):tP (.agg a) (.agg b):=.agg _ _ h.1 h.2
def tP.ss {k:Nat}{a b:List D}(h:D9 a b):tP (.sl k a) (.sl k b):=.sl _ _ _ h.1 h.2
def Jh.nil {m:List (Nat×bK)}:Jh m []:=trivial
def Jh.id {m r:List (Nat×bK)}{l:Nat}{b:bK}(h:look m l=some b)(h2:Jh m r):Jh m ((l,b)::r):=⟨⟨b,h,by cases b<;>first|exact⟨rfl,.rf _⟩|exact rfl⟩,h2⟩
def c9.nil {lo:Nat}{σ:List (Nat×Nat)}:c9 lo σ [] []:=trivial
def c9.un {lo:Nat}{σ:List (Nat×Nat)}{a:bI}{r s:List bI}(h:c9 lo σ r s):c9 lo σ (a::r) (.un::s):=⟨.inr rfl,h⟩
def c9.eq {lo:Nat}{σ:List (Nat×Nat)}{ok:Bool}{d d':D}{r s:List bI}(hd:sj lo σ d=some d')(h:c9 lo σ r s):c9 lo σ (⟨ok,d⟩::r) (⟨ok,d'⟩::s):=⟨.inl ⟨rfl,.inr (.inl hd)⟩,h⟩
def c9.nl {lo:Nat}{σ:List (Nat×Nat)}{ok:Bool}{d d':D}{r s:List bI}(hd:d'=d)(hn:d.bG=true)(h:c9 lo σ r s):c9 lo σ (⟨ok,d⟩::r) (⟨ok,d'⟩::s):=⟨.inl ⟨rfl,.inl ⟨hd,hn⟩⟩,h⟩
def c9.ni {lo:Nat}{σ:List (Nat×Nat)}{ok:Bool}{d d':D}{r s:List bI}(hd:rD d d')(h:c9 lo σ r s):c9 lo σ (⟨ok,d⟩::r) (⟨ok,d'⟩::s):=⟨.inl ⟨rfl,.inr (.inr hd)⟩,h⟩
section
variable {lo c:Nat} {σ:List (Nat×Nat)} {m r:List (Nat×bK)}
def ba.nil:ba lo c σ m []:=trivial
def ba.nl {k l':Nat}{es es':List D}(l:Nat)(hl:mh lo σ l=some l')(hm:look m l=some (.buf k es))(he:es'=es)(hn:bt es=true)(h:ba lo c σ m r):ba lo c σ m ((l',.buf k es')::r):=
 ⟨.inl ⟨l,_,hl,hm,rfl,.inl ⟨he,hn⟩⟩,h⟩
def ba.eq {k l':Nat}{es es':List D}(l:Nat)(hl:mh lo σ l=some l')(hm:look m l=some (.buf k es))(he:qn lo σ es=some es')(h:ba lo c σ m r):ba lo c σ m ((l',.buf k es')::r):=
 ⟨.inl ⟨l,_,hl,hm,rfl,.inr (.inl he)⟩,h⟩
def ba.ni {k l':Nat}{es es':List D}(l:Nat)(hl:mh lo σ l=some l')(hm:look m l=some (.buf k es))(he:Bk es es')(h:ba lo c σ m r):ba lo c σ m ((l',.buf k es')::r):=
 ⟨.inl ⟨l,_,hl,hm,rfl,.inr (.inr he)⟩,h⟩
def ba.gN {k l':Nat}{es':List D}(hl:mh lo σ l'=some l')(hm:look m l'=some (.buf k es'))(hn:bt es'=true)(h:ba lo c σ m r):ba lo c σ m ((l',.buf k es')::r):=.nl l' hl hm rfl hn h
def ba.kU {k l':Nat}{es' es:List D}(hl:mh lo σ l'=some l')(hm:look m l'=some (.buf k es))(he:qn lo σ es=some es')(h:ba lo c σ m r):ba lo c σ m ((l',.buf k es')::r):=.eq l' hl hm he h
def ba.mt {k l':Nat}{es':List D}(h1:Nat.ble lo l'=true)(h2:Nat.blt l' c=true)(h3:σ.all (fun p=>!Nat.beq p.2 l')=true)(he:es'=[])(h:ba lo c σ m r):ba lo c σ m ((l',.buf k es')::r):=
 ⟨.inr ⟨h1,h2,h3,k,by rw[he]⟩,h⟩
def ba.it {l' p p':Nat}{s s':List UInt8}(l:Nat)(hl:mh lo σ l=some l')(hm:look m l=some (.iter s p))(hs:s'=s)(hp:p'=p)(h:ba lo c σ m r):ba lo c σ m ((l',.iter s' p')::r):=
 ⟨.inl ⟨l,_,hl,hm,hs,hp⟩,h⟩
def ba.lK {l' p p':Nat}{s s':List UInt8}(hl:mh lo σ l'=some l')(hm:look m l'=some (.iter s p))(hs:s'=s)(hp:p'=p)(h:ba lo c σ m r):ba lo c σ m ((l',.iter s' p')::r):=.it l' hl hm hs hp h
def ba.rw {l':Nat}{s s':List UInt8}(l:Nat)(hl:mh lo σ l=some l')(hm:look m l=some (.row s))(hs:s'=s)(h:ba lo c σ m r):ba lo c σ m ((l',.row s')::r):=
 ⟨.inl ⟨l,_,hl,hm,hs⟩,h⟩
def ba.bl {l' l1 l2 n n':Nat}{u u':Bool}(l:Nat)(hl:mh lo σ l=some l')(hm:look m l=some (.bld (some l1) n u))(h1:mh lo σ l1=some l2)(hn:n'=n)(hu:u'=u)(h:ba lo c σ m r):ba lo c σ m ((l',.bld (some l2) n' u')::r):=
 ⟨.inl ⟨l,_,hl,hm,⟨l2,h1,rfl⟩,hn,hu⟩,h⟩
def ba.b0 {l' n n':Nat}{u u':Bool}(l:Nat)(hl:mh lo σ l=some l')(hm:look m l=some (.bld none n u))(hn:n'=n)(hu:u'=u)(h:ba lo c σ m r):ba lo c σ m ((l',.bld none n' u')::r):=
 ⟨.inl ⟨l,_,hl,hm,rfl,hn,hu⟩,h⟩
end
mutual
def xC (m:List (Nat×bK)):Sh->D->D
 | .a,d=>match d with
  | .aV=>.sl 0 []
  |d=>d
 | .sl k cs,d=>match d with
  | .aV=>.sl k []
  | .own l k' i c=>.sl k' ((((bf m l).drop i).take c).map fun e=>match e with
   | .agg ds=>.agg (xL m cs ds)
   |e=>xH m cs e)
  |d=>d
 | .pt cs,d=>match d with
  | .ptr l k i o=>.ref k ((bf m l).map fun e=>match e with
   | .agg ds=>.agg (xL m cs ds)
   |e=>xH m cs e) i o
  |d=>d
def xH (m:List (Nat×bK)):List Sh->D->D
 |[],d=>d
 |s::_,d=>xC m s d
def xL (m:List (Nat×bK)):List Sh->List D->List D
 |[],ds=>ds
 |s::r,ds=>match ds with
  |[]=>[]
  |d::ds=>xC m s d::xL m r ds
end
def xV (m:List (Nat×bK))(cs:List Sh):D->D
 | .agg ds=>.agg (xL m cs ds)
 |e=>xH m cs e
mutual
def Li (m:List (Nat×bK)):Sh->D->Prop
 | .a,d=>d.bG=true
 | .sl _ cs,d=>match d with
  | .own l k' i c=>fm m l k' (i+c)/\∀e∈((bf m l).drop i).take c,(match e with
   | .agg ds=>IW m cs ds
   |e=>Lj m cs e)
  |d=>d.bG=true
 | .pt cs,d=>match d with
  | .ptr l k _ _=>fm m l k 0/\∀e∈bf m l,(match e with
   | .agg ds=>IW m cs ds
   |e=>Lj m cs e)
  |d=>d.bG=true
def Lj (m:List (Nat×bK)):List Sh->D->Prop
 |[],d=>d.bG=true
 |s::_,d=>Li m s d
def IW (m:List (Nat×bK)):List Sh->List D->Prop
 |[],ds=>bt ds=true
 |s::r,ds=>match ds with
  |[]=>True
  |d::ds=>Li m s d/\IW m r ds
end
def IX (m:List (Nat×bK))(cs:List Sh):D->Prop
 | .agg ds=>IW m cs ds
 |e=>Lj m cs e
mutual
theorem IN (m:List (Nat×bK)):∀(s:Sh)(d:D),mJ m s d=xC m s d/\(j4 m s d↔Li m s d)
 | .a,d=>by cases d<;>simp only[mJ,xC,j4,Li]<;>exact⟨trivial,trivial⟩
 | .sl k cs,d=>by
  cases d<;>simp only[mJ,xC,j4,Li]<;>first
   |exact⟨trivial,trivial⟩
   |skip
  rename_i l k' i c;exact⟨aj (D.sl k') (List.map_congr_left fun e _=>(A6 m cs e).1),and_congr_right fun _=>forall_congr' fun e=>imp_congr_right fun _=>(A6 m cs e).2⟩
 | .pt cs,d=>by
  cases d<;>simp only[mJ,xC,j4,Li]<;>first
   |exact⟨trivial,trivial⟩
   |skip
  rename_i l k' i c;exact⟨aj (fun x=>D.ref k' x i c) (List.map_congr_left fun e _=>(A6 m cs e).1),and_congr_right fun _=>forall_congr' fun e=>imp_congr_right fun _=>(A6 m cs e).2⟩
theorem A6 (m:List (Nat×bK)):∀(cs:List Sh)(d:D),iS m cs d=(match d with
   | .agg ds=>.agg (xL m cs ds)
   |e=>xH m cs e)/\(gQ m cs d↔(match d with
   | .agg ds=>IW m cs ds
   |e=>Lj m cs e))
 |[],d=>by cases d<;>simp only[iS,xH,xL,gQ,Lj,IW,D.bG]<;>first|exact⟨trivial,Iff.rfl⟩|exact⟨trivial,trivial⟩
 |s::r,d=>by
  cases d<;>simp only[iS,xH,gQ,Lj]<;>first
   |exact IN m s _
   |skip
  rename_i ds;exact⟨aj D.agg (DZ m (s::r) ds).1,(DZ m (s::r) ds).2⟩
theorem DZ (m:List (Nat×bK)):∀(cs:List Sh)(ds:List D),mK m cs ds=xL m cs ds/\(kE m cs ds↔IW m cs ds)
 |[],ds=>by simp only[mK,xL,kE,IW];exact⟨trivial,trivial⟩
 |s::r,[]=>by simp only[mK,xL,kE,IW];exact⟨trivial,trivial⟩
 |s::r,d::ds=>by
  simp only[mK,xL,kE,IW,(IN m s d).1,(DZ m r ds).1];exact⟨trivial,and_congr (IN m s d).2 (DZ m r ds).2⟩
end
def xK (m:List (Nat×bK))(cs:List Sh)(d:D):iS m cs d=xV m cs d/\(gQ m cs d↔IX m cs d):=by
 have:=A6 m cs d;cases d<;>exact this
def mg (m:List (Nat×bK)):List (List Sh)->List D->List D
 |_,[]=>[]
 |[],d::r=>xV m [.a] d::mg m [] r
 |s::ss,d::r=>xV m s d::mg m ss r
def jd (m:List (Nat×bK)):List (List Sh)->List D->Prop
 |_,[]=>True
 |[],d::r=>IX m [.a] d/\jd m [] r
 |s::ss,d::r=>IX m s d/\jd m ss r
def ec (m:List (Nat×bK)):∀(ss:List (List Sh))(ds:List D),fA m ss ds=mg m ss ds/\(iO m ss ds↔jd m ss ds)
 |ss,[]=>by simp[fA,mg,iO,jd]
 |[],d::r=>by
  simp only[fA,mg,iO,jd,(xK m [.a] d).1,(ec m [] r).1];exact⟨trivial,and_congr (xK m _ d).2 (ec m [] r).2⟩
 |s::ss,d::r=>by
  simp only[fA,mg,iO,jd,(xK m s d).1,(ec m ss r).1];exact⟨trivial,and_congr (xK m _ d).2 (ec m ss r).2⟩
def Mg (a:aC)(d:D):Ex->List bI->St->Prop:=fun e env st=>e.home/\qm st.m env a.res/\DJ a env st/\Kj a env st=d
def F0 (a:aC)(env:List bI)(m:List (Nat×bK)):D:=match a.res with
 |[r]=>xV m (a.rsh.getD 0 []) (AB m env r)
 |rs=>.tup (mg m a.rsh (nQ m env rs))
def xM (a:aC)(env:List bI)(m:List (Nat×bK)):Prop:=match a.res with
 |[r]=>IX m (a.rsh.getD 0 []) (AB m env r)
 |rs=>jd m a.rsh (nQ m env rs)
def Ns {a:aC}{d:D}{e:Ex}{nx:Nat}{m:List (Nat×bK)}(he:e.home)(h1:qm m env a.res)(h2:xM a env m)(h3:F0 a env m=d):Mg a d e env ⟨nx,m⟩:=by
 refine⟨he,h1, ?_, ?_⟩
 ·unfold DJ;unfold xM at h2;split<;>rename_i hr
  ·rw[hr]at h2;exact(xK _ _ _).2.2 h2
  ·split at h2
   ·rename_i hr2;exact absurd hr2 (hr _)
   ·exact(ec _ _ _).2.2 h2
 ·unfold Kj;unfold F0 at h3;split<;>rename_i hr
  ·rw[hr]at h3;rw[(xK _ _ _).1];exact h3
  ·split at h3
   ·rename_i hr2;exact absurd hr2 (hr _)
   ·rw[(ec _ _ _).1];exact h3
end
end
section
section
variable {Y:Ctx} {draw:Bool} {r:List GI} {env rs:List bI} {nx:Nat} {m:List (Nat×bK)} {K:List bI->St->Prop} {g:Option (Nat×Bool)} {f:Bool}
def at8 (s:List UInt8)(i:Nat):Int:=((s.getD i 0).toNat:Int)
def rH (s:List UInt8)(i:Nat):0<=at8 s i/\at8 s i<256:=by
 have:=(s.getD i 0).toNat_lt;unfold at8;omega
def D.MI:D->Bool
 | .str _=>true
 |_=>false
def wrap_i64 {a:Int}(h1:-9223372036854775808<=a)(h2:a<=9223372036854775807):IntKind.i64.wrap a=a:=IntWalk.i64_in _ ae
def mV (a b:List UInt8):(a==b)=decide (a=b):=by
 by_cases h:a=b
 ·subst h;simp
 ·simp[h]
def getD_map {α:Type} [Inhabited α]{q:α->D}{xs:List α}{i:Nat}(h:i<xs.length):(xs.map q).getD i .any=q xs[i]! :=by
 simp[List.getD,h]
def NB (b:UInt8):(D.int .u8 b.toNat).u8=b:=by simp[D.u8]
def Jj (s:List UInt8):D.str ((s.map fun b=>D.int .u8 b.toNat).map D.u8)=.str s:=by
 congr 1;rw[List.map_map]
 conv=>rhs;rw[<-List.map_id s]
 apply List.map_congr_left;intro b _;exact NB b
def GF (rs:List bI):Option (Nat×Bool)->Bool->Prop
 |none,f=>f=true
 |some (j,w),f=>∃ok b,cv [] rs (.l j)=⟨ok,.bool b⟩/\(ok&&(b==w))=f
def GF.flag (h:GF rs g f):flag rs.reverse g=f/\we rs.reverse g:=by
 cases g with
 |none=>exact⟨h.symm,trivial⟩
 |some jw=>
  obtain⟨j,w⟩:=jw;obtain⟨ok,b,h1,h2⟩:=h;have h3:rs.reverse.getD j .un=⟨ok,.bool b⟩:=by rw[<-h1,<-kM];rfl
  simp only[Abs.flag,we,h3,h2,D.isBool];exact⟨trivial,fun _=>trivial⟩
def H2 {i:aJ}(hM:i.dp=false)(hF:i.sL draw g=false)(hC:g.isSome=true->i.calm=true)(hg:GF rs g f)(d:D)(ho:f=true->i.dN Y (cv env rs) m)
  (hv:f=true->i.val Y (cv env rs) m (nx+rs.length)=d) (m':List (Nat×bK)) (hm:i.cE Y (cv env rs) m (nx+rs.length)=m')
  (h:(f=true->i.Bo draw (cv env rs))->aG Y draw r env (⟨f,d⟩::rs) nx m' K):aG Y draw (⟨i,g⟩::r) env rs nx m K:=by
 obtain⟨hf,hb⟩:=hg.flag;unfold aG;rw[kZ hM hF,kM,hf];refine⟨?_,ho,fun ha=>⟨d,by simpa using hv, ?_⟩⟩
 ·cases g with
  |none=>trivial
  |some jw=>exact⟨hC rfl,hb⟩
 ·have:=h ha;unfold aG at this;simp only[List.reverse_cons]at this;simpa only[List.length_reverse,hm]using this
def ik {i:aJ}(hC:i.calm=true)(hg:GF rs g f)(d:D)(ho:f=true->i.dN Y (cv env rs) m)
  (hv:f=true->i.val Y (cv env rs) m (nx+rs.length)=d) (m':List (Nat×bK)) (hm:i.cE Y (cv env rs) m (nx+rs.length)=m')
  (h:(f=true->i.Bo draw (cv env rs))->aG Y draw r env (⟨f,d⟩::rs) nx m' K):aG Y draw (⟨i,g⟩::r) env rs nx m K:=
 H2 (by cases i<;>first|rfl|cases hC) (by simp[aJ.sL,hC]) (fun _=>hC) hg d ho hv m' hm h
def bJ {i:aJ}(hC:i.pure=true)(hg:GF rs g f)(d:D)(ho:f=true->i.dN Y (cv env rs) m)
  (hv:f=true->i.val Y (cv env rs) m (nx+rs.length)=d) 
  (h:(f=true->i.Bo draw (cv env rs))->aG Y draw r env (⟨f,d⟩::rs) nx m K):aG Y draw (⟨i,g⟩::r) env rs nx m K:=
 ik (E9 hC) hg d ho hv m (HX hC) h
def sg {i:aJ}(hM:i.dp=false)(d:D)(ho:i.dN Y (cv env rs) m)
  (hv:i.val Y (cv env rs) m (nx+rs.length)=d) (m':List (Nat×bK)) (hm:i.cE Y (cv env rs) m (nx+rs.length)=m')
  (h:i.Bo draw (cv env rs)->aG Y draw r env (⟨true,d⟩::rs) nx m' K):aG Y draw (⟨i,none⟩::r) env rs nx m K:=
 H2 hM (by simp[aJ.sL]) (fun h=>by cases h) rfl d (fun _=>ho) (fun _=>hv) m' hm (fun ha=>h (ha rfl))
def r_mv {x:Src}{fx:Bool}{d:D}(h:aG Y draw r env (⟨f,d⟩::rs) nx m K)(hg:GF rs g f:=by exact cX)(hx:cv env rs x=⟨fx,d⟩:=by exact rfl)(kx:f=true->fx=true:=by exact bU):aG Y draw (⟨.mv x,g⟩::r) env rs nx m K:=
 bJ rfl hg _ (fun hf=>by simp[aJ.dN,hx,kx hf]) (fun hf=>by simp[aJ.val,hx]) (fun ha=>h)
def Rz {x:Src}{fx:Bool}{b:Bool}(h:aG Y draw r env (⟨f,.bool (!b)⟩::rs) nx m K)(hg:GF rs g f:=by exact cX)(hx:cv env rs x=⟨fx,.bool b⟩:=by exact rfl)(kx:f=true->fx=true:=by exact bU):aG Y draw (⟨.un .not x,g⟩::r) env rs nx m K:=
 bJ rfl hg _ (fun hf=>by simp[aJ.dN,hx,kx hf]) (fun hf=>by simp[aJ.val,hx]) (fun ha=>h)
def r_or {c b:Src}{fc fb t y:Bool}(h:aG Y draw r env (⟨f,.bool (t ||y)⟩::rs) nx m K)(hg:GF rs g f:=by exact cX)(hc:cv env rs c=⟨fc,.bool t⟩:=by exact rfl)(hb:cv env rs b=⟨fb,.bool y⟩:=by exact rfl)(kc:f=true->fc=true:=by exact bU)(kb:f=true->t=false->fb=true:=by intro h1 h2;first|(rw[h2];exact rfl)|(rw[h2,h1];rfl)|(rw[h1,h2];rfl)|simp_all):aG Y draw (⟨.pick c (.c (.bool true)) b,g⟩::r) env rs nx m K:=
 bJ rfl hg _ (fun hf=>by simp only[aJ.dN,hc,hb];exact⟨kc hf,fun _=>rfl,fun e=>kb hf e⟩) (fun hf=>by simp only[aJ.val,hc,hb];cases t<;>rfl) (fun _=>h)
def Rq {c a:Src}{fc fa t y:Bool}(h:aG Y draw r env (⟨f,.bool (t&&y)⟩::rs) nx m K)(hg:GF rs g f:=by exact cX)(hc:cv env rs c=⟨fc,.bool t⟩:=by exact rfl)(ha:cv env rs a=⟨fa,.bool y⟩:=by exact rfl)(kc:f=true->fc=true:=by exact bU)(ka:f=true->t=true->fa=true:=by intro h1 h2;first|(rw[h2];exact rfl)|(rw[h2,h1];rfl)|(rw[h1,h2];rfl)|simp_all):aG Y draw (⟨.pick c a (.c (.bool false)),g⟩::r) env rs nx m K:=
 bJ rfl hg _ (fun hf=>by simp only[aJ.dN,hc,ha];exact⟨kc hf,fun e=>ka hf e,fun _=>rfl⟩) (fun hf=>by simp only[aJ.val,hc,ha];cases t<;>rfl) (fun _=>h)
def Ka {x y:Src}{fx fy:Bool}{a b:Int}(h:aG Y draw r env (⟨f,.int .i64 (a+b)⟩::rs) nx m K)(hg:GF rs g f:=by exact cX)(hx:cv env rs x=⟨fx,.int .i64 a⟩:=by exact rfl)(hy:cv env rs y=⟨fy,.int .i64 b⟩:=by exact rfl)(kx:f=true->fx=true:=by exact bU)(ky:f=true->fy=true:=by exact bU)(hb:f=true->-9223372036854775808<=a+b/\a+b<=9223372036854775807:=by exact CI):aG Y draw (⟨.bin .add x y,g⟩::r) env rs nx m K:=
 bJ rfl hg _ (fun hf=>by simp[aJ.dN,hx,hy,kx hf,ky hf,ig]) (fun hf=>by simp only[aJ.val,hx,hy,iB];rw[wrap_i64 (hb hf).1 (hb hf).2]) (fun ha=>h)
def oB {x y:Src}{fx fy:Bool}{k:IntKind}{a b:Int}(v:Int)(h:aG Y draw r env (⟨f,.int k v⟩::rs) nx m K)(hg:GF rs g f:=by exact cX)(hx:cv env rs x=⟨fx,.int k a⟩:=by exact rfl)(hy:cv env rs y=⟨fy,.int k b⟩:=by exact rfl)(kx:f=true->fx=true:=by exact bU)(ky:f=true->fy=true:=by exact bU)(hb:f=true->k.wrap (a+b)=v):aG Y draw (⟨.bin .add x y,g⟩::r) env rs nx m K:=
 bJ rfl hg _ (fun hf=>by simp[aJ.dN,hx,hy,kx hf,ky hf,ig]) (fun hf=>by simp only[aJ.val,hx,hy,iB];rw[hb hf]) (fun ha=>h)
def Kc {x y:Src}{fx fy:Bool}{a b:Int}(h:aG Y draw r env (⟨f,.int .i64 (a-b)⟩::rs) nx m K)(hg:GF rs g f:=by exact cX)(hx:cv env rs x=⟨fx,.int .i64 a⟩:=by exact rfl)(hy:cv env rs y=⟨fy,.int .i64 b⟩:=by exact rfl)(kx:f=true->fx=true:=by exact bU)(ky:f=true->fy=true:=by exact bU)(hb:f=true->-9223372036854775808<=a-b/\a-b<=9223372036854775807:=by exact CI):aG Y draw (⟨.bin .sub x y,g⟩::r) env rs nx m K:=
 bJ rfl hg _ (fun hf=>by simp[aJ.dN,hx,hy,kx hf,ky hf,ig]) (fun hf=>by simp only[aJ.val,hx,hy,iB];rw[wrap_i64 (hb hf).1 (hb hf).2]) (fun ha=>h)
def qi {x y:Src}{fx fy:Bool}{k:IntKind}{a b:Int}(v:Int)(h:aG Y draw r env (⟨f,.int k v⟩::rs) nx m K)(hg:GF rs g f:=by exact cX)(hx:cv env rs x=⟨fx,.int k a⟩:=by exact rfl)(hy:cv env rs y=⟨fy,.int k b⟩:=by exact rfl)(kx:f=true->fx=true:=by exact bU)(ky:f=true->fy=true:=by exact bU)(hb:f=true->k.wrap (a-b)=v):aG Y draw (⟨.bin .sub x y,g⟩::r) env rs nx m K:=
 bJ rfl hg _ (fun hf=>by simp[aJ.dN,hx,hy,kx hf,ky hf,ig]) (fun hf=>by simp only[aJ.val,hx,hy,iB];rw[hb hf]) (fun ha=>h)
def tJ {x y:Src}{fx fy:Bool}{a b:Int}(h:aG Y draw r env (⟨f,.int .i64 (a*b)⟩::rs) nx m K)(hg:GF rs g f:=by exact cX)(hx:cv env rs x=⟨fx,.int .i64 a⟩:=by exact rfl)(hy:cv env rs y=⟨fy,.int .i64 b⟩:=by exact rfl)(kx:f=true->fx=true:=by exact bU)(ky:f=true->fy=true:=by exact bU)(hb:f=true->-9223372036854775808<=a*b/\a*b<=9223372036854775807:=by exact CI):aG Y draw (⟨.bin .mul x y,g⟩::r) env rs nx m K:=
 bJ rfl hg _ (fun hf=>by simp[aJ.dN,hx,hy,kx hf,ky hf,ig]) (fun hf=>by simp only[aJ.val,hx,hy,iB];rw[wrap_i64 (hb hf).1 (hb hf).2]) (fun ha=>h)
def H8 {x y:Src}{fx fy:Bool}{k:IntKind}{a b:Int}(v:Int)(h:aG Y draw r env (⟨f,.int k v⟩::rs) nx m K)(hg:GF rs g f:=by exact cX)(hx:cv env rs x=⟨fx,.int k a⟩:=by exact rfl)(hy:cv env rs y=⟨fy,.int k b⟩:=by exact rfl)(kx:f=true->fx=true:=by exact bU)(ky:f=true->fy=true:=by exact bU)(hb:f=true->k.wrap (a*b)=v):aG Y draw (⟨.bin .mul x y,g⟩::r) env rs nx m K:=
 bJ rfl hg _ (fun hf=>by simp[aJ.dN,hx,hy,kx hf,ky hf,ig]) (fun hf=>by simp only[aJ.val,hx,hy,iB];rw[hb hf]) (fun ha=>h)
def RA {x y:Src}{fx fy:Bool}{k:IntKind}{a b:Int}(v:Int)(h:aG Y draw r env (⟨f,.int k v⟩::rs) nx m K)(hg:GF rs g f:=by exact cX)(hx:cv env rs x=⟨fx,.int k a⟩:=by exact rfl)(hy:cv env rs y=⟨fy,.int k b⟩:=by exact rfl)(kx:f=true->fx=true:=by exact bU)(ky:f=true->fy=true:=by exact bU)(hn:f=true->b≠0)(hb:f=true->k.wrap (a.tdiv b)=v):aG Y draw (⟨.bin .quo x y,g⟩::r) env rs nx m K:=
 bJ rfl hg _ (fun hf=>by simp[aJ.dN,hx,hy,kx hf,ky hf,ig,hn hf]) (fun hf=>by simp only[aJ.val,hx,hy,iB];rw[hb hf]) (fun ha=>h)
def Lc {x y:Src}{fx fy:Bool}{k:IntKind}{a b:Int}(v:Int)(h:aG Y draw r env (⟨f,.int k v⟩::rs) nx m K)(hg:GF rs g f:=by exact cX)(hx:cv env rs x=⟨fx,.int k a⟩:=by exact rfl)(hy:cv env rs y=⟨fy,.int k b⟩:=by exact rfl)(kx:f=true->fx=true:=by exact bU)(ky:f=true->fy=true:=by exact bU)(hn:f=true->b≠0)(hb:f=true->a.tmod b=v):aG Y draw (⟨.bin .rem x y,g⟩::r) env rs nx m K:=
 bJ rfl hg _ (fun hf=>by simp[aJ.dN,hx,hy,kx hf,ky hf,ig,hn hf]) (fun hf=>by simp only[aJ.val,hx,hy,iB];rw[hb hf]) (fun ha=>h)
def DF {x y:Src}{fx fy:Bool}{k k2:IntKind}{a b:Int}(v:Int)(h:aG Y draw r env (⟨f,.int k v⟩::rs) nx m K)(hg:GF rs g f:=by exact cX)(hx:cv env rs x=⟨fx,.int k a⟩:=by exact rfl)(hy:cv env rs y=⟨fy,.int k2 b⟩:=by exact rfl)(kx:f=true->fx=true:=by exact bU)(ky:f=true->fy=true:=by exact bU)(hn:f=true->0<=b:=by exact sB)(hb:f=true->k.wrap (a*2^(min b.toNat k.bits))=v):aG Y draw (⟨.bin .shl x y,g⟩::r) env rs nx m K:=
 bJ rfl hg _ (fun hf=>by simp[aJ.dN,hx,hy,kx hf,ky hf,ig,hn hf]) (fun hf=>by simp only[aJ.val,hx,hy,iB];rw[hb hf]) (fun ha=>h)
def xh {x y:Src}{fx fy:Bool}{k k2:IntKind}{a b:Int}(v:Int)(h:aG Y draw r env (⟨f,.int k v⟩::rs) nx m K)(hg:GF rs g f:=by exact cX)(hx:cv env rs x=⟨fx,.int k a⟩:=by exact rfl)(hy:cv env rs y=⟨fy,.int k2 b⟩:=by exact rfl)(kx:f=true->fx=true:=by exact bU)(ky:f=true->fy=true:=by exact bU)(hn:f=true->0<=b:=by exact sB)(hb:f=true->a.fdiv (2^(min b.toNat k.bits))=v):aG Y draw (⟨.bin .shr x y,g⟩::r) env rs nx m K:=
 bJ rfl hg _ (fun hf=>by simp[aJ.dN,hx,hy,kx hf,ky hf,ig,hn hf]) (fun hf=>by simp only[aJ.val,hx,hy,iB];rw[hb hf]) (fun ha=>h)
def B6 {x y:Src}{fx fy:Bool}{k:IntKind}{a b:Int}(v:Int)(h:aG Y draw r env (⟨f,.int k v⟩::rs) nx m K)(hg:GF rs g f:=by exact cX)(hx:cv env rs x=⟨fx,.int k a⟩:=by exact rfl)(hy:cv env rs y=⟨fy,.int k b⟩:=by exact rfl)(kx:f=true->fx=true:=by exact bU)(ky:f=true->fy=true:=by exact bU)(hb:f=true->k.wrap (((BitVec.ofInt k.bits a)&&&(BitVec.ofInt k.bits b)).toNat)=v):aG Y draw (⟨.bin .and x y,g⟩::r) env rs nx m K:=
 bJ rfl hg _ (fun hf=>by simp[aJ.dN,hx,hy,kx hf,ky hf,ig]) (fun hf=>by simp only[aJ.val,hx,hy,iB];rw[hb hf]) (fun ha=>h)
def DC {x y:Src}{fx fy:Bool}{k:IntKind}{a b:Int}(v:Int)(h:aG Y draw r env (⟨f,.int k v⟩::rs) nx m K)(hg:GF rs g f:=by exact cX)(hx:cv env rs x=⟨fx,.int k a⟩:=by exact rfl)(hy:cv env rs y=⟨fy,.int k b⟩:=by exact rfl)(kx:f=true->fx=true:=by exact bU)(ky:f=true->fy=true:=by exact bU)(hb:f=true->k.wrap (((BitVec.ofInt k.bits a) |||(BitVec.ofInt k.bits b)).toNat)=v):aG Y draw (⟨.bin .or x y,g⟩::r) env rs nx m K:=
 bJ rfl hg _ (fun hf=>by simp[aJ.dN,hx,hy,kx hf,ky hf,ig]) (fun hf=>by simp only[aJ.val,hx,hy,iB];rw[hb hf]) (fun ha=>h)
def yD {x y:Src}{fx fy:Bool}{k:IntKind}{a b:Int}(v:Int)(h:aG Y draw r env (⟨f,.int k v⟩::rs) nx m K)(hg:GF rs g f:=by exact cX)(hx:cv env rs x=⟨fx,.int k a⟩:=by exact rfl)(hy:cv env rs y=⟨fy,.int k b⟩:=by exact rfl)(kx:f=true->fx=true:=by exact bU)(ky:f=true->fy=true:=by exact bU)(hb:f=true->k.wrap (((BitVec.ofInt k.bits a)^^^(BitVec.ofInt k.bits b)).toNat)=v):aG Y draw (⟨.bin .xor x y,g⟩::r) env rs nx m K:=
 bJ rfl hg _ (fun hf=>by simp[aJ.dN,hx,hy,kx hf,ky hf,ig]) (fun hf=>by simp only[aJ.val,hx,hy,iB];rw[hb hf]) (fun ha=>h)
def H6 {x y:Src}{fx fy:Bool}{k:IntKind}{a b:Int}(h:aG Y draw r env (⟨f,.bool (decide (a<b))⟩::rs) nx m K)(hg:GF rs g f:=by exact cX)(hx:cv env rs x=⟨fx,.int k a⟩:=by exact rfl)(hy:cv env rs y=⟨fy,.int k b⟩:=by exact rfl)(kx:f=true->fx=true:=by exact bU)(ky:f=true->fy=true:=by exact bU):aG Y draw (⟨.bin .lss x y,g⟩::r) env rs nx m K:=
 bJ rfl hg _ (fun hf=>by simp[aJ.dN,hx,hy,kx hf,ky hf,ig]) (fun hf=>by simp only[aJ.val,hx,hy,iB]<;>rfl) (fun ha=>h)
def Ni {x y:Src}{fx fy:Bool}{k:IntKind}{a b:Int}(h:aG Y draw r env (⟨f,.bool (decide (a<=b))⟩::rs) nx m K)(hg:GF rs g f:=by exact cX)(hx:cv env rs x=⟨fx,.int k a⟩:=by exact rfl)(hy:cv env rs y=⟨fy,.int k b⟩:=by exact rfl)(kx:f=true->fx=true:=by exact bU)(ky:f=true->fy=true:=by exact bU):aG Y draw (⟨.bin .leq x y,g⟩::r) env rs nx m K:=
 bJ rfl hg _ (fun hf=>by simp[aJ.dN,hx,hy,kx hf,ky hf,ig]) (fun hf=>by simp only[aJ.val,hx,hy,iB]<;>rfl) (fun ha=>h)
def Na {x y:Src}{fx fy:Bool}{k:IntKind}{a b:Int}(h:aG Y draw r env (⟨f,.bool (decide (b<a))⟩::rs) nx m K)(hg:GF rs g f:=by exact cX)(hx:cv env rs x=⟨fx,.int k a⟩:=by exact rfl)(hy:cv env rs y=⟨fy,.int k b⟩:=by exact rfl)(kx:f=true->fx=true:=by exact bU)(ky:f=true->fy=true:=by exact bU):aG Y draw (⟨.bin .gtr x y,g⟩::r) env rs nx m K:=
 bJ rfl hg _ (fun hf=>by simp[aJ.dN,hx,hy,kx hf,ky hf,ig]) (fun hf=>by simp only[aJ.val,hx,hy,iB]<;>rfl) (fun ha=>h)
def M8 {x y:Src}{fx fy:Bool}{k:IntKind}{a b:Int}(h:aG Y draw r env (⟨f,.bool (decide (b<=a))⟩::rs) nx m K)(hg:GF rs g f:=by exact cX)(hx:cv env rs x=⟨fx,.int k a⟩:=by exact rfl)(hy:cv env rs y=⟨fy,.int k b⟩:=by exact rfl)(kx:f=true->fx=true:=by exact bU)(ky:f=true->fy=true:=by exact bU):aG Y draw (⟨.bin .geq x y,g⟩::r) env rs nx m K:=
 bJ rfl hg _ (fun hf=>by simp[aJ.dN,hx,hy,kx hf,ky hf,ig]) (fun hf=>by simp only[aJ.val,hx,hy,iB]<;>rfl) (fun ha=>h)
def M6 {x y:Src}{fx fy:Bool}{k:IntKind}{a b:Int}(h:aG Y draw r env (⟨f,.bool (decide (a=b))⟩::rs) nx m K)(hg:GF rs g f:=by exact cX)(hx:cv env rs x=⟨fx,.int k a⟩:=by exact rfl)(hy:cv env rs y=⟨fy,.int k b⟩:=by exact rfl)(kx:f=true->fx=true:=by exact bU)(ky:f=true->fy=true:=by exact bU):aG Y draw (⟨.bin .eql x y,g⟩::r) env rs nx m K:=
 bJ rfl hg _ (fun hf=>by simp[aJ.dN,hx,hy,kx hf,ky hf,ig]) (fun hf=>by simp only[aJ.val,hx,hy,iB]<;>rfl) (fun ha=>h)
def Nk {x y:Src}{fx fy:Bool}{k:IntKind}{a b:Int}(h:aG Y draw r env (⟨f,.bool (!decide (a=b))⟩::rs) nx m K)(hg:GF rs g f:=by exact cX)(hx:cv env rs x=⟨fx,.int k a⟩:=by exact rfl)(hy:cv env rs y=⟨fy,.int k b⟩:=by exact rfl)(kx:f=true->fx=true:=by exact bU)(ky:f=true->fy=true:=by exact bU):aG Y draw (⟨.bin .neq x y,g⟩::r) env rs nx m K:=
 bJ rfl hg _ (fun hf=>by simp[aJ.dN,hx,hy,kx hf,ky hf,ig]) (fun hf=>by simp only[aJ.val,hx,hy,iB]<;>rfl) (fun ha=>h)
def H7 {x y:Src}{fx fy:Bool}{a b:List UInt8}(h:aG Y draw r env (⟨f,.bool (Op.bytesLess a b)⟩::rs) nx m K)(hg:GF rs g f:=by exact cX)(hx:cv env rs x=⟨fx,.str a⟩:=by exact rfl)(hy:cv env rs y=⟨fy,.str b⟩:=by exact rfl)(kx:f=true->fx=true:=by exact bU)(ky:f=true->fy=true:=by exact bU):aG Y draw (⟨.bin .lss x y,g⟩::r) env rs nx m K:=
 bJ rfl hg _ (fun hf=>by simp[aJ.dN,hx,hy,kx hf,ky hf,ig]) (fun hf=>by simp only[aJ.val,hx,hy,iB,mV]) (fun ha=>h)
def Nj {x y:Src}{fx fy:Bool}{a b:List UInt8}(h:aG Y draw r env (⟨f,.bool (Op.bytesLess a b ||decide (a=b))⟩::rs) nx m K)(hg:GF rs g f:=by exact cX)(hx:cv env rs x=⟨fx,.str a⟩:=by exact rfl)(hy:cv env rs y=⟨fy,.str b⟩:=by exact rfl)(kx:f=true->fx=true:=by exact bU)(ky:f=true->fy=true:=by exact bU):aG Y draw (⟨.bin .leq x y,g⟩::r) env rs nx m K:=
 bJ rfl hg _ (fun hf=>by simp[aJ.dN,hx,hy,kx hf,ky hf,ig]) (fun hf=>by simp only[aJ.val,hx,hy,iB,mV]) (fun ha=>h)
def Nb {x y:Src}{fx fy:Bool}{a b:List UInt8}(h:aG Y draw r env (⟨f,.bool (!(Op.bytesLess a b ||decide (a=b)))⟩::rs) nx m K)(hg:GF rs g f:=by exact cX)(hx:cv env rs x=⟨fx,.str a⟩:=by exact rfl)(hy:cv env rs y=⟨fy,.str b⟩:=by exact rfl)(kx:f=true->fx=true:=by exact bU)(ky:f=true->fy=true:=by exact bU):aG Y draw (⟨.bin .gtr x y,g⟩::r) env rs nx m K:=
 bJ rfl hg _ (fun hf=>by simp[aJ.dN,hx,hy,kx hf,ky hf,ig]) (fun hf=>by simp only[aJ.val,hx,hy,iB,mV]) (fun ha=>h)
def M9 {x y:Src}{fx fy:Bool}{a b:List UInt8}(h:aG Y draw r env (⟨f,.bool (!Op.bytesLess a b)⟩::rs) nx m K)(hg:GF rs g f:=by exact cX)(hx:cv env rs x=⟨fx,.str a⟩:=by exact rfl)(hy:cv env rs y=⟨fy,.str b⟩:=by exact rfl)(kx:f=true->fx=true:=by exact bU)(ky:f=true->fy=true:=by exact bU):aG Y draw (⟨.bin .geq x y,g⟩::r) env rs nx m K:=
 bJ rfl hg _ (fun hf=>by simp[aJ.dN,hx,hy,kx hf,ky hf,ig]) (fun hf=>by simp only[aJ.val,hx,hy,iB,mV]) (fun ha=>h)
def M7 {x y:Src}{fx fy:Bool}{a b:List UInt8}(h:aG Y draw r env (⟨f,.bool (decide (a=b))⟩::rs) nx m K)(hg:GF rs g f:=by exact cX)(hx:cv env rs x=⟨fx,.str a⟩:=by exact rfl)(hy:cv env rs y=⟨fy,.str b⟩:=by exact rfl)(kx:f=true->fx=true:=by exact bU)(ky:f=true->fy=true:=by exact bU):aG Y draw (⟨.bin .eql x y,g⟩::r) env rs nx m K:=
 bJ rfl hg _ (fun hf=>by simp[aJ.dN,hx,hy,kx hf,ky hf,ig]) (fun hf=>by simp only[aJ.val,hx,hy,iB,mV]) (fun ha=>h)
def Nl {x y:Src}{fx fy:Bool}{a b:List UInt8}(h:aG Y draw r env (⟨f,.bool (!decide (a=b))⟩::rs) nx m K)(hg:GF rs g f:=by exact cX)(hx:cv env rs x=⟨fx,.str a⟩:=by exact rfl)(hy:cv env rs y=⟨fy,.str b⟩:=by exact rfl)(kx:f=true->fx=true:=by exact bU)(ky:f=true->fy=true:=by exact bU):aG Y draw (⟨.bin .neq x y,g⟩::r) env rs nx m K:=
 bJ rfl hg _ (fun hf=>by simp[aJ.dN,hx,hy,kx hf,ky hf,ig]) (fun hf=>by simp only[aJ.val,hx,hy,iB,mV]) (fun ha=>h)
def df {x y:Src}{fx fy:Bool}{a b:List UInt8}(h:aG Y draw r env (⟨f,.str (a++b)⟩::rs) nx m K)(hg:GF rs g f:=by exact cX)(hx:cv env rs x=⟨fx,.str a⟩:=by exact rfl)(hy:cv env rs y=⟨fy,.str b⟩:=by exact rfl)(kx:f=true->fx=true:=by exact bU)(ky:f=true->fy=true:=by exact bU)(hb:f=true->a.length+b.length<=9223372036854775807):aG Y draw (⟨.bin .add x y,g⟩::r) env rs nx m K:=
 bJ rfl hg _ (fun hf=>by simp[aJ.dN,hx,hy,kx hf,ky hf,ig,hb hf]) (fun hf=>by simp only[aJ.val,hx,hy,iB]) (fun ha=>h)
def Rt {x y:Src}{fx fy:Bool}{ag:Bool}{ks:List CK}{a b:D}{v:Bool}(h:aG Y draw r env (⟨f,.bool (v)⟩::rs) nx m K)(hb:gL a.cells b.cells=v)(hg:GF rs g f:=by exact cX)(hx:cv env rs x=⟨fx,a⟩:=by exact rfl)(hy:cv env rs y=⟨fy,b⟩:=by exact rfl)(kx:f=true->fx=true:=by exact bU)(ky:f=true->fy=true:=by exact bU)(h1:f=true->a.isAgg=ag/\b.isAgg=ag/\eY ks a.cells/\eY ks b.cells:=by exact tv):aG Y draw (⟨.eqA false ag ks x y,g⟩::r) env rs nx m K:=
 bJ rfl hg _ (fun hf=>by simp only[aJ.dN,hx,hy];exact⟨kx hf,ky hf,h1 hf⟩) (fun hf=>by simp only[aJ.val,hx,hy];rw[hb];rfl) (fun ha=>h)
def Rs {x y:Src}{fx fy:Bool}{ag:Bool}{ks:List CK}{a b:D}{v:Bool}(h:aG Y draw r env (⟨f,.bool (!v)⟩::rs) nx m K)(hb:gL a.cells b.cells=v)(hg:GF rs g f:=by exact cX)(hx:cv env rs x=⟨fx,a⟩:=by exact rfl)(hy:cv env rs y=⟨fy,b⟩:=by exact rfl)(kx:f=true->fx=true:=by exact bU)(ky:f=true->fy=true:=by exact bU)(h1:f=true->a.isAgg=ag/\b.isAgg=ag/\eY ks a.cells/\eY ks b.cells:=by exact tv):aG Y draw (⟨.eqA true ag ks x y,g⟩::r) env rs nx m K:=
 bJ rfl hg _ (fun hf=>by simp only[aJ.dN,hx,hy];exact⟨kx hf,ky hf,h1 hf⟩) (fun hf=>by simp only[aJ.val,hx,hy];rw[hb];rfl) (fun ha=>h)
def nF {x:Src}{fx:Bool}{k k2:IntKind}{a:Int}(v:Int)(h:aG Y draw r env (⟨f,.int k v⟩::rs) nx m K)(hg:GF rs g f:=by exact cX)(hx:cv env rs x=⟨fx,.int k2 a⟩:=by exact rfl)(kx:f=true->fx=true:=by exact bU)(hb:f=true->k.wrap a=v):aG Y draw (⟨.cvi k x,g⟩::r) env rs nx m K:=
 bJ rfl hg _ (fun hf=>by simp[aJ.dN,hx,kx hf]) (fun hf=>by simp only[aJ.val,hx];rw[hb hf]) (fun ha=>h)
def H5 {x:Src}{fx:Bool}{s:List UInt8}(h:(f=true->draw=false->s.length<=9223372036854775807)->aG Y draw r env (⟨f,.int .i64 s.length⟩::rs) nx m K)(hg:GF rs g f:=by exact cX)(hx:cv env rs x=⟨fx,.str s⟩:=by exact rfl)(kx:f=true->fx=true:=by exact bU):aG Y draw (⟨.lenS x,g⟩::r) env rs nx m K:=
 bJ rfl hg _ (fun hf=>by simp[aJ.dN,hx,kx hf]) (fun hf=>by simp[aJ.val,hx]) (fun ha=>h (fun hf hd=>by have:=ha hf;subst hd;simpa[aJ.Bo,hx,kx hf]using this))
def H3 {x:Src}{fx:Bool}{α:Type}{k:Nat}{q:α->D}{xs:List α}(h:(f=true->draw=false->xs.length<=9223372036854775807)->aG Y draw r env (⟨f,.int .i64 xs.length⟩::rs) nx m K)(hg:GF rs g f:=by exact cX)(hx:cv env rs x=⟨fx,.sl k (xs.map q)⟩:=by exact rfl)(kx:f=true->fx=true:=by exact bU):aG Y draw (⟨.len x,g⟩::r) env rs nx m K:=
 bJ rfl hg _ (fun hf=>by simp[aJ.dN,hx,kx hf]) (fun hf=>by simp[aJ.val,hx]) (fun ha=>h (fun hf hd=>by have:=ha hf;subst hd;simpa[aJ.Bo,hx,kx hf]using this))
def H4 {x:Src}{fx:Bool}{l k i n:Nat}(h:(f=true->draw=false->n<=9223372036854775807)->aG Y draw r env (⟨f,.int .i64 n⟩::rs) nx m K)(hg:GF rs g f:=by exact cX)(hx:cv env rs x=⟨fx,.own l k i n⟩:=by exact rfl)(kx:f=true->fx=true:=by exact bU):aG Y draw (⟨.len x,g⟩::r) env rs nx m K:=
 bJ rfl hg _ (fun hf=>by simp[aJ.dN,hx,kx hf]) (fun hf=>by simp[aJ.val,hx]) (fun ha=>h (fun hf hd=>by have:=ha hf;subst hd;simpa[aJ.Bo,hx,kx hf]using this))
def Nh {x:Src}{fx:Bool}(h:aG Y draw r env (⟨f,.int .i64 0⟩::rs) nx m K)(hg:GF rs g f:=by exact cX)(hx:cv env rs x=⟨fx,.aV⟩:=by exact rfl)(kx:f=true->fx=true:=by exact bU):aG Y draw (⟨.len x,g⟩::r) env rs nx m K:=
 bJ rfl hg _ (fun hf=>by simp[aJ.dN,hx,kx hf]) (fun hf=>by simp[aJ.val,hx]) (fun ha=>h)
def Nn {x:Src}{fx:Bool}{l k i o:Nat}(h:aG Y draw r env (⟨f,.ptr l k i o⟩::rs) nx m K)(hg:GF rs g f:=by exact cX)(hx:cv env rs x=⟨fx,.ptr l k i o⟩:=by exact rfl)(kx:f=true->fx=true:=by exact bU):aG Y draw (⟨.nilck x,g⟩::r) env rs nx m K:=
 bJ rfl hg _ (fun hf=>by simp[aJ.dN,hx,kx hf]) (fun hf=>by simp[aJ.val,hx]) (fun ha=>h)
def Np {x:Src}{fx:Bool}{k i o:Nat}{es:List D}(h:aG Y draw r env (⟨f,.ref k es i o⟩::rs) nx m K)(hg:GF rs g f:=by exact cX)(hx:cv env rs x=⟨fx,.ref k es i o⟩:=by exact rfl)(kx:f=true->fx=true:=by exact bU):aG Y draw (⟨.nilck x,g⟩::r) env rs nx m K:=
 bJ rfl hg _ (fun hf=>by simp[aJ.dN,hx,kx hf]) (fun hf=>by simp[aJ.val,hx]) (fun ha=>h)
def Ru {x:Src}{fx:Bool}{off l k i o:Nat}(h:aG Y draw r env (⟨f,.ptr l k i (o+off)⟩::rs) nx m K)(hg:GF rs g f:=by exact cX)(hx:cv env rs x=⟨fx,.ptr l k i o⟩:=by exact rfl)(kx:f=true->fx=true:=by exact bU):aG Y draw (⟨.fa off x,g⟩::r) env rs nx m K:=
 bJ rfl hg _ (fun hf=>by simp[aJ.dN,hx,kx hf]) (fun hf=>by simp[aJ.val,hx]) (fun ha=>h)
def Rv {x:Src}{fx:Bool}{off k i o:Nat}{es:List D}(h:aG Y draw r env (⟨f,.ref k es i (o+off)⟩::rs) nx m K)(hg:GF rs g f:=by exact cX)(hx:cv env rs x=⟨fx,.ref k es i o⟩:=by exact rfl)(kx:f=true->fx=true:=by exact bU):aG Y draw (⟨.fa off x,g⟩::r) env rs nx m K:=
 bJ rfl hg _ (fun hf=>by simp[aJ.dN,hx,kx hf]) (fun hf=>by simp[aJ.val,hx]) (fun ha=>h)
def cC {x y:Src}{fx fy:Bool}{α:Type}{k:Nat}{q:α->D}{xs:List α}{i:Int}{kk:IntKind}(j:Nat)(h:aG Y draw r env (⟨f,.ref k (xs.map q) j 0⟩::rs) nx m K)(hg:GF rs g f:=by exact cX)(hx:cv env rs x=⟨fx,.sl k (xs.map q)⟩:=by exact rfl)(hy:cv env rs y=⟨fy,.int kk i⟩:=by exact rfl)(kx:f=true->fx=true:=by exact bU)(ky:f=true->fy=true:=by exact bU)(hj:f=true->i=(j:Int):=by exact vN)(hb:f=true->j<xs.length:=by exact sB):aG Y draw (⟨.ia k x y,g⟩::r) env rs nx m K:=
 bJ rfl hg _ (fun hf=>by simp only[aJ.dN,hx,hy,cI];exact⟨kx hf,ky hf,trivial,by have:=hj hf;omega,by have:=hj hf;have:=hb hf;omega⟩) (fun hf=>by simp only[aJ.val,hx,hy];rw[hj hf];rfl) (fun ha=>h)
def jz {x y:Src}{fx fy:Bool}{l k i0 n:Nat}{i:Int}{kk:IntKind}(j:Nat)(h:aG Y draw r env (⟨f,.ptr l k (i0+j) 0⟩::rs) nx m K)(hg:GF rs g f:=by exact cX)(hx:cv env rs x=⟨fx,.own l k i0 n⟩:=by exact rfl)(hy:cv env rs y=⟨fy,.int kk i⟩:=by exact rfl)(kx:f=true->fx=true:=by exact bU)(ky:f=true->fy=true:=by exact bU)(hj:f=true->i=(j:Int):=by exact vN)(hb:f=true->j<n:=by exact sB):aG Y draw (⟨.ia k x y,g⟩::r) env rs nx m K:=
 bJ rfl hg _ (fun hf=>by simp only[aJ.dN,hx,hy];exact⟨kx hf,ky hf,trivial,by have:=hj hf;omega,by have:=hj hf;have:=hb hf;omega⟩) (fun hf=>by simp only[aJ.val,hx,hy];rw[hj hf];rfl) (fun ha=>h)
def yE {x y:Src}{fx fy:Bool}{l k k2 n i0 o:Nat}{i:Int}{kk:IntKind}(j:Nat)(h:aG Y draw r env (⟨f,.ptr l k2 i0 (o+j*k)⟩::rs) nx m K)(hg:GF rs g f:=by exact cX)(hx:cv env rs x=⟨fx,.ptr l k2 i0 o⟩:=by exact rfl)(hy:cv env rs y=⟨fy,.int kk i⟩:=by exact rfl)(kx:f=true->fx=true:=by exact bU)(ky:f=true->fy=true:=by exact bU)(hj:f=true->i=(j:Int):=by exact vN)(hb:f=true->j<n:=by exact sB):aG Y draw (⟨.iaP n k x y,g⟩::r) env rs nx m K:=
 bJ rfl hg _ (fun hf=>by simp only[aJ.dN,hx,hy];exact⟨kx hf,ky hf,by have:=hj hf;omega,by have:=hj hf;have:=hb hf;omega⟩) (fun hf=>by simp only[aJ.val,hx,hy];rw[hj hf];rfl) (fun ha=>h)
def mL {x y:Src}{fx fy:Bool}{s:List UInt8}{i:Int}{kk:IntKind}(j:Nat)(h:aG Y draw r env (⟨f,.int .u8 (at8 s j)⟩::rs) nx m K)(hg:GF rs g f:=by exact cX)(hx:cv env rs x=⟨fx,.str s⟩:=by exact rfl)(hy:cv env rs y=⟨fy,.int kk i⟩:=by exact rfl)(kx:f=true->fx=true:=by exact bU)(ky:f=true->fy=true:=by exact bU)(hj:f=true->i=(j:Int):=by exact vN)(hb:f=true->j<s.length:=by exact sB):aG Y draw (⟨.ixS x y,g⟩::r) env rs nx m K:=
 bJ rfl hg _ (fun hf=>by simp only[aJ.dN,hx,hy];exact⟨kx hf,ky hf,by have:=hj hf;omega,by have:=hj hf;have:=hb hf;omega⟩) (fun hf=>by simp only[aJ.val,hx,hy];rw[hj hf];rfl) (fun ha=>h)
def Nc {x y:Src}{fx fy:Bool}{α:Type}{k:Nat}{q:α->D}{xs:List α}{i:Int}{kk:IntKind}(h:aG Y draw r env (⟨f,.ref k (xs.map q) i.toNat 0⟩::rs) nx m K)(hg:GF rs g f:=by exact cX)(hx:cv env rs x=⟨fx,.sl k (xs.map q)⟩:=by exact rfl)(hy:cv env rs y=⟨fy,.int kk i⟩:=by exact rfl)(kx:f=true->fx=true:=by exact bU)(ky:f=true->fy=true:=by exact bU)(hb:f=true->0<=i/\i<(xs.length:Nat):=by exact CI):aG Y draw (⟨.ia k x y,g⟩::r) env rs nx m K:=
 bJ rfl hg _ (fun hf=>by simp only[aJ.dN,hx,hy,cI];exact⟨kx hf,ky hf,trivial,(hb hf).1,(hb hf).2⟩) (fun hf=>by simp only[aJ.val,hx,hy]<;>rfl) (fun ha=>h)
def Nf {x y:Src}{fx fy:Bool}{l k i0 n:Nat}{i:Int}{kk:IntKind}(h:aG Y draw r env (⟨f,.ptr l k (i0+i.toNat) 0⟩::rs) nx m K)(hg:GF rs g f:=by exact cX)(hx:cv env rs x=⟨fx,.own l k i0 n⟩:=by exact rfl)(hy:cv env rs y=⟨fy,.int kk i⟩:=by exact rfl)(kx:f=true->fx=true:=by exact bU)(ky:f=true->fy=true:=by exact bU)(hb:f=true->0<=i/\i<(n:Nat):=by exact CI):aG Y draw (⟨.ia k x y,g⟩::r) env rs nx m K:=
 bJ rfl hg _ (fun hf=>by simp only[aJ.dN,hx,hy,cI];exact⟨kx hf,ky hf,trivial,(hb hf).1,(hb hf).2⟩) (fun hf=>by simp only[aJ.val,hx,hy]<;>rfl) (fun ha=>h)
def Ng {x y:Src}{fx fy:Bool}{s:List UInt8}{i:Int}{kk:IntKind}(h:aG Y draw r env (⟨f,.int .u8 (at8 s i.toNat)⟩::rs) nx m K)(hg:GF rs g f:=by exact cX)(hx:cv env rs x=⟨fx,.str s⟩:=by exact rfl)(hy:cv env rs y=⟨fy,.int kk i⟩:=by exact rfl)(kx:f=true->fx=true:=by exact bU)(ky:f=true->fy=true:=by exact bU)(hb:f=true->0<=i/\i<(s.length:Nat):=by exact CI):aG Y draw (⟨.ixS x y,g⟩::r) env rs nx m K:=
 bJ rfl hg _ (fun hf=>by simp only[aJ.dN,hx,hy,cI];exact⟨kx hf,ky hf,(hb hf).1,(hb hf).2⟩) (fun hf=>by simp only[aJ.val,hx,hy]<;>rfl) (fun ha=>h)
def ix {x y:Src}{fx fy:Bool}{s:List UInt8}{k2:IntKind}{a:Int}(i:Nat)(h:aG Y draw r env (⟨f,.str (s.drop i)⟩::rs) nx m K)(hg:GF rs g f:=by exact cX)(hx:cv env rs x=⟨fx,.str s⟩:=by exact rfl)(hy:cv env rs y=⟨fy,.int k2 a⟩:=by exact rfl)(kx:f=true->fx=true:=by exact bU)(ky:f=true->fy=true:=by exact bU)(hi:f=true->a=(i:Int):=by exact vN)(hb:f=true->i<=s.length:=by exact sB):aG Y draw (⟨.slS x (some y) none,g⟩::r) env rs nx m K:=
 bJ rfl hg _ (fun hf=>by simp only[aJ.dN,F3,dO,hx,hy];have:=hb hf;have:=hi hf;refine⟨kx hf,ky hf,trivial, ?_⟩;simp only[mW,eg,ed,dW,Int.ofNat_eq_natCast];omega) (fun hf=>by simp only[aJ.val,dO,eg,hx,hy];rw[hi hf];simp) (fun ha=>h)
def H9 {x y:Src}{fx fy:Bool}{α:Type}{k:Nat}{q:α->D}{s:List α}{k2:IntKind}{a:Int}(i:Nat)(h:aG Y draw r env (⟨f,.sl k ((s.drop i).map q)⟩::rs) nx m K)(hg:GF rs g f:=by exact cX)(hx:cv env rs x=⟨fx,.sl k (s.map q)⟩:=by exact rfl)(hy:cv env rs y=⟨fy,.int k2 a⟩:=by exact rfl)(kx:f=true->fx=true:=by exact bU)(ky:f=true->fy=true:=by exact bU)(hi:f=true->a=(i:Int):=by exact vN)(hb:f=true->i<=s.length:=by exact sB):aG Y draw (⟨.slA k x (some y) none,g⟩::r) env rs nx m K:=
 bJ rfl hg _ (fun hf=>by simp only[aJ.dN,F3,dO,hx,hy,cI];have:=hb hf;have:=hi hf;refine⟨kx hf,ky hf,trivial,trivial, ?_⟩;simp only[mW,eg,ed,dW,Int.ofNat_eq_natCast];omega) (fun hf=>by simp only[aJ.val,dO,eg,hx,hy];rw[hi hf];first|(simp only[List.take_length,Int.toNat_natCast,List.map_drop];done)|simp[List.map_drop,List.map_take]) (fun ha=>h)
def oD {x z:Src}{fx fz:Bool}{s:List UInt8}{k3:IntKind}{c:Int}(j:Nat)(h:aG Y draw r env (⟨f,.str (s.take j)⟩::rs) nx m K)(hg:GF rs g f:=by exact cX)(hx:cv env rs x=⟨fx,.str s⟩:=by exact rfl)(hz:cv env rs z=⟨fz,.int k3 c⟩:=by exact rfl)(kx:f=true->fx=true:=by exact bU)(kz:f=true->fz=true:=by exact bU)(hj:f=true->c=(j:Int):=by exact vN)(hb:f=true->j<=s.length:=by exact sB):aG Y draw (⟨.slS x none (some z),g⟩::r) env rs nx m K:=
 bJ rfl hg _ (fun hf=>by simp only[aJ.dN,F3,dO,hx,hz];have:=hb hf;have:=hj hf;refine⟨kx hf,trivial,kz hf, ?_⟩;simp only[mW,eg,ed,dW,Int.ofNat_eq_natCast];omega) (fun hf=>by simp only[aJ.val,dO,eg,hx,hz];rw[hj hf];simp) (fun ha=>h)
def vb {x z:Src}{fx fz:Bool}{α:Type}{k:Nat}{q:α->D}{s:List α}{k3:IntKind}{c:Int}(j:Nat)(h:aG Y draw r env (⟨f,.sl k ((s.take j).map q)⟩::rs) nx m K)(hg:GF rs g f:=by exact cX)(hx:cv env rs x=⟨fx,.sl k (s.map q)⟩:=by exact rfl)(hz:cv env rs z=⟨fz,.int k3 c⟩:=by exact rfl)(kx:f=true->fx=true:=by exact bU)(kz:f=true->fz=true:=by exact bU)(hj:f=true->c=(j:Int):=by exact vN)(hb:f=true->j<=s.length:=by exact sB):aG Y draw (⟨.slA k x none (some z),g⟩::r) env rs nx m K:=
 bJ rfl hg _ (fun hf=>by simp only[aJ.dN,F3,dO,hx,hz,cI];have:=hb hf;have:=hj hf;refine⟨kx hf,trivial,kz hf,trivial, ?_⟩;simp only[mW,eg,ed,dW,Int.ofNat_eq_natCast];omega) (fun hf=>by simp only[aJ.val,dO,eg,hx,hz];rw[hj hf];first|(simp only[List.take_length,Int.toNat_natCast,List.map_drop];done)|simp[List.map_drop,List.map_take]) (fun ha=>h)
def vc {x z:Src}{fx fz:Bool}{l k i0 n:Nat}{k3:IntKind}{c:Int}(j:Nat)(h:aG Y draw r env (⟨f,.own l k i0 j⟩::rs) nx m K)(hg:GF rs g f:=by exact cX)(hx:cv env rs x=⟨fx,.own l k i0 n⟩:=by exact rfl)(hz:cv env rs z=⟨fz,.int k3 c⟩:=by exact rfl)(kx:f=true->fx=true:=by exact bU)(kz:f=true->fz=true:=by exact bU)(hj:f=true->c=(j:Int):=by exact vN)(hb:f=true->j<=n:=by exact sB):aG Y draw (⟨.slA k x none (some z),g⟩::r) env rs nx m K:=
 bJ rfl hg _ (fun hf=>by simp only[aJ.dN,F3,dO,hx,hz];have:=hb hf;have:=hj hf;refine⟨kx hf,trivial,kz hf,trivial, ?_⟩;simp only[mW,eg,ed,dW,Int.ofNat_eq_natCast];omega) (fun hf=>by simp only[aJ.val,dO,eg,hx,hz];rw[hj hf];simp) (fun ha=>h)
def ve {x y z:Src}{fx fy fz:Bool}{s:List UInt8}{k2:IntKind}{a:Int}(i:Nat){k3:IntKind}{c:Int}(j:Nat)(h:aG Y draw r env (⟨f,.str ((s.take j).drop i)⟩::rs) nx m K)(hg:GF rs g f:=by exact cX)(hx:cv env rs x=⟨fx,.str s⟩:=by exact rfl)(hy:cv env rs y=⟨fy,.int k2 a⟩:=by exact rfl)(hz:cv env rs z=⟨fz,.int k3 c⟩:=by exact rfl)(kx:f=true->fx=true:=by exact bU)(ky:f=true->fy=true:=by exact bU)(kz:f=true->fz=true:=by exact bU)(hi:f=true->a=(i:Int):=by exact vN)(hj:f=true->c=(j:Int):=by exact vN)(hb:f=true->i<=j/\j<=s.length:=by exact CI):aG Y draw (⟨.slS x (some y) (some z),g⟩::r) env rs nx m K:=
 bJ rfl hg _ (fun hf=>by simp only[aJ.dN,F3,dO,hx,hy,hz];have:=hb hf;have:=hi hf;have:=hj hf;refine⟨kx hf,ky hf,kz hf, ?_⟩;simp only[mW,eg,ed,dW,Int.ofNat_eq_natCast];omega) (fun hf=>by simp only[aJ.val,dO,eg,hx,hy,hz];rw[hi hf,hj hf];simp) (fun ha=>h)
def lD {x:Src}{fx:Bool}{i:Nat}{ds:List D}(v:D)(h:aG Y draw r env (⟨f,v⟩::rs) nx m K)(hg:GF rs g f:=by exact cX)(hx:cv env rs x=⟨fx,.tup ds⟩:=by exact rfl)(kx:f=true->fx=true:=by exact bU)(hv:f=true->ds.getD i .any=v:=by exact fun _=>rfl)(hb:f=true->i<ds.length:=by intro _;simp only[ay,az];omega):aG Y draw (⟨.ext x i,g⟩::r) env rs nx m K:=
 bJ rfl hg _ (fun hf=>by simp only[aJ.dN,hx];exact⟨kx hf,hb hf⟩) (fun hf=>by simp only[aJ.val,hx];exact hv hf) (fun ha=>h)
def eM {z:List D}{ps:List (Nat×Nat×Src)}(v:List D)(h:aG Y draw r env (⟨f,.agg v⟩::rs) nx m K)(hg:GF rs g f:=by exact cX)(hv:f=true->uj (cv env rs) z ps=v:=by exact fun _=>rfl)(ho:f=true->wN (cv env rs) z.length ps:=by exact tv):aG Y draw (⟨.build z ps,g⟩::r) env rs nx m K:=
 bJ rfl hg _ (fun hf=>ho hf) (fun hf=>by simp only[aJ.val];rw[hv hf]) (fun _=>h)
def cx {z:List D}{ps:List (Nat×Nat×Src)}(d:D)(h:aG Y draw r env (⟨f,d⟩::rs) nx m K)(hg:GF rs g f:=by exact cX)(hv:f=true->D.agg (uj (cv env rs) z ps)=d:=by exact fun _=>rfl)(ho:f=true->wN (cv env rs) z.length ps:=by exact tv):aG Y draw (⟨.build z ps,g⟩::r) env rs nx m K:=
 bJ rfl hg _ (fun hf=>ho hf) (fun hf=>by simp only[aJ.val];exact hv hf) (fun _=>h)
def ML {e:D}{n o:Nat}{ag:Bool}(h:e.isAgg=ag):ov e n n o ag=e:=by simp[ov,h]
def ee {x:Src}{fx:Bool}{n l:Nat}{ag:Bool}{d:D}(h:aG Y draw r env (⟨f,d⟩::rs) nx m K)(hg:GF rs g f:=by exact cX)(hx:cv env rs x=⟨fx,.ptr l n 0 0⟩:=by exact rfl)(kx:f=true->fx=true:=by exact bU)(hl:f=true->look m l=some (.buf n [d]):=by exact fun _=>rfl)(ha:f=true->d.isAgg=ag:=by exact fun _=>rfl):aG Y draw (⟨.ld n ag x,g⟩::r) env rs nx m K:=
 ik rfl hg _ (fun hf=>by simp only[aJ.dN,hx,Dh,fm,hl hf];exact⟨kx hf,⟨trivial,aT⟩,ae⟩) (fun hf=>by simp only[aJ.val,hx,BP,bf,hl hf,ku];exact ML (ha hf)) m rfl (fun ha=>h)
def bR {x:Src}{fx:Bool}{n l k o:Nat}{ag:Bool}{d:D}(v:D)(h:aG Y draw r env (⟨f,v⟩::rs) nx m K)(hg:GF rs g f:=by exact cX)(hx:cv env rs x=⟨fx,.ptr l k 0 o⟩:=by exact rfl)(kx:f=true->fx=true:=by exact bU)(hl:f=true->look m l=some (.buf k [d]):=by exact fun _=>rfl)(hv:f=true->ov d k n o ag=v:=by exact fun _=>rfl)(ho:o+n<=k:=by omega):aG Y draw (⟨.ld n ag x,g⟩::r) env rs nx m K:=
 ik rfl hg _ (fun hf=>by simp only[aJ.dN,hx,Dh,fm,hl hf];exact⟨kx hf,⟨trivial,aT⟩,ho⟩) (fun hf=>by simp only[aJ.val,hx,BP,bf,hl hf,ku];exact hv hf) m rfl (fun ha=>h)
def Rw {x:Src}{fx:Bool}{n l k i o:Nat}{ag:Bool}{es:List D}(v:D)(h:aG Y draw r env (⟨f,v⟩::rs) nx m K)(hg:GF rs g f:=by exact cX)(hx:cv env rs x=⟨fx,.ptr l k i o⟩:=by exact rfl)(kx:f=true->fx=true:=by exact bU)(hl:f=true->look m l=some (.buf k es):=by exact fun _=>rfl)(hi:f=true->i<es.length)(hv:f=true->ov (es.getD i .any) k n o ag=v)(ho:o+n<=k:=by omega):aG Y draw (⟨.ld n ag x,g⟩::r) env rs nx m K:=
 ik rfl hg _ (fun hf=>by simp only[aJ.dN,hx,Dh,fm,hl hf];exact⟨kx hf,⟨trivial,by have:=hi hf;omega⟩,ho⟩) (fun hf=>by simp only[aJ.val,hx,BP,bf,hl hf];exact hv hf) m rfl (fun ha=>h)
def oC {x:Src}{fx:Bool}{α:Type} [Inhabited α]{n l k i o:Nat}{ag:Bool}{q:α->D}{xs:List α}(v:D)(h:aG Y draw r env (⟨f,v⟩::rs) nx m K)(hg:GF rs g f:=by exact cX)(hx:cv env rs x=⟨fx,.ptr l k i o⟩:=by exact rfl)(kx:f=true->fx=true:=by exact bU)(hl:f=true->look m l=some (.buf k (xs.map q)):=by exact fun _=>rfl)(hi:f=true->i<xs.length:=by exact sB)(hv:f=true->ov (q xs[i]!) k n o ag=v:=by exact fun _=>rfl)(ho:o+n<=k:=by omega):aG Y draw (⟨.ld n ag x,g⟩::r) env rs nx m K:=
 ik rfl hg _ (fun hf=>by simp only[aJ.dN,hx,Dh,fm,hl hf,cI];exact⟨kx hf,⟨trivial,by have:=hi hf;omega⟩,ho⟩) (fun hf=>by simp only[aJ.val,hx,BP,bf,hl hf];rw[getD_map (hi hf)];exact hv hf) m rfl (fun ha=>h)
def cy {x:Src}{fx:Bool}{α:Type} [Inhabited α]{n k i o:Nat}{ag:Bool}{q:α->D}{xs:List α}(v:D)(h:aG Y draw r env (⟨f,v⟩::rs) nx m K)(hg:GF rs g f:=by exact cX)(hx:cv env rs x=⟨fx,.ref k (xs.map q) i o⟩:=by exact rfl)(kx:f=true->fx=true:=by exact bU)(hi:f=true->i<xs.length:=by exact sB)(hv:f=true->ov (q xs[i]!) k n o ag=v:=by exact fun _=>rfl)(ho:o+n<=k:=by omega):aG Y draw (⟨.ld n ag x,g⟩::r) env rs nx m K:=
 ik rfl hg _ (fun hf=>by simp only[aJ.dN,hx,Dh,cI];exact⟨kx hf,hi hf,ho⟩) (fun hf=>by simp only[aJ.val,hx,BP];rw[getD_map (hi hf)];exact hv hf) m rfl (fun ha=>h)
def eO {x:Src}{fx:Bool}{n k i o:Nat}{ag:Bool}{es:List D}(v:D)(h:aG Y draw r env (⟨f,v⟩::rs) nx m K)(hg:GF rs g f:=by exact cX)(hx:cv env rs x=⟨fx,.ref k es i o⟩:=by exact rfl)(kx:f=true->fx=true:=by exact bU)(hi:f=true->i<es.length:=by intro _;simp only[ay,az];omega)(hv:f=true->ov (es.getD i .any) k n o ag=v:=by exact fun _=>rfl)(ho:o+n<=k:=by omega):aG Y draw (⟨.ld n ag x,g⟩::r) env rs nx m K:=
 ik rfl hg _ (fun hf=>by simp only[aJ.dN,hx,Dh];exact⟨kx hf,hi hf,ho⟩) (fun hf=>by simp only[aJ.val,hx,BP];exact hv hf) m rfl (fun ha=>h)
def Rr {x:Src}{fx:Bool}{k:Nat}{d:D}{L:Nat}{m2:List (Nat×bK)}(h:aG Y draw r env (⟨f,.ptr L k 0 0⟩::rs) nx m2 K)(hg:GF rs g f:=by exact cX)(hx:cv env rs x=⟨fx,d⟩:=by exact rfl)(kx:f=true->fx=true:=by exact bU)(hc:d.cells.length=k:=by exact rfl)(hL:nx+rs.length=L:=by exact vO)(hm:dC m L (.buf k [d])=m2:=by simp only[dC,dH,Nat.reduceEqDiff,br,bn,Nat.reduceAdd,reduceCtorEq];exact rfl):aG Y draw (⟨.box k x,g⟩::r) env rs nx m K:=
 ik rfl hg _ (fun hf=>by simp only[aJ.dN,hx];exact⟨kx hf,hc⟩) (fun hf=>by simp only[aJ.val,hx,hL]) _ (by simp only[aJ.cE,hx,hL];exact hm) (fun _=>h)
def Rx {L:Nat}{m2:List (Nat×bK)}(h:aG Y draw r env (⟨f,.ptr L 2 0 0⟩::rs) nx m2 K)(hg:GF rs g f:=by exact cX)(hL:nx+rs.length=L:=by exact vO)(hm:dC m L (.bld none 0 false)=m2:=by simp only[dC,dH,Nat.reduceEqDiff,br,bn,Nat.reduceAdd,reduceCtorEq];exact rfl):aG Y draw (⟨.mkB,g⟩::r) env rs nx m K:=
 ik rfl hg _ (fun _=>trivial) (fun hf=>by simp only[aJ.val,hL]) _ (by simp only[aJ.cE,hL];exact hm) (fun _=>h)
def RC {x:Src}{fx:Bool}{s:List UInt8}{L:Nat}{m2:List (Nat×bK)}(h:aG Y draw r env (⟨f,.own L 1 0 s.length⟩::rs) nx m2 K)(hg:GF rs g f:=by exact cX)(hx:cv env rs x=⟨fx,.str s⟩:=by exact rfl)(kx:f=true->fx=true:=by exact bU)(hL:nx+rs.length=L:=by exact vO)(hm:dC m L (.buf 1 (s.map fun b=>.int .u8 b.toNat))=m2:=by simp only[dC,dH,Nat.reduceEqDiff,br,bn,Nat.reduceAdd,reduceCtorEq];exact rfl):aG Y draw (⟨.s2b x,g⟩::r) env rs nx m K:=
 ik rfl hg _ (fun hf=>by simp only[aJ.dN,hx];exact⟨kx hf,trivial⟩) (fun hf=>by simp only[aJ.val,hx,hL]) _ (by simp only[aJ.cE,hx,hL];exact hm) (fun _=>h)
def RB {x:Src}{fx:Bool}{s:List UInt8}{L:Nat}{m2:List (Nat×bK)}(h:aG Y draw r env (⟨f,.it L⟩::rs) nx m2 K)(hg:GF rs g f:=by exact cX)(hx:cv env rs x=⟨fx,.str s⟩:=by exact rfl)(kx:f=true->fx=true:=by exact bU)(hL:nx+rs.length=L:=by exact vO)(hm:dC m L (.iter s 0)=m2:=by simp only[dC,dH,Nat.reduceEqDiff,br,bn,Nat.reduceAdd,reduceCtorEq];exact rfl):aG Y draw (⟨.nT x,g⟩::r) env rs nx m K:=
 ik rfl hg _ (fun hf=>by simp only[aJ.dN,hx];exact⟨kx hf,trivial⟩) (fun hf=>by simp only[aJ.val,hx,hL]) _ (by simp only[aJ.cE,hx,hL];exact hm) (fun _=>h)
def dK {k n:Nat}{z:D}{ps:List (Nat×Src)}{L:Nat}{m2:List (Nat×bK)}(es:List D)(h:aG Y draw r env (⟨f,.own L k 0 n⟩::rs) nx m2 K)(hg:GF rs g f:=by exact cX)(he:kC (cv env rs) (List.replicate n z) ps=es:=by exact rfl)(ho:f=true->p0 (cv env rs) k n ps:=by exact tv)(hz:z.cells.length=k:=by exact rfl)(hL:nx+rs.length=L:=by exact vO)(hm:dC m L (.buf k es)=m2:=by simp only[dC,dH,Nat.reduceEqDiff,br,bn,Nat.reduceAdd,reduceCtorEq];exact rfl):aG Y draw (⟨.bsl k z n ps,g⟩::r) env rs nx m K:=
 ik rfl hg _ (fun hf=>⟨hz,ho hf⟩) (fun hf=>by simp only[aJ.val,hL]) _ (by simp only[aJ.cE,he,hL];exact hm) (fun _=>h)
def Lb {k:Nat}{z:D}{x y:Src}{k1 k2:IntKind}{a c:Int}{L:Nat}{m2:List (Nat×bK)}(n:Nat)(h:aG Y draw r env (⟨true,.own L k 0 n⟩::rs) nx m2 K)(hx:cv env rs x=⟨true,.int k1 a⟩:=by exact rfl)(hy:cv env rs y=⟨true,.int k2 c⟩:=by exact rfl)(hn:a=(n:Int):=by first|exact rfl|omega)(hc:a<=c/\c<=1073741824:=by constructor<;>omega)(hz:z.cells.length=k:=by exact rfl)(hL:nx+rs.length=L:=by exact vO)(hm:dC m L (.buf k (List.replicate n z))=m2:=by simp only[dC,dH,Nat.reduceEqDiff,br,bn,Nat.reduceAdd,reduceCtorEq];exact rfl):aG Y draw (⟨.mks k z x y,none⟩::r) env rs nx m K:=
 sg rfl _ (by simp only[aJ.dN,hx,hy];exact⟨trivial,trivial,hz,ae,hc.1,hc.2⟩) (by simp only[aJ.val,hx,hL,D.nat,hn];rfl) _ (by simp only[aJ.cE,hx,hL,D.nat,hn];exact hm) (fun _=>h)
def bL {n l k o:Nat}{x y:Src}{d v:D}{m2:List (Nat×bK)}(e:D)(h:aG Y draw r env (⟨true,.any⟩::rs) nx m2 K)(hx:cv env rs x=⟨true,.ptr l k 0 o⟩:=by exact rfl)(hy:cv env rs y=⟨true,v⟩:=by exact rfl)(hl:look m l=some (.buf k [d]):=by exact rfl)(hc:v.cells.length=n:=by exact rfl)(he:sw d k n o v=e:=by exact rfl)(ho:o+n<=k:=by omega)(hm:dC m l (.buf k [e])=m2:=by simp only[dC,dH,Nat.reduceEqDiff,br,bn,Nat.reduceAdd,reduceCtorEq];exact rfl):aG Y draw (⟨.st n x y,none⟩::r) env rs nx m K:=
 sg rfl _ (by simp only[aJ.dN,hx,hy,fm,hl];exact⟨trivial,trivial,hc,⟨trivial,aT⟩,ho⟩) rfl _ (by simp only[aJ.cE,hx,hy,bf,hl,ku,List.set_cons_zero,he];exact hm) (fun _=>h)
def Ad {n l k i o:Nat}{x y:Src}{v:D}{es:List D}{m2:List (Nat×bK)}(es2:List D)(h:aG Y draw r env (⟨true,.any⟩::rs) nx m2 K)(hx:cv env rs x=⟨true,.ptr l k i o⟩:=by exact rfl)(hy:cv env rs y=⟨true,v⟩:=by exact rfl)(hl:look m l=some (.buf k es):=by exact rfl)(hi:i<es.length)(hc:v.cells.length=n:=by exact rfl)(he:es.set i (sw (es.getD i .any) k n o v)=es2)(ho:o+n<=k:=by omega)(hm:dC m l (.buf k es2)=m2:=by simp only[dC,dH,Nat.reduceEqDiff,br,bn,Nat.reduceAdd,reduceCtorEq];exact rfl):aG Y draw (⟨.st n x y,none⟩::r) env rs nx m K:=
 sg rfl _ (by simp only[aJ.dN,hx,hy,fm,hl];exact⟨trivial,trivial,hc,⟨trivial,ae⟩,ho⟩) rfl _ (by simp only[aJ.cE,hx,hy,bf,hl,he];exact hm) (fun _=>h)
def sC (m:List (Nat×bK))(k:Nat)(d:D)(ys:List D):Prop:=yc m k d/\nL m d=ys
def sC.sl {k:Nat}{es:List D}:sC m k (.sl k es) es:=⟨rfl,rfl⟩
def sC.aV {k:Nat}:sC m k .aV []:=⟨trivial,rfl⟩
def sC.own {l k i n:Nat}{es:List D}(hl:look m l=some (.buf k es))(hb:i+n<=es.length):sC m k (.own l k i n) ((es.drop i).take n):=⟨⟨rfl,by simp only[fm,hl];exact⟨trivial,hb⟩⟩,by simp only[nL,bf,hl]⟩
def sC.all {l k n:Nat}{es:List D}(hl:look m l=some (.buf k es))(hb:n=es.length):sC m k (.own l k 0 n) es:=by
 have:=sC.own (i:=0) (n:=n) hl ae;simpa[hb]using this
def sC.str {s:List UInt8}:sC m 1 (.str s) (s.map fun b=>.int .u8 b.toNat):=⟨rfl,rfl⟩
def va {k l i a n:Nat}{x y:Src}{d:D}{xs ys:List D}{L:Nat}{m2:List (Nat×bK)}(zs:List D)(h:aG Y draw r env (⟨true,.own L k 0 n⟩::rs) nx m2 K)(hx:cv env rs x=⟨true,.own l k i a⟩:=by exact rfl)(hy:cv env rs y=⟨true,d⟩:=by exact rfl)(hl:look m l=some (.buf k xs):=by exact rfl)(ha:i+a<=xs.length)(he:sC m k d ys)(hz:(xs.drop i).take a++ys=zs)(hn:a+ys.length=n)(hb:n<=1073741824:=by omega)(hL:nx+rs.length=L:=by exact vO)(hm:dC (dH m l) L (.buf k zs)=m2:=by simp only[dC,dH,Nat.reduceEqDiff,br,bn,Nat.reduceAdd,reduceCtorEq];exact rfl):aG Y draw (⟨.app k x y,none⟩::r) env rs nx m K:=
 sg rfl _ (by simp only[aJ.dN,hx,hy,he.2,fm,hl,hn];exact⟨trivial,trivial,he.1,trivial,⟨trivial,ha⟩,hb⟩) (by simp only[aJ.val,hx,hy,he.2,hn,hL]) _ (by simp only[aJ.cE,hx,hy,he.2,bf,hl,hz,hL];exact hm) (fun _=>h)
def yC {α:Type}{q:α->D}{xs:List α}{e:α}{k l ly:Nat}{x y:Src}{L:Nat}{m2:List (Nat×bK)}(h:aG Y draw r env (⟨true,.own L k 0 (xs++[e]).length⟩::rs) nx m2 K)(hx:cv env rs x=⟨true,.own l k 0 xs.length⟩:=by exact rfl)(hy:cv env rs y=⟨true,.own ly k 0 1⟩:=by exact rfl)(hl:look m l=some (.buf k (xs.map q)):=by exact rfl)(he:look m ly=some (.buf k [q e]):=by exact rfl)(hb:xs.length+1<=1073741824:=by omega)(hL:nx+rs.length=L:=by exact vO)(hm:dC (dH m l) L (.buf k ((xs++[e]).map q))=m2:=by simp only[dC,dH,Nat.reduceEqDiff,br,bn,Nat.reduceAdd,reduceCtorEq];exact rfl):aG Y draw (⟨.app k x y,none⟩::r) env rs nx m K:=
 va (zs:=(xs++[e]).map q) (hx:=hx) (hy:=hy) (hl:=hl) (ha:=aT) (he:=sC.all (es:=[q e]) he rfl) (hz:=by rw[dx,dQ aT];simp) (hn:=aT) (hb:=cz) (hL:=hL) (hm:=hm) (h:=h)
def M5 {α:Type}{q:α->D}{xs ys:List α}{k l:Nat}{x y:Src}{d:D}{L:Nat}{m2:List (Nat×bK)}(h:aG Y draw r env (⟨true,.own L k 0 (xs++ys).length⟩::rs) nx m2 K)(hx:cv env rs x=⟨true,.own l k 0 xs.length⟩:=by exact rfl)(hy:cv env rs y=⟨true,d⟩:=by exact rfl)(hl:look m l=some (.buf k (xs.map q)):=by exact rfl)(he:sC m k d (ys.map q))(hb:xs.length+ys.length<=1073741824:=by omega)(hL:nx+rs.length=L:=by exact vO)(hm:dC (dH m l) L (.buf k ((xs++ys).map q))=m2:=by simp only[dC,dH,Nat.reduceEqDiff,br,bn,Nat.reduceAdd,reduceCtorEq];exact rfl):aG Y draw (⟨.app k x y,none⟩::r) env rs nx m K:=
 va (zs:=(xs++ys).map q) (hx:=hx) (hy:=hy) (hl:=hl) (ha:=aT) (he:=he) (hz:=by rw[dx,dQ aT];simp) (hn:=aT) (hb:=cz) (hL:=hL) (hm:=hm) (h:=h)
def Ac {x:Src}{fx:Bool}{d:D}{ys:List D}(s:List UInt8)(h:aG Y draw r env (⟨f,.str s⟩::rs) nx m K)(hg:GF rs g f:=by exact cX)(hx:cv env rs x=⟨fx,d⟩:=by exact rfl)(kx:f=true->fx=true:=by exact bU)(he:f=true->sC m 1 d ys)(hs:f=true->ys=s.map fun b=>.int .u8 b.toNat)(hd:d.MI=false:=by exact rfl):aG Y draw (⟨.b2s x,g⟩::r) env rs nx m K:=
 ik rfl hg _ (fun hf=>by
  simp only[aJ.dN,hx,(he hf).2,hs hf];refine⟨kx hf,(by cases d<;>first|trivial|(cases hd)),(he hf).1,fun e hm=>?_⟩;obtain⟨b,_,rfl⟩:=eI.1 hm;have:=b.toNat_lt;exact⟨rfl,ae,ae⟩) (fun hf=>by simp only[aJ.val,hx,(he hf).2,hs hf];rw[Jj]) m rfl (fun _=>h)
def yG {x:Src}{l pos:Nat}{s:List UInt8}{m2:List (Nat×bK)}(c w:Nat)(h:aG Y draw r env (⟨true,.tup [.bool true,.int .i64 pos,.int .i32 c]⟩::rs) nx m2 K)(hx:cv env rs x=⟨true,.it l⟩:=by exact rfl)(hl:look m l=some (.iter s pos):=by exact rfl)(hp:pos<s.length)(hc:rL s pos=(c,w))(hm:dC m l (.iter s (pos+w))=m2:=by simp only[dC,dH,Nat.reduceEqDiff,br,bn,Nat.reduceAdd,reduceCtorEq];exact rfl):aG Y draw (⟨.vU x,none⟩::r) env rs nx m K:=
 sg rfl _ (by simp only[aJ.dN,hx,hl];exact⟨trivial,trivial⟩) (by simp only[aJ.val,hx,hl,hc,hp,decide_true,cond_true]) _ (by simp only[aJ.cE,hx,hl,hc,hp,decide_true,cond_true];exact hm) (fun _=>h)
def yF {x:Src}{l pos:Nat}{s:List UInt8}(h:aG Y draw r env (⟨true,.tup [.bool false]⟩::rs) nx m K)(hx:cv env rs x=⟨true,.it l⟩:=by exact rfl)(hl:look m l=some (.iter s pos):=by exact rfl)(hp:¬pos<s.length):aG Y draw (⟨.vU x,none⟩::r) env rs nx m K:=
 sg rfl _ (by simp only[aJ.dN,hx,hl];exact⟨trivial,trivial⟩) (by simp only[aJ.val,hx,hl,hp,decide_false,cond_false]) _ (by simp only[aJ.cE,hx,hl,hp,decide_false,cond_false]) (fun _=>h)
def aq {n:Nat}{args:List Src}{sh:List (List Sh)}{acV:List D}{v:D}(h:aG Y draw r env (⟨f,v⟩::rs) nx m K)(hg:GF rs g f:=by exact cX)(hc:Y.pre n acV/\Y.val n acV=v)(ha:f=true->mg m sh (gX (cv env rs) args)=acV:=by exact fun _=>rfl)(ho:f=true->tn (cv env rs) args:=by exact tv)(hp:f=true->jd m sh (gX (cv env rs) args):=by exact tv)(hk:f=true->pT (gX (cv env rs) args) v=true:=by exact fun _=>rfl):aG Y draw (⟨.call n args sh,g⟩::r) env rs nx m K:=
 ik rfl hg _ (fun hf=>by simp only[aJ.dN,(ec _ _ _).1,ha hf,hc.2];exact⟨ho hf,(ec _ _ _).2.2 (hp hf),hc.1,hk hf⟩) (fun hf=>by simp only[aJ.val,(ec _ _ _).1,ha hf,hc.2]) m rfl (fun _=>h)
def dq {n:Nat}{args:List Src}{sh:List (List Sh)}{acV:List D}{v:D}(h:aG Y draw r env (⟨f,v⟩::rs) nx m K)(hg:GF rs g f:=by exact cX)(hc:f=true->Y.pre n acV/\Y.val n acV=v)(ha:f=true->mg m sh (gX (cv env rs) args)=acV:=by exact fun _=>rfl)(ho:f=true->tn (cv env rs) args:=by exact tv)(hp:f=true->jd m sh (gX (cv env rs) args):=by exact tv)(hk:f=true->pT (gX (cv env rs) args) v=true:=by exact fun _=>rfl):aG Y draw (⟨.call n args sh,g⟩::r) env rs nx m K:=
 ik rfl hg _ (fun hf=>by simp only[aJ.dN,(ec _ _ _).1,ha hf,(hc hf).2];exact⟨ho hf,(ec _ _ _).2.2 (hp hf),(hc hf).1,hk hf⟩) (fun hf=>by simp only[aJ.val,(ec _ _ _).1,ha hf,(hc hf).2]) m rfl (fun _=>h)
def Kb {n:Nat}{x:Src}{fx:Bool}{caps:List D}{args:List Src}{sh:List (List Sh)}{acV:List D}{v:D}(h:aG Y draw r env (⟨f,v⟩::rs) nx m K)(hg:GF rs g f:=by exact cX)(hx:cv env rs x=⟨fx,.fn n caps⟩:=by exact rfl)(kx:f=true->fx=true:=by exact bU)(hb:n<1000000:=by decide)(hc:f=true->Y.pre n acV/\Y.val n acV=v)(ha:f=true->mg m sh (gX (cv env rs) args++caps)=acV:=by exact fun _=>rfl)(ho:f=true->tn (cv env rs) args:=by exact tv)(hp:f=true->jd m sh (gX (cv env rs) args++caps):=by exact tv)(hk:f=true->pT (gX (cv env rs) args++caps) v=true:=by exact fun _=>rfl):aG Y draw (⟨.callv x args sh,g⟩::r) env rs nx m K:=
 ik rfl hg _ (fun hf=>by simp only[aJ.dN,hx,(ec _ _ _).1,ha hf,(hc hf).2];exact⟨kx hf,ho hf,hb,(ec _ _ _).2.2 (hp hf),(hc hf).1,hk hf⟩) (fun hf=>by simp only[aJ.val,hx,(ec _ _ _).1,ha hf,(hc hf).2]) m rfl (fun _=>h)
def Ry {n:Nat}{caps:List Src}(cs:List D)(h:aG Y draw r env (⟨f,.fn n cs⟩::rs) nx m K)(hg:GF rs g f:=by exact cX)(hc:f=true->gX (cv env rs) caps=cs:=by exact fun _=>rfl)(ho:f=true->tn (cv env rs) caps:=by exact tv):aG Y draw (⟨.mkf n caps,g⟩::r) env rs nx m K:=
 bJ rfl hg _ (fun hf=>ho hf) (fun hf=>by simp only[aJ.val,hc hf]) (fun _=>h)
end
end
end Go.Abs
section
namespace Go.Abs
abbrev au:=List UInt8
structure bX where
 major:Int
 minor:Int
 patch:Int
 pre:au
 build:au
 deriving Inhabited,DecidableEq
def bX.D (v:bX):D:=.agg [.int .i64 v.major,.int .i64 v.minor,.int .i64 v.patch,.str v.pre,.str v.build]
structure tw where
 name:au
 v:bX
 shelf:au
 sum:Int
 feats:List au
 deriving Inhabited,DecidableEq
def tw.D (x:tw):D:=.agg [.str x.name,.int .i64 x.v.major,.int .i64 x.v.minor,.int .i64 x.v.patch,.str x.v.pre,.str x.v.build,.str x.shelf,.int .u64 x.sum,.sl 1 (x.feats.map D.str)]
structure Env where
 e0:au
 e1:au
 e2:au
 deriving Inhabited,DecidableEq
def Env.D (e:Env):D:=.agg [.str e.e0,.str e.e1,.str e.e2]
structure y5 where
 env:Env
 lines:List tw
 deriving Inhabited,DecidableEq
def y5.D (l:y5):D:=.agg [.str l.env.e0,.str l.env.e1,.str l.env.e2,.sl 9 (l.lines.map tw.D)]
end Go.Abs
namespace Go.Abs
def qS (a b:List UInt8):Mx (.str a) (.str b)=decide (a=b):=mV a b
def tC (k k2:IntKind)(a b:Int):Mx (.int k a) (.int k2 b)=decide (a=b):=rfl
def bX.eq (a b:bX):gL (bX.D a).cells (bX.D b).cells=decide (a=b):=by
 obtain⟨a1,a2,a3,a4,a5⟩:=a;obtain⟨b1,b2,b3,b4,b5⟩:=b;simp only[bX.D,D.cells,gL,qS,tC,bX.mk.injEq,jr];simp only[Bool.decide_and]
def Env.eq (a b:Env):gL (Env.D a).cells (Env.D b).cells=decide (a=b):=by
 obtain⟨a1,a2,a3⟩:=a;obtain⟨b1,b2,b3⟩:=b;simp only[Env.D,D.cells,gL,qS,tC,Env.mk.injEq,jr];simp only[Bool.decide_and]
def bX.inj {a b:bX}(h:bX.D a=bX.D b):a=b:=by
 obtain⟨a1,a2,a3,a4,a5⟩:=a;obtain⟨b1,b2,b3,b4,b5⟩:=b;simp only[bX.D,D.agg.injEq,kv,D.int.injEq,D.str.injEq,ed,dW]at h;simp[h]
def Env.inj {a b:Env}(h:Env.D a=Env.D b):a=b:=by
 obtain⟨a1,a2,a3⟩:=a;obtain⟨b1,b2,b3⟩:=b;simp only[Env.D,D.agg.injEq,kv,D.int.injEq,D.str.injEq,ed,dW]at h;simp[h]
def map_inj {α:Type}{q:α->D}(hq:∀a b,q a=q b->a=b):∀{xs ys:List α},xs.map q=ys.map q->xs=ys
 |[],[],_=>rfl
 |[],_::_,h=>by simp at h
 |_::_,[],h=>by simp at h
 |a::r,b::s,h=>by
  simp only[List.map_cons,kv]at h;rw[hq a b h.1,map_inj hq h.2]
def str_inj (a b:List UInt8)(h:D.str a=D.str b):a=b:=by simpa using h
def tw.inj {a b:tw}(h:tw.D a=tw.D b):a=b:=by
 obtain⟨a1,⟨v1,v2,v3,v4,v5⟩,a2,a3,a4⟩:=a;obtain⟨b1,⟨w1,w2,w3,w4,w5⟩,b2,b3,b4⟩:=b;simp only[tw.D,D.agg.injEq,kv,D.int.injEq,D.str.injEq,D.sl.injEq,ed,dW]at h;have:=map_inj str_inj h.2.2.2.2.2.2.2.2;simp[h,this]
def y5.inj {a b:y5}(h:y5.D a=y5.D b):a=b:=by
 obtain⟨⟨a1,a2,a3⟩,a4⟩:=a;obtain⟨⟨b1,b2,b3⟩,b4⟩:=b;simp only[y5.D,D.agg.injEq,kv,D.str.injEq,D.sl.injEq,ed,dW]at h;have:=map_inj (fun _ _=>tw.inj) h.2.2.2;simp[h,this]
end Go.Abs
end
section
namespace Go.Abs
def allI (p:Nat->Bool):Nat->Nat->Bool
 |_,0=>true
 |i,k+1=>p i&&allI p (i+1) k
def cr (p:Nat->Bool)(i n:Nat):Bool:=allI p i (n-i)
def aK {p:Nat->Bool}{i n:Nat}(h:i<n):cr p i n=(p i&&cr p (i+1) n):=by
 unfold cr;rw[show n-i=(n-(i+1))+1 by omega];rfl
def bV {p:Nat->Bool}{i n:Nat}(h:n<=i):cr p i n=true:=by
 unfold cr;rw[show n-i=0 by omega];rfl
def zg {p:Nat->Bool}:∀{k i:Nat},allI p i k=true↔∀j,i<=j->j<i+k->p j=true
 |0,i=>by simp[allI];intro j h1 h2;omega
 |k+1,i=>by
  simp only[allI,aZ,zg (k:=k)];constructor
  ·rintro⟨h1,h2⟩ j hj1 hj2;rcases Nat.eq_or_lt_of_le hj1 with h|h
   ·exact h▸h1
   ·exact h2 j h ae
  ·intro h;exact⟨h i (aY _) ae,fun j h1 h2=>h j ae ae⟩
def fX {p:Nat->Bool}{i n:Nat}:cr p i n=true↔∀j,i<=j->j<n->p j=true:=by
 unfold cr;rw[zg];constructor
 ·intro h j h1 h2;exact h j h1 ae
 ·intro h j h1 h2;exact h j h1 ae
end Go.Abs
namespace Go.Abs
def aN {a a' b b':D}(h1:a=a')(h2:b=b'):D.tup [a,b]=D.tup [a',b']:=by rw[h1,h2]
def fT {a a' b b' c c':D}(h1:a=a')(h2:b=b')(h3:c=c'):D.tup [a,b,c]=D.tup [a',b',c']:=by rw[h1,h2,h3]
end Go.Abs
namespace Go.Abs
def ld8 (s:au)(i:Nat):ov (D.int .u8 (s[i]!).toNat) 1 1 0 false=.int .u8 (at8 s i):=by
 simp only[ov,D.isAgg,at8];simp;rfl
end Go.Abs
namespace Go.Abs
def qP (s:au)(pos:Nat)(h:pos<s.length):∃c w,rL s pos=(c,w)/\1<=w/\((w=1/\(c:Int)=at8 s pos/\c<128)\/(128<=c/\128<=at8 s pos)):=by
 refine⟨(rL s pos).1,(rL s pos).2,rfl, ?_⟩;have e:rL s pos=Lib.decodeN (s.length-pos) (s.getD pos 0).toNat (s.getD (pos+1) 0).toNat (s.getD (pos+2) 0).toNat (s.getD (pos+3) 0).toNat:=Lib.decode_N ⟨⟨s⟩⟩ pos;rw[e];unfold at8;generalize (s.getD pos 0).toNat=b0;generalize (s.getD (pos+1) 0).toNat=b1;generalize (s.getD (pos+2) 0).toNat=b2;generalize (s.getD (pos+3) 0).toNat=b3;generalize s.length-pos=n;by_cases hb:b0<128
 ·unfold Lib.decodeN;rw[av hb];exact⟨aY _,.inl ⟨rfl,rfl,hb⟩⟩
 ·unfold Lib.decodeN;rw[ai hb];have h2:(128:Int)<=(b0:Int):=ae;repeat' split
  all_goals exact⟨ae,.inr ⟨by simp only;omega,h2⟩⟩
end Go.Abs
namespace Go.Abs
def lX {α:Type}{q:α->D}{xs:List α}{m:List (Nat×bK)}{l:Nat}(hq:∀x,xV m [.a] (q x)=q x)(hl:look m l=some (.buf 1 (xs.map q))):xV m [.sl 1 [.a]] (.own l 1 0 xs.length)=.sl 1 (xs.map q):=by
 show D.sl 1 _=_;simp only[bf,hl,dx,cA,List.map_map];congr 1;apply List.map_congr_left;intro x _;have:=hq x;simp only[Function.comp];generalize q x=d at this;cases d<;>exact this
def j9 {α:Type}{q:α->D}{xs:List α}{m:List (Nat×bK)}{l:Nat}(hq:∀x,IX m [.a] (q x))(hl:look m l=some (.buf 1 (xs.map q))):IX m [.sl 1 [.a]] (.own l 1 0 xs.length):=by
 simp only[IX,Lj,Li];refine⟨by simp[fm,hl], ?_⟩;simp only[bf,hl,dx,cA];intro e he;obtain⟨x,_,rfl⟩:=eI.1 he;have:=hq x;generalize q x=d at this;cases d<;>exact this
end Go.Abs
end
namespace Go.Abs
def gO (c:Int):Bool:=decide (97<=c)&&decide (c<=122)
def bg (c:Int):Bool:=decide (48<=c)&&decide (c<=57)
def vI (c:Int):Bool:=gO c ||bg c ||decide (c=95)
def cb (s:au):Bool:=decide (1<=s.length)&&decide (s.length<=12)&&cr (fun i=>vI (at8 s i)) 0 s.length
def NN (s:au)(i:Nat):Bool:=(gO (at8 s i) ||bg (at8 s i) ||decide (at8 s i=45))&& !(decide (at8 s i=45)&&decide (at8 s (i-1)=45))
def ey (s:au):Bool:=decide (1<=s.length)&&decide (s.length<=16)&&gO (at8 s 0)&& !decide (at8 s (s.length-1)=45)&&cr (NN s) 1 s.length
def mf (s:au)(i:Nat):Bool:=gO (at8 s i) ||(bg (at8 s i)&& !decide (i=0)) ||(decide (at8 s i=45)&& !decide (i=0)&& !decide (i=s.length-1)&& !decide (at8 s (i-1)=45))
def JY (s:au)(h1:1<=s.length)(h2:s.length<=16):ey s=cr (mf s) 0 s.length:=by
 rw[Bool.eq_iff_iff];simp only[ey,bD h1,bD h2,eH,aZ,bB,bx,fX];constructor
 ·rintro⟨⟨h3,h4⟩,h5⟩ j _ hj;rcases Nat.eq_zero_or_pos j with rfl|hp
  ·simp[mf,h3]
  ·have:=h5 j hp hj;simp only[NN,aZ,cu,bB,dr,aR,bx]at this;simp only[mf,aZ,cu,bB,aR,bx];rcases this with⟨(h6|h6)|h6,h7⟩
   ·exact Or.inl (Or.inl h6)
   ·exact Or.inl (Or.inr ⟨h6,ae⟩)
   ·refine Or.inr ⟨⟨⟨h6,ae⟩, ?_⟩, ?_⟩
    ·rintro rfl;exact h4 h6
    ·rcases h7 with h7|h7
     ·exact absurd h6 h7
     ·exact h7
 ·intro h;have h0:=h 0 ae ae;have hlow:gO (at8 s 0)=true:=by simpa[mf]using h0
  refine⟨⟨hlow, ?_⟩,fun j hj1 hj2=>?_⟩
  ·intro he;have hl:=h (s.length-1) ae ae;rcases Nat.eq_or_lt_of_le h1 with e|e
   ·rw[<-e]at he;simp only[Nat.sub_self]at he;simp only[gO,aZ,aR]at hlow;omega
   ·simp only[mf,he,gO,bg]at hl;simp at hl
  ·have:=h j ae hj2;simp only[mf,aZ,cu,bB,aR,bx]at this;simp only[NN,aZ,cu,bB,dr,aR,bx];rcases this with(h6|h6)|h6
   ·refine⟨Or.inl (Or.inl h6),Or.inl ?_⟩;simp only[gO,aZ,aR]at h6;omega
   ·refine⟨Or.inl (Or.inr h6.1),Or.inl ?_⟩;have:=h6.1;simp only[bg,aZ,aR]at this;omega
   ·exact⟨Or.inr h6.1.1.1,Or.inr h6.2⟩
def eh (s:au):Nat:=s.foldl (fun n b=>n*10+(b.toNat-48)) 0
def gp (s:au):Bool:=decide (1<=s.length)&&decide (s.length<=9)&& !(decide (1<s.length)&&decide (at8 s 0=48))&&cr (fun i=>bg (at8 s i)) 0 s.length&&decide (eh s<=9999)
def iF (s:au):Int:=if gp s=true then(eh s:Int)else 0
def jl (s:au)(i:Nat)(h:i<s.length):s.take (i+1)=s.take i++[s.getD i 0]:=by
 rw[List.take_succ];simp[h]
def sP (s:au)(i:Nat)(h:i<s.length):eh (s.take (i+1))=eh (s.take i)*10+((at8 s i).toNat-48):=by
 rw[jl s i h];simp[eh,List.foldl_append,at8]
def E0 (s:au):eh s+23<=23*10^s.length:=by
 have:∀(s:au) (n k:Nat),n+23<=23*10^k->s.foldl (fun n b=>n*10+(b.toNat-48)) n+23<=23*10^(k+s.length):=by
  intro s;induction s with
  |nil=>intro n k h;simpa using h
  |cons b r ih=>
   intro n k h;have hb:=b.toNat_lt;have:=ih (n*10+(b.toNat-48)) (k+1) (by rw[Nat.pow_succ];omega);simp only[List.foldl_cons,ay];rw[show k+(r.length+1)=k+1+r.length by omega];exact this
 have:=this s 0 0 aT;simpa[eh]using this
def rh (s:au)(i:Nat)(h:i<=9):eh (s.take i)<=23000000000:=by
 have h1:=E0 (s.take i);have h2:(s.take i).length<=9:=cz;have h3:10^(s.take i).length<=10^9:=Nat.pow_le_pow_right ae h2;omega
def zW (s:au):∀n:Nat,s.foldl (fun n b=>n*10+(b.toNat-48)) n=n*10^s.length+eh s:=by
 unfold eh;induction s with
 |nil=>intro n;simp
 |cons b r ih=>
  intro n;simp only[List.foldl_cons,ay];rw[ih,ih (0*10+(b.toNat-48)),Nat.pow_succ];simp only[Nat.zero_mul,cT,Nat.add_mul];rw[Nat.mul_assoc n 10,Nat.mul_comm 10];omega
def sO (b:UInt8)(r:au):eh (b::r)=(b.toNat-48)*10^r.length+eh r:=by
 have:=zW r (0*10+(b.toNat-48));simp only[eh,List.foldl_cons]at this⊢;rw[this];simp
def sG {b:UInt8}{r:au}(h:cr (fun i=>bg (at8 (b::r) i)) 0 (b::r).length=true):bg b.toNat=true/\cr (fun i=>bg (at8 r i)) 0 r.length=true:=by
 rw[fX]at h;refine⟨by simpa[at8]using h 0 ae aT, ?_⟩;rw[fX];intro j _ hj;simpa[at8]using h (j+1) ae cz
def xa:∀(s:au),cr (fun i=>bg (at8 s i)) 0 s.length=true->eh s<10^s.length
 |[],_=>by simp[eh]
 |b::r,h=>by
  obtain⟨h1,h2⟩:=sG h;have:=xa r h2;rw[sO,ay,Nat.pow_succ];simp only[bg,aZ,aR]at h1;have h3:b.toNat-48<=9:=ae;have:=ek (10^r.length) h3;omega
def EZ {b:UInt8}{r:au}(h:49<=b.toNat):10^r.length<=eh (b::r):=by
 rw[sO];have:=ek (10^r.length) (show 1<=b.toNat-48 by omega);omega
def B1 (s:au):gp s=(decide (1<=s.length)&&decide (s.length<=4)&& !(decide (1<s.length)&&decide (at8 s 0=48))&&cr (fun i=>bg (at8 s i)) 0 s.length):=by
 unfold gp;cases hd:cr (fun i=>bg (at8 s i)) 0 s.length with
 |false=>simp
 |true=>
  have hlt:=xa s hd;by_cases h4:s.length<=4
  ·have:10^s.length<=10^4:=Nat.pow_le_pow_right ae h4;rw[bD h4,bD (by omega:s.length<=9),bD (by omega:eh s<=9999)];simp
  ·rw[cj h4]
   match s,hd,h4 with
   |b::r,hd,h4=>
    by_cases h0:at8 (b::r) 0=48
    ·rw[bD h0,bD (by omega:1<(b::r).length)];simp
    ·have h1:=(sG hd).1;simp only[bg,aZ,aR]at h1;have h2:49<=b.toNat:=by
      simp[at8]at h0;omega
     have h3:=EZ (r:=r) h2;have:10^4<=10^r.length:=Nat.pow_le_pow_right ae (by simp at h4;omega);rw[cj (by omega:¬eh (b::r)<=9999)];simp
def dg (n:Nat):UInt8:=UInt8.ofNat (48+n)
def x6:Nat->Nat->au
 |0,n=>[dg n]
 |f+1,n=>if n<10 then [dg n]else x6 f (n/10)++[dg (n%10)]
def dw (n:Nat):au:=x6 n n
def CZ:∀(f g n:Nat),n<=f->n<=g->x6 f n=x6 g n
 |0,0,n,_,_=>rfl
 |0,g+1,n,h,_=>by
  obtain rfl:n=0:=ae;simp[x6]
 |f+1,0,n,_,h=>by
  obtain rfl:n=0:=ae;simp[x6]
 |f+1,g+1,n,h1,h2=>by
  simp only[x6];split
  ·rfl
  ·rw[CZ f g (n/10) ae ae]
def oZ {n:Nat}(h:n<10):dw n=[dg n]:=by
 unfold dw;cases n<;>simp[x6,h]
def oY {n:Nat}(h:9<n):dw n=dw (n/10)++[dg (n%10)]:=by
 unfold dw;obtain⟨k,rfl⟩:∃k,n=k+1:=⟨n-1,ae⟩
 simp only[x6];rw[ai ae,CZ k ((k+1) /10) _ ae ae]
def dT:∀(k n:Nat),n<10^k->0<k->(dw n).length<=k:=by
 intro k;induction k with
 |zero=>intro n _ h;omega
 |succ k ih=>
  intro n h _;by_cases h10:n<10
  ·rw[oZ h10];simp
  ·rw[oY ae];have hk:0<k:=by
    rcases Nat.eq_zero_or_pos k with rfl|h0
    ·simp at h;omega
    ·exact h0
   have:=ih (n/10) (by rw[Nat.pow_succ]at h;omega) hk;simp;omega
def GQ {n:Nat}(h:n<10):((dg n).toNat:Int)=48+n:=by
 have:(48+n)%256=48+n:=Nat.mod_eq_of_lt ae;simp[dg,this]
def ch (b:Int):au->au->List au
 |[],cur=>[cur]
 |c::r,cur=>if(c.toNat:Int)=b then cur::ch b r []else ch b r (cur++[c])
def ar (s:au)(b:Int):List au:=ch b s []
def lO (s:au)(i:Nat)(h:i<s.length):s.drop i=s.getD i 0::s.drop (i+1):=by
 rw[kt h];simp[h]
def xq {s:au}{b:Int}{i fr:Nat}(h:i<s.length)(he:at8 s i=b):ch b (s.drop i) ((s.take i).drop fr)=((s.take i).drop fr)::ch b (s.drop (i+1)) ((s.take (i+1)).drop (i+1)):=by
 rw[lO s i h];have h2:(s.take (i+1)).drop (i+1)=[]:=aT;rw[h2];simp only[ch];rw[av (by simpa[at8]using he)]
def xr {s:au}{b:Int}{i fr:Nat}(h:i<s.length)(hf:fr<=i)(he:¬at8 s i=b):ch b (s.drop i) ((s.take i).drop fr)=ch b (s.drop (i+1)) ((s.take (i+1)).drop fr):=by
 rw[lO s i h,jl s i h,List.drop_append_of_le_length cz];simp only[ch];rw[ai (by simpa[at8]using he)]
def vw {s:au}{b:Int}{i fr:Nat}(h:s.length<=i):ch b (s.drop i) ((s.take i).drop fr)=[s.drop fr]:=by
 rw[mj h,dQ h];rfl
def qu (b:Int):∀(s cur:au),(ch b s cur).length<=s.length+1
 |[],cur=>by simp[ch]
 |c::r,cur=>by
  simp only[ch];split
  ·have:=qu b r [];simp;omega
  ·have:=qu b r (cur++[c]);simp;omega
def er (s:au)(b:Int):(ar s b).length<=s.length+1:=qu b s []
def fR (b:Int)(s cur:au):1<=(ch b s cur).length:=by
 induction s generalizing cur with
 |nil=>simp[ch]
 |cons c r ih=>
  simp only[ch];split
  ·simp
  ·exact ih _
def Jl (s:au)(b:Int)(i:Nat):au×au:=match(s.drop i).findIdx? (fun c=>decide ((c.toNat:Int)=b))with
 |some k=>(s.drop (i+k+1),s.take (i+k))
 |none=>([],s)
def CU (s:au)(b:Int):au×au:=Jl s b 0
def k9 (c:Int):Bool:=gO c ||bg c ||decide (c=45)
def nR (t:au):Bool:=decide (1<=t.length)&&decide (t.length<=8)&&cr (fun i=>k9 (at8 t i)) 0 t.length
def b6 (t:au):Bool:=cr (fun i=>bg (at8 t i)) 0 t.length&&decide (0<t.length)
def gu (p:Bool)(t:au):Bool:=nR t&& !(p&&b6 t&& !gp t)
def kF (s:au)(p:Bool):Bool:=decide ((ar s 46).length<=4)&&cr (fun i=>gu p (ar s 46)[i]!) 0 (ar s 46).length
def oM (s:au)(p:Bool):Bool:=decide (s=[]) ||kF s p
def kN (n:Int):Bool:=decide (0<=n)&&decide (n<=9999)
def eF (v:bX):Bool:=kN v.major&&kN v.minor&&kN v.patch&&oM v.pre true&&oM v.build false
def vH (v:bX):au:=dw v.major.toNat++[46]++dw v.minor.toNat++[46]++dw v.patch.toNat++(if v.pre=[]then []else 45::v.pre)++(if v.build=[]then []else 43::v.build)
def kR (v:bX):au:=if eF v=true then vH v else []
def bX.sm (v:bX):Prop:=v.pre.length<=1048576/\v.build.length<=1048576
def Ro (a b:Int):Int:=IntKind.u64.wrap ((BitVec.ofInt 64 a |||BitVec.ofInt 64 b).toNat)
def vM (a b:Int):Int:=IntKind.u64.wrap ((BitVec.ofInt 64 a^^^BitVec.ofInt 64 b).toNat)
def xm (a:Int)(k:Nat):Int:=IntKind.u64.wrap (a*2^k)
def pL (a:Int)(k:Nat):Int:=a.fdiv (2^k)
def Kl (h:Int)(k:Nat):Int:=Ro (xm h k) (pL h (64-k))
def DP (h:Int)(c:Int):Int:=IntKind.u64.wrap (Kl (vM h c) 13*18397679294719823053)
def sy (s:au):Int:=s.foldl (fun h c=>DP h c.toNat) 11400714819323198485
def vA (s:au):Int:=vM (sy s) (pL (sy s) 29)
def xz (s:au)(i:Nat)(h:i<s.length):sy (s.take (i+1))=DP (sy (s.take i)) (at8 s i):=by
 rw[jl s i h];simp[sy,List.foldl_append,at8]
def Hv (n:Int)(i:Nat):Nat:=(BitVec.ofInt 64 (pL n (4*i))&&&15#64).toNat
def B0 (n:Int)(i:Nat):Hv n i<16:=by
 unfold Hv;rw[BitVec.toNat_and];exact Nat.lt_of_le_of_lt Nat.and_le_right aM
def zU (n:Int)(i:Nat):IntKind.u64.wrap ((BitVec.ofInt 64 (pL n (4*i))&&&BitVec.ofInt 64 15).toNat)=(Hv n i:Nat):=by
 have h:=B0 n i;unfold Hv at h⊢;have e:BitVec.ofInt 64 15=15#64:=aM;rw[e,IntKind.wrap_u64];omega
def wh (k:Nat):UInt8:=([48,49,50,51,52,53,54,55,56,57,97,98,99,100,101,102]:au).getD k 0
def gv (n:Int):au:=(List.range 16).map fun j=>wh (Hv n (15-j))
def jQ (n:Int):(gv n).length=16:=by simp[gv]
def CF (n:Int)(k:Nat)(h:k<=16):((gv n).take k).length=k:=by simp[jQ];omega
def CE (n:Int)(k:Nat)(h:k<16):(gv n).take (k+1)=(gv n).take k++[([48,49,50,51,52,53,54,55,56,57,97,98,99,100,101,102]:au).getD (Hv n (15-k)) 0]:=by
 rw[jl _ k (by rw[jQ];omega)];congr 2;simp[gv,h,wh]
def JK (k:Nat)(h:k<10):((wh k).toNat:Int)=48+k:=by
 have:∀k:Fin 10,((wh k.1).toNat:Int)=48+k.1:=aM
 exact this ⟨k,h⟩
def JJ (k:Nat)(h:10<=k)(h2:k<16):((wh k).toNat:Int)=87+k:=by
 have:∀k:Fin 16,10<=k.1->((wh k.1).toNat:Int)=87+k.1:=aM
 exact this ⟨k,h2⟩ h
def ry (n:Int)(i:Nat):au:=List.replicate (16-i) 0++(gv n).drop (16-i)
def pk (n:Int)(i:Nat):(ry n i).length=16:=by simp[ry,jQ]
def FP (n:Int):ry n 16=gv n:=by simp[ry]
def FQ (n:Int)(i:Nat)(h:i<16):ry n (i+1)=(ry n i).set (15-i) (wh (Hv n i)):=by
 apply List.ext_getElem
 ·simp[pk]
 ·intro j h1 h2;rw[pk]at h1;simp only[ry,List.getElem_set,List.getElem_append,List.length_replicate,List.getElem_replicate,List.getElem_drop];by_cases hj:15-i=j
  ·subst hj;rw[av rfl,dif_neg ae];simp only[gv,List.getElem_map,List.getElem_range];congr 2;omega
  ·rw[ai hj];by_cases h3:j<16-(i+1)
   ·rw[dif_pos h3,dif_pos ae]
   ·rw[dif_neg h3,dif_neg ae];congr 1;omega
def yh (c:Int):Bool:=bg c ||(decide (97<=c)&&decide (c<=102))
def Hc (c:Int):Int:=if bg c=true then c-48 else c-87
def rp (n c:Int):Int:=Ro (xm n 4) (Hc c)
def rm (s:au):Int:=s.foldl (fun n c=>rp n c.toNat) 0
def vi (s:au)(i:Nat)(h:i<s.length):rm (s.take (i+1))=rp (rm (s.take i)) (at8 s i):=by
 rw[jl s i h];simp[rm,List.foldl_append,at8]
def nG (s:au):Bool:=decide (s.length=16)&&cr (fun i=>yh (at8 s i)) 0 s.length
def vj (s:au):Int:=if nG s=true then rm s else 0
def Env.at (e:Env):Nat->au
 |0=>e.e0
 |1=>e.e1
 |_=>e.e2
def Env.ld (e:Env){i:Nat}(h:i<3):ov (Env.D e) 3 1 (0+i*1) false=.str (e.at i):=by
 match i,h with
 |0,_=>rfl
 |1,_=>rfl
 |2,_=>rfl
def y5.ld (l:y5){i:Nat}(h:i<3):ov (y5.D l) 4 1 (0+i*1) false=.str (l.env.at i):=by
 match i,h with
 |0,_=>rfl
 |1,_=>rfl
 |2,_=>rfl
def Env.cut (e:Env){i:Nat}(h:i<3):Abs.cut [.str e.e0,.str e.e1,.str e.e2] (i*1) 1 false=.str (e.at i):=by
 match i,h with
 |0,_=>rfl
 |1,_=>rfl
 |2,_=>rfl
def tw.sm (x:tw):Prop:=x.v.sm/\x.name.length<=1048576/\x.shelf.length<=1048576/\x.feats.length<=1048576/\∀t∈x.feats,t.length<=1048576
def y5.sm (l:y5):Prop:=l.lines.length<=1048576/\(∀x∈l.lines,x.sm)/\∀i,(l.env.at i).length<=1048576
def bS {α:Type} [Inhabited α]{l:List α}{i:Nat}(h:i<l.length):l[i]! ∈l:=by
 simp[h]
structure Kp where
 name:au
 v:bX
 deriving Inhabited,DecidableEq
def Kp.D (x:Kp):D:=.agg [.str x.name,.int .i64 x.v.major,.int .i64 x.v.minor,.int .i64 x.v.patch,.str x.v.pre,.str x.v.build]
def It {α:Type} [Inhabited α] [DecidableEq α]{a b:List α}(h:a.length=b.length):decide (a=b)=cr (fun i=>decide (a[i]! =b[i]!)) 0 a.length:=by
 rw[Bool.eq_iff_iff,aR,fX];constructor
 ·rintro rfl j _ _;simp
 ·intro hj;apply List.ext_getElem h;intro i h1 h2;have:=hj i ae h1;simpa[h1,h2]using this
def tw.same {a b:tw}(e1:a.name=b.name)(e2:a.v=b.v)(e3:a.shelf=b.shelf)(e4:a.sum=b.sum)(e5:a.feats.length=b.feats.length):decide (a=b)=cr (fun i=>decide (a.feats[i]! =b.feats[i]!)) 0 a.feats.length:=by
 rw[<-It e5];obtain⟨a1,a2,a3,a4,a5⟩:=a;obtain⟨b1,b2,b3,b4,b5⟩:=b;simp only at e1 e2 e3 e4;subst e1;subst e2;subst e3;subst e4;simp
def bc (b:au):List au->au
 |[]=>[]
 |[t]=>t
 |t::u::r=>t++b++bc b (u::r)
def jJ (b t:au)(r:List au)(h:r≠[]):bc b (t::r)=t++b++bc b r:=by
 cases r with
 |nil=>exact absurd rfl h
 |cons u r=>rfl
def od {α:Type}(q:α->au)(B:Nat):∀l:List α,(∀x∈l,(q x).length<=B)->((l.map q).flatten).length<=l.length*B
 |[],_=>aT
 |a::r,h=>by
  have h1:=h a (.head _);have h2:=od q B r fun x hx=>h x (.tail _ hx)
  simp only[List.map_cons,List.flatten_cons,bA,ay,Nat.succ_mul];omega
def vG (v:bX)(h:v.sm):(kR v).length<=2097200:=by
 unfold kR;split
 ·rename_i hv;simp only[eF,aZ]at hv;obtain⟨⟨⟨⟨hv1,hv2⟩,hv3⟩,_⟩,_⟩:=hv;simp only[kN,aZ,aR]at hv1 hv2 hv3;have hl1:=dT 4 v.major.toNat ae ae;have hl2:=dT 4 v.minor.toNat ae ae;have hl3:=dT 4 v.patch.toNat ae ae;obtain⟨h1,h2⟩:=h;unfold vH;split<;>split<;>simp<;>omega
 ·simp
def Env.sm (e:Env):Prop:=∀i,(e.at i).length<=1048576
end Go.Abs
section
namespace Go.Abs
def M4 (v n:Int):Int:=if n<1 then 0 else if v.tmod n<0 then v.tmod n+n else v.tmod n
def atI (l:List Int)(i:Int):Int:=if i<0\/(l.length:Int)<=i then i.tmod 3 else l[i.toNat]!
structure Gs where
 l:List Int
 i:Int
 deriving Inhabited
def Gs.D (g:Gs):D:=.agg [.sl 1 (g.l.map (D.int .i64)),.int .i64 g.i]
def Gs.val (g:Gs)(n:Int):Int:=M4 (atI g.l g.i) n
def Gs.vU (g:Gs):Gs:=⟨g.l,g.i+1⟩
def fE (s:au)(b:UInt8):au×au×Bool:=match s.findIdx? (fun c=>c==b)with
 |some k=>(s.take k,s.drop (k+1),true)
 |none=>(s,[],false)
def cO (s p:au):au×Bool:=if p.isPrefixOf s=true then(s.drop p.length,true)else(s,false)
def GN (s:au)(b:UInt8):(fE s b).1.length<=s.length/\((fE s b).2.2=true->(fE s b).1.length+1<=s.length):=by
 unfold fE;split
 ·rename_i k h;have:=List.findIdx?_eq_some_iff_findIdx_eq.1 h;simp only[fU];omega
 ·simp
structure KT where
 s:au
 at':Nat
 n:Nat
def KT.D (r:KT):D:=.agg [.str r.s,.int .i64 (r.at':Nat),.int .i64 (r.n:Nat)]
def KT.ln (r:KT):au×au×Bool:=fE (r.s.drop r.at') 10
def KT.vU (r:KT):KT:=⟨r.s,if r.ln.2.2=true then r.at'+(r.ln.1.length+1)else r.at',r.n+1⟩
def pC:bX:=⟨0,0,0,[],[]⟩
def verQ (s:au):Option bX:=
 let a:=CU s 43
 let b:=CU a.2 45
 let l:=ar b.2 46
 if l.length=3/\gp l[0]! =true/\gp l[1]! =true/\gp l[2]! =true then
  let v:bX:=⟨iF l[0]!,iF l[1]!,iF l[2]!,b.1,a.1⟩
  if eF v=true/\kR v=s then some v else none
 else none
def JX (l:List au)(i:Nat):D:=.agg [.int .i64 (if 0<i then iF l[0]! else 0),.int .i64 (if 1<i then iF l[1]! else 0),.int .i64 (if 2<i then iF l[2]! else 0)]
def Hs (l:List au)(i:Nat)(h:i<3):sw (JX l i) 3 1 (0+i*1) (.int .i64 (iF l[i]!))=JX l (i+1):=by
 match i,h with
 |0,_=>rfl
 |1,_=>rfl
 |2,_=>rfl
def qv (b:Int):∀(s cur:au),∀t∈ch b s cur,t.length<=cur.length+s.length
 |[],cur,t,h=>by simp only[ch,cJ]at h;subst h;simp
 |c::r,cur,t,h=>by
  simp only[ch]at h;split at h
  ·rcases dy.1 h with rfl|h
   ·simp
   ·have:=qv b r [] t h;simp at this⊢;omega
  ·have:=qv b r (cur++[c]) t h;simp at this⊢;omega
def gS (s:au)(b:Int){t:au}(h:t∈ar s b):t.length<=s.length:=by
 have:=qv b s [] t h;simpa using this
def nv (s:au)(b:Int){i:Nat}(h:i<(ar s b).length):((ar s b)[i]!).length<=s.length:=gS s b (bS h)
end Go.Abs
namespace Go.Abs
end Go.Abs
namespace Go.Abs
end Go.Abs
namespace Go.Abs
end Go.Abs
namespace Go.Abs
def Bx (s p:au):(cO s p).1.length<=s.length:=by
 unfold cO;split<;>simp
end Go.Abs
namespace Go.Abs
variable {e:Env} {f:Nat} {r:KT} {ls:List tw}
end Go.Abs
namespace Go.Abs
end Go.Abs
end
namespace Go.Abs
section
section
variable {Y:Ctx} {draw:Bool} {r:List GI} {env rs:List bI} {nx:Nat} {m:List (Nat×bK)} {K:List bI->St->Prop} {g:Option (Nat×Bool)} {f:Bool}
def cd {n:Nat}{args:List Src}{acV:List D}{v:D}{nx':Nat}{m':List (Nat×bK)}(h:aG Y draw r env (⟨true,v⟩::rs) nx' m' K)
  (hc:∀K':D->St->Prop,K' v ⟨nx'+rs.length,m'⟩->Y.tr n acV ⟨nx+rs.length,m⟩ K') (hn:nx<=nx') (ha:gX (cv env rs) args=acV:=by exact rfl)
  (ho:tn (cv env rs) args:=by repeat' first|exact trivial|exact rfl|refine And.intro ?_ ?_):aG Y draw (⟨.callM n args,none⟩::r) env rs nx m K:=by
 unfold aG;show True/\(true=true->tn (Src.ev env rs.reverse) args/\Y.tr n (gX (Src.ev env rs.reverse) args) {nx:=nx+rs.reverse.length,m:=m} _)/\(true=false->_);rw[kM,List.length_reverse,ha];refine⟨trivial,fun _=>⟨ho,hc _ ⟨by show nx+rs.length<=nx'+rs.length;omega, ?_⟩⟩,fun h=>by cases h⟩;unfold aG at h;rw[List.reverse_cons]at h;have e:nx'+rs.length-rs.length=nx':=ae;simp only[e];exact h
def Nr {l k i0 n:Nat}{x y z:Src}{fx fy fz:Bool}{kh km:IntKind}{h' m':Int}(j:Nat)(h:aG Y draw r env (⟨f,.own l k i0 j⟩::rs) nx m K)(hg:GF rs g f:=by exact cX)(hx:cv env rs x=⟨fx,.own l k i0 n⟩:=by exact rfl)(hy:cv env rs y=⟨fy,.int kh h'⟩:=by exact rfl)(hz:cv env rs z=⟨fz,.int km m'⟩:=by exact rfl)
  (kx:f=true->fx=true:=by exact bU) (ky:f=true->fy=true:=by exact bU) (kz:f=true->fz=true:=by exact bU)
  (hj:f=true->h'=(j:Int)) (hb:f=true->(j:Int)<=m'/\m'<=(n:Int)):aG Y draw (⟨.slX k x y z,g⟩::r) env rs nx m K:=
 bJ rfl hg _ (fun hf=>by have h1:=hj hf;have h2:=hb hf;simp only[aJ.dN,hx,hy,hz];exact⟨kx hf,ky hf,kz hf,ae,ae,trivial,h2.2⟩) (fun hf=>by simp only[aJ.val,hx,hy];rw[hj hf,Int.toNat_natCast]) (fun _=>h)
def Nq {α:Type}{q:α->D}{s:List α}{k:Nat}{x y z:Src}{fx fy fz:Bool}{kh km:IntKind}{h' m':Int}(j:Nat)(h:aG Y draw r env (⟨f,.sl k ((s.take j).map q)⟩::rs) nx m K)(hg:GF rs g f:=by exact cX)(hx:cv env rs x=⟨fx,.sl k (s.map q)⟩:=by exact rfl)(hy:cv env rs y=⟨fy,.int kh h'⟩:=by exact rfl)(hz:cv env rs z=⟨fz,.int km m'⟩:=by exact rfl)
  (kx:f=true->fx=true:=by exact bU) (ky:f=true->fy=true:=by exact bU) (kz:f=true->fz=true:=by exact bU)
  (hj:f=true->h'=(j:Int)) (hb:f=true->(j:Int)<=m'/\m'<=(s.length:Int)):aG Y draw (⟨.slX k x y z,g⟩::r) env rs nx m K:=
 bJ rfl hg _ (fun hf=>by have h1:=hj hf;have h2:=hb hf;simp only[aJ.dN,hx,hy,hz,cI];exact⟨kx hf,ky hf,kz hf,ae,ae,trivial,h2.2⟩) (fun hf=>by simp only[aJ.val,hx,hy];rw[hj hf,Int.toNat_natCast,List.map_take]) (fun _=>h)
def e7 {n:Nat}{args:List Src}{acV:List D}{ι:Type}(P:ι->Prop)(V:ι->D)(nx':Nat)(M:ι->List (Nat×bK))(h:∀i,P i->aG Y draw r env (⟨true,V i⟩::rs) nx' (M i) K)
  (hc:∀K':D->St->Prop,(∀i,P i->K' (V i) ⟨nx'+rs.length,M i⟩)->Y.tr n acV ⟨nx+rs.length,m⟩ K') (hn:nx<=nx') (ha:gX (cv env rs) args=acV:=by exact rfl)
  (ho:tn (cv env rs) args:=by repeat' first|exact trivial|exact rfl|refine And.intro ?_ ?_):aG Y draw (⟨.callM n args,none⟩::r) env rs nx m K:=by
 unfold aG;show True/\(true=true->tn (Src.ev env rs.reverse) args/\Y.tr n (gX (Src.ev env rs.reverse) args) {nx:=nx+rs.reverse.length,m:=m} _)/\(true=false->_);rw[kM,List.length_reverse,ha];refine⟨trivial,fun _=>⟨ho,hc _ fun i hi=>⟨by show nx+rs.length<=nx'+rs.length;omega, ?_⟩⟩,fun h=>by cases h⟩;have h:=h i hi;unfold aG at h;rw[List.reverse_cons]at h;have e:nx'+rs.length-rs.length=nx':=ae;simp only[e];exact h
def xf {n j:Nat}{w:Bool}{args:List Src}{acV:List D}{ι:Type}(P:ι->Prop)(V:ι->D)(nx':Nat)(M:ι->List (Nat×bK))(h:∀i,P i->aG Y draw r env (⟨true,V i⟩::rs) nx' (M i) K)(hg:GF rs (some (j,w)) true:=by exact⟨_,_,rfl,rfl⟩)
  (hc:∀K':D->St->Prop,(∀i,P i->K' (V i) ⟨nx'+rs.length,M i⟩)->Y.tr n acV ⟨nx+rs.length,m⟩ K') (hn:nx<=nx') (ha:gX (cv env rs) args=acV:=by exact rfl)
  (ho:tn (cv env rs) args:=by repeat' first|exact trivial|exact rfl|refine And.intro ?_ ?_):aG Y draw (⟨.callM n args,some (j,w)⟩::r) env rs nx m K:=by
 unfold aG;show we rs.reverse (some (j,w))/\(flag rs.reverse (some (j,w))=true->tn (Src.ev env rs.reverse) args/\Y.tr n (gX (Src.ev env rs.reverse) args) {nx:=nx+rs.reverse.length,m:=m} _)/\(flag rs.reverse (some (j,w))=false->_);obtain⟨hg1,hg2⟩:=hg.flag;rw[hg1,kM,List.length_reverse,ha];refine⟨hg2,fun _=>⟨ho,hc _ fun i hi=>⟨by show nx+rs.length<=nx'+rs.length;omega, ?_⟩⟩,fun h=>by cases h⟩;have h:=h i hi;unfold aG at h;rw[List.reverse_cons]at h;have e:nx'+rs.length-rs.length=nx':=ae;simp only[e];exact h
def DE {n j:Nat}{w:Bool}{args:List Src}(h:aG Y draw r env (⟨false,.any⟩::rs) nx m K)(hg:GF rs (some (j,w)) false:=by exact⟨_,_,rfl,rfl⟩):aG Y draw (⟨.callM n args,some (j,w)⟩::r) env rs nx m K:=by
 unfold aG;show we rs.reverse (some (j,w))/\(flag rs.reverse (some (j,w))=true->_)/\(flag rs.reverse (some (j,w))=false->_);obtain⟨hg1,hg2⟩:=hg.flag;rw[hg1];refine⟨hg2,fun h=>(by cases h),fun _=>?_⟩;unfold aG at h;rw[List.reverse_cons]at h;exact h
def H0 {c a:Src}{fc t:Bool}(h:aG Y draw r env (⟨f,.bool false⟩::rs) nx m K)(hg:GF rs g f:=by exact cX)(hc:cv env rs c=⟨fc,.bool t⟩:=by exact rfl)(kc:f=true->fc=true:=by exact fun _=>rfl)(ht:t=false:=by exact rfl):aG Y draw (⟨.pick c a (.c (.bool false)),g⟩::r) env rs nx m K:=by
 subst ht;refine bJ rfl hg _ (fun hf=>?_) (fun hf=>?_) (fun _=>h)
 ·simp only[aJ.dN,hc];exact⟨kc hf,⟨fun h=>absurd h aT,fun _=>rfl⟩⟩
 ·simp only[aJ.val,hc];have:cv env rs (.c (.bool false))=⟨true,.bool false⟩:=rfl;rw[this];cases(cv env rs a).d<;>rfl
def xg {n:Nat}{x:Src}{caps:List D}{args:List Src}{acV:List D}{ι:Type}(P:ι->Prop)(V:ι->D)(nx':Nat)(M:ι->List (Nat×bK))(h:∀i,P i->aG Y draw r env (⟨true,V i⟩::rs) nx' (M i) K)
  (hc:∀K':D->St->Prop,(∀i,P i->K' (V i) ⟨nx'+rs.length,M i⟩)->Y.tr (xU n) acV ⟨nx+rs.length,m⟩ K') (hn:nx<=nx') (hx:cv env rs x=⟨true,.fn n caps⟩:=by exact rfl) (ha:vX n (gX (cv env rs) args) caps=acV:=by exact rfl)
  (ho:tn (cv env rs) args:=by repeat' first|exact trivial|exact rfl|refine And.intro ?_ ?_):aG Y draw (⟨.callvM x args,none⟩::r) env rs nx m K:=by
 unfold aG;show G9 rs.reverse (.callvM x args) none/\(Src.ev env rs.reverse x).ok=true/\tn (Src.ev env rs.reverse) args/\match(Src.ev env rs.reverse x).d with
   | .fn n caps=>Y.tr (xU n) (vX n (gX (Src.ev env rs.reverse) args) caps) {nx:=nx+rs.reverse.length,m:=m} _
   |_=>False
 rw[kM,List.length_reverse];simp only[hx,ha];refine⟨trivial,trivial,ho,hc _ fun i hi=>⟨by show nx+rs.length<=nx'+rs.length;omega, ?_⟩⟩;have h:=h i hi;unfold aG at h;rw[List.reverse_cons]at h;have e:nx'+rs.length-rs.length=nx':=ae;simp only[e];exact h
end
end
end Go.Abs
section
namespace Go.Abs
def nlS:List au->D
 |[]=>.aV
 |a::r=>.sl 1 ((a::r).map D.str)
def tw.N (x:tw):Go.Abs.D:=.agg [.str x.name,.int .i64 x.v.major,.int .i64 x.v.minor,.int .i64 x.v.patch,.str x.v.pre,.str x.v.build,.str x.shelf,.int .u64 x.sum,nlS x.feats]
end Go.Abs
namespace Go.Abs
def tw.F (name:au)(v:bX)(shelf:au)(sum:Int)(fs:Go.Abs.D):Go.Abs.D:=.agg [.str name,.int .i64 v.major,.int .i64 v.minor,.int .i64 v.patch,.str v.pre,.str v.build,.str shelf,.int .u64 sum,fs]
mutual
theorem MC (l k:Nat)(es:List D):∀d:D,d.bG=true->mb l k es d=d
 | .agg a,h=>by simp only[mb,uq l k es a (by simpa[D.bG]using h)]
 | .tup a,h=>by simp only[mb,uq l k es a (by simpa[D.bG]using h)]
 | .fn n a,h=>by simp only[mb,uq l k es a (by simpa[D.bG]using h)]
 | .own ..,h=>by simp[D.bG]at h
 | .ptr ..,h=>by simp[D.bG]at h
 | .it ..,h=>by simp[D.bG]at h
 | .any,_| .bool _,_| .int ..,_| .str _,_| .aV,_| .sl ..,_| .ref ..,_| .nilp,_| .nilf,_=>rfl
theorem uq (l k:Nat)(es:List D):∀ds:List D,bt ds=true->rz l k es ds=ds
 |[],_=>rfl
 |d::r,h=>by
  simp only[bt,aZ]at h;simp only[rz,MC l k es d h.1,uq l k es r h.2]
end
end Go.Abs
namespace Go.Abs
end Go.Abs
namespace Go.Abs
end Go.Abs
namespace Go.Abs
end Go.Abs
namespace Go.Abs
end Go.Abs
namespace Go.Abs
end Go.Abs
end
section
namespace Go.Abs
end Go.Abs
namespace Go.Abs
def Kp.eq (a b:Kp):gL (Kp.D a).cells (Kp.D b).cells=decide (a=b):=by
 obtain⟨n1,⟨a1,a2,a3,a4,a5⟩⟩:=a;obtain⟨n2,⟨b1,b2,b3,b4,b5⟩⟩:=b;simp only[Kp.D,D.cells,gL,qS,tC,Kp.mk.injEq,bX.mk.injEq,jr];simp only[Bool.decide_and]
structure tw.ok (n:Nat)(x:tw):Prop where
 pre:x.v.pre.length<=3
 build:x.v.build.length<=2
 name:x.name.length<=16
 shelf:x.shelf.length<=16
 nf:x.feats.length<=n
 ft:∀t∈x.feats,t.length<=16
 sum:0<=x.sum/\x.sum<18446744073709551616
structure y5.ok (n:Nat)(l:y5):Prop where
 len:l.lines.length<=4
 lines:∀x∈l.lines,x.ok n
 env:∀i,(l.env.at i).length<=16
def y5.ok.sm {n:Nat}{l:y5}(h:l.ok n)(hn:n<=1000):l.sm:=by
 refine⟨by have:=h.len;omega,fun x hx=>?_,fun i=>by have:=h.env i;omega⟩;have k:=h.lines x hx;have k1:=k.pre;have k2:=k.build;have k3:=k.name;have k4:=k.shelf;have k5:=k.nf;exact⟨⟨ae,ae⟩,ae,ae,ae,fun t ht=>by have:=k.ft t ht;omega⟩
def tw.ok.mono {n m:Nat}{x:tw}(h:x.ok n)(hm:n<=m):x.ok m:=⟨h.pre,h.build,h.name,h.shelf,cW h.nf hm,h.ft,h.sum⟩
end Go.Abs
end
namespace Go.Abs
section
def lk {α:Type}:List (Nat×α)->Nat->α->α
 |[],_,d=>d
 |(a,b)::r,n,d=>bif Nat.beq a n then b else lk r n d
structure Row where
 key:Nat
 pre:List D->Prop
 val:List D->D
structure QW where
 pre:D->List D->Prop
 val:D->List D->D
 new:D->List D->D
def Row.no:Row:=⟨0,fun _=>False,fun _=>.any⟩
def QW.no:QW:=⟨fun _ _=>False,fun _ _=>.any,fun _ _=>.any⟩
section
variable [c7] {P:Program} {ν:List (Nat×Nat)} {cE:List Nat} {Y:Ctx}
end
end
section
variable [c7]
section
variable {P:Program} {ν:List (Nat×Nat)} {cE:List Nat} {Y:Ctx}
def RD.re {x x':X}{σ:List (Nat×Nat)}(hw:x'.w=x.w)(hI:x'.I=x.I)(hβ:∀l l',mh 0 σ l=some l'->x'.β l'=x.β l){v:Value}{d d':D}(hv:RD ν x v d)(hd:IS 0 σ d d'):RD ν x' v d':=by
 rcases hd with⟨rfl,hn⟩|hd|hd
 ·exact hv.bG hn (fun _ h=>by rw[hI];exact h) (fun _ _=>by rw[hw])
 ·exact RD.rn (x:=x) (x':=x') hw hI hβ hv _ hd
 ·exact RD.nl (x:=x) (x':=x') hw hI hv _ hd
def lY.re {x x':X}{σ:List (Nat×Nat)}(hw:x'.w=x.w)(hI:x'.I=x.I)(hβ:∀l l',mh 0 σ l=some l'->x'.β l'=x.β l){b base tot:Nat}{b0 blk:bK}(o2:lY ν x b base tot b0)(q3:pE 0 σ b0 blk):lY ν x' b base tot blk:=by
 cases b0 with
 |iter s p=>
  cases blk with
  |iter s' p'=>simp only[pE]at q3;obtain⟨rfl,rfl⟩:=q3;simp only[lY,hw]at o2⊢;exact o2
  |_=>simp[pE]at q3
 |row s=>
  cases blk with
  |row s'=>simp only[pE]at q3;subst q3;simp only[lY,hw]at o2⊢;exact o2
  |_=>simp[pE]at q3
 |bld o n u=>
  cases blk with
  |bld o' n' u'=>
   simp only[pE]at q3;obtain⟨q3,rfl,rfl⟩:=q3;obtain⟨p1,v,p2,p3⟩:=o2;refine⟨p1,v,by rw[hw];exact p2, ?_⟩;cases o with
   |none=>simp only at q3;subst q3;exact p3
   |some l0=>
    obtain⟨l1,q4,rfl⟩:=q3;obtain⟨g,t,p4,p5,p6⟩:=p3;exact⟨g,t,p4,p5,by rw[hβ l0 l1 q4];exact p6⟩
  |_=>simp[pE]at q3
 |buf k es=>
  cases blk with
  |iter s' p'=>simp[pE]at q3
  |row s'=>simp[pE]at q3
  |bld o' n' u'=>simp[pE]at q3
  |buf k' es'=>
   simp only[pE]at q3;obtain⟨rfl,q3⟩:=q3;obtain⟨p1,p2,cc,T,fr,p3,p4,p5,p6⟩:=o2;rw[<-hw]at p3;rcases q3 with⟨rfl,hn⟩|q3|q3
   ·exact⟨p1,p2,cc,T,fr,p3,p4,p5,fun i hi=>⟨(p6 i hi).1,fun j hj=>⟨((p6 i hi).2 j hj).1,RD.re hw hI hβ ((p6 i hi).2 j hj).2 (.inl ⟨rfl,nn (de hn i) j⟩)⟩⟩⟩
   ·obtain⟨r1,r2⟩:=j5 q3;refine⟨p1,ae,cc,T,fr,p3,p4,p5,fun i hi=>?_⟩;have hi':i<es.length:=ae;obtain⟨s1,s2⟩:=xl (r2 i hi');exact⟨s1.trans (p6 i hi').1,fun j hj=>⟨((p6 i hi').2 j hj).1,RD.re hw hI hβ ((p6 i hi').2 j hj).2 (.inr (.inl (s2 j (by rw[(p6 i hi').1];exact hj))))⟩⟩
   ·obtain⟨r1,r2⟩:=nU q3;refine⟨p1,ae,cc,T,fr,p3,p4,p5,fun i hi=>?_⟩;have hi':i<es.length:=ae;obtain⟨s1,s2⟩:=wA (r2 i hi');exact⟨s1.trans (p6 i hi').1,fun j hj=>⟨((p6 i hi').2 j hj).1,RD.re hw hI hβ ((p6 i hi').2 j hj).2 (.inr (.inr (s2 j (by rw[(p6 i hi').1];exact hj))))⟩⟩
def DK {lo c:Nat}{σ:List (Nat×Nat)}{l l':Nat}(h0:gY 0 c σ=true)(h:mh 0 σ l=some l'):l'<c/\(l,l')∈σ:=by
 obtain⟨h1,h2⟩:=ru h0 h;rcases h2 with⟨h2,_⟩|⟨_,h2⟩
 ·omega
 ·exact⟨h1,h2⟩
def rb {c:Nat}:∀{σ:List (Nat×Nat)}{a b:Nat},gY 0 c σ=true->(a,b)∈σ->mh 0 σ a=some b
 |[],a,b,_,h=>by cases h
 |(a0,b0)::r,a,b,h0,h=>by
  unfold mh;simp only[gY,aZ,List.all_eq_true,bB]at h0;obtain⟨_,_,p4,p5⟩:=h0;rcases dy.1 h with h|h
  ·simp only[dU]at h;obtain⟨rfl,rfl⟩:=h;simp
  ·have:=(p4 _ h).1;simp only at this;have hne:Nat.beq a0 a=false:=by
    cases hb:Nat.beq a0 a with
    |false=>rfl
    |true=>obtain rfl:=Nat.eq_of_beq_eq_true hb;simp at this
   rw[hne];exact rb p5 h
structure Fr (σi σo:List (Nat×Nat))(q q1:Nat)(m0 m1:List (Nat×bK))(st st':St):Prop where
 oki:gY 0 q σi=true
 oko:gY 0 st'.nx σo=true
 nx:st.nx<=st'.nx
 lt:∀l i,(l,i)∈σi->look st.m l≠none
 io:∀i l,(i,l)∈σo->(l,i)∈σi\/st.nx<=l
 m0:∀i b,look m0 i=some b->∃l b',(l,i)∈σi/\look st.m l=some b'/\pE 0 σi b' b
 m1:∀l b,look st'.m l=some b->(∃i b1,(i,l)∈σo/\look m1 i=some b1/\pE 0 σo b1 b)\/(lu σo l=none/\(∀i,(l,i)∉σi)/\look st.m l=some b)
def Jz {fid:Nat}{fn:Func}{af:aC}{K:D->St->Prop}(hΓ:Ok P ν cE Y)(hmix:P.follows .mixedOrders=true)(hf:P.funcs[fid]? =some fn)(hc:compile P ν cE fn=some af)
  {x:X} {args:Array Value} {ds cs:List D} {st:St} {σi:List (Nat×Nat)} {q:Nat} {m0:List (Nat×bK)} (hl:args.size=ds.length) (hargs:∀i,i<ds.length->RD ν x (args.getD i undef) (ds.getD i .any))
  (hs:ff ν x (look st.m)) (hfr:eV st x) (hlen:cs.length=ds.length) (hds:∀i,i<ds.length->IS 0 σi (ds.getD i .any) (cs.getD i .any)) (hnp:cs.length=af.np)
  (oki:gY 0 q σi=true) (hlt:∀l i,(l,i)∈σi->look st.m l≠none) (hm0:∀i b,look m0 i=some b->∃l b',(l,i)∈σi/\look st.m l=some b'/\pE 0 σi b' b)
  (hw:bH (Y.at q) af.body (fun e env st1=>e.home/\qm st1.m env af.res/\∃(σo:List (Nat×Nat)) (q1:Nat) (m1:List (Nat×bK)) (st':St) (vd':D),Fr σi σo q q1 m0 m1 st st'/\IS 0 σo (oG af env st1) vd'/\K vd' st'/\∀i,look st1.m i=look m1 i) (gG af cs) ⟨q,m0⟩):
  Calls P fid args x.w fun
   | .returned v,w'=>∃x' d st',K d st'/\x'.w=w'/\Step x x'/\RD ν x' v d/\ff ν x' (look st'.m)/\eV st' x'
   |_,_=>False:=by
 obtain⟨body,c1,c2,c3,c4,c5,c6⟩:=kK hc
 let x0:X:=⟨x.w,x.I,fun i=>(lu σi i).bind x.β⟩
 have hx0:∀l i,(l,i)∈σi->x0.β i=x.β l:=fun l i h=>by simp only[x0,tF oki h,Option.bind_some]
 have hβ0:∀l i,mh 0 σi l=some i->x0.β i=x.β l:=fun l i h=>hx0 l i (DK (lo:=0) oki h).2
 have hx0':∀i p,x0.β i=some p->∃l,(l,i)∈σi/\x.β l=some p/\i<q:=by
  intro i p h;obtain⟨l,h1,h2⟩:=Option.bind_eq_some_iff.1 (show(lu σi i).bind x.β=some p from h);exact⟨l,jY h1,h2,oS oki (jY h1)⟩
 have hs0:ff ν x0 (look m0):=by
  refine⟨fun i blk b base tot e1 e2=>?_,fun i j b base tot base' tot' e1 e2 e3 e4=>?_,hs.imm,fun i b base tot e=>?_,c7.le x _ (fun _ h=>h) (fun _ _=>rfl) hs.gd⟩
  ·obtain⟨l,b',h1,h2,h3⟩:=hm0 i blk e1;rw[hx0 l i h1]at e2;obtain⟨o1,o2⟩:=hs.own l b' b base tot h2 e2;exact⟨o1,lY.re (x:=x) (x':=x0) rfl rfl hβ0 o2 h3⟩
  ·obtain⟨l,h1,h2,_⟩:=hx0' i _ e3;obtain⟨l',h1',h2',_⟩:=hx0' j _ e4;have:=hs.inj l l' b base tot base' tot' (hlt _ _ h1) (hlt _ _ h1') h2 h2';subst this;have:=rb oki h1;rw[rb oki h1']at this;exact(bC this).symm
  ·obtain⟨l,_,h2,_⟩:=hx0' i _ e;exact hs.eg l b base tot h2
 have hf0:eV ⟨q,m0⟩ x0:=by
  refine⟨fun i hi=>?_,fun i hi=>?_⟩
  ·cases h:x0.β i with
   |none=>rfl
   |some p=>obtain⟨_,_,_,h4⟩:=hx0' i p h;simp only at hi;omega
  ·cases h:look m0 i with
   |none=>exact absurd h hi
   |some b=>obtain⟨l,b',h1,_⟩:=hm0 i b h;exact oS oki h1
 have hi:=xy (P:=P) (ν:=ν) (cE:=cE) (x:=x0) (ds:=cs) (st:=⟨q,m0⟩) c4 c5 c6 (args:=args) ae hnp (fun i hi=>RD.re (x:=x) (x':=x0) rfl rfl hβ0 (hargs i ae) (hds i ae)) hs0 hf0;have hcs:=uc (C:={P,ν,cE,slots:=slotsOf fn,ntmps:=fn.ntmps,vm:=IG P fn}) (hΓ.at q) (oJ fn).1 hmix x0 (fun l h=>hf0.β l h) body af.body c2 _ _ _ _ x0 hw hi (.refl _);refine calls_of_wp hf c1 (wp_mono hcs fun e a w' hp=>?_);obtain⟨e',x',env',st1,he,hxw,hst,hi',hh,hro,σo,q1,m1,st',vd',hfm,hvd,hK,hlk⟩:=hp;subst hxw;obtain⟨v,r1,r2,r3⟩:=sT hi' c3 hro
 let x2:X:=⟨x'.w,x'.I,fun l=>match lu σo l with|some i=>x'.β i|none=>x.β l⟩
 have hx2:∀i l,(i,l)∈σo->x2.β l=x'.β i:=fun i l h=>by simp only[x2,tF hfm.oko h]
 have hx2n:∀l,lu σo l=none->x2.β l=x.β l:=fun l h=>by simp only[x2,h]
 have hβ2:∀i l,mh 0 σo i=some l->x2.β l=x'.β i:=fun i l h=>hx2 i l (DK (lo:=0) hfm.oko h).2
 have hx0s:∀l i p,(l,i)∈σi->x.β l=some p->x'.β i=some p:=fun l i p h e=>hst.β _ _ (by rw[hx0 l i h];exact e)

 have hnew:∀i p,x'.β i=some p->(∃l,(l,i)∈σi/\x.β l=some p)\/x.w.heap.size<=p.1\/∃l p',(∃j,(l,j)∈σi)/\x.β l=some p'/\p'.1=p.1:=by
  intro i p e;rcases hst.newβ i p e with h|h|⟨j,p',h1,h2⟩
  ·obtain⟨l,h3,h4,_⟩:=hx0' i p h;exact .inl ⟨l,h3,h4⟩
  ·exact .inr (.inl h)
  ·obtain⟨l,h3,h4,_⟩:=hx0' j p' h1;exact .inr (.inr ⟨l,p',⟨j,h3⟩,h4,h2⟩)
 have hstep:Step x x2:=by
  refine⟨hst.os,hst.tape,hst.output,hst.size,hst.I,hst.nN,fun l p hp=>?_,fun b hb hn=>hst.old b hb fun i p h e=>?_,fun b h=>?_,fun l p h=>?_⟩
  ·cases h:lu σo l with
   |none=>rw[hx2n l h];exact hp
   |some i=>
    have hm:=jY h;rw[hx2 i l hm];rcases hfm.io i l hm with h2|h2
    ·exact hx0s l i p h2 hp
    ·rw[hfr.β l h2]at hp;cases hp
  ·obtain⟨l,_,h2,_⟩:=hx0' i p h;exact hn l p h2 e
  ·rcases hst.newI b h with h|h|⟨i,p,h1,h2⟩
   ·exact .inl h
   ·exact .inr (.inl h)
   ·obtain⟨l,_,h3,_⟩:=hx0' i p h1;exact .inr (.inr ⟨l,p,h3,h2⟩)
  ·cases h1:lu σo l with
   |none=>rw[hx2n l h1]at h;exact .inl h
   |some i=>
    have hm:=jY h1;rw[hx2 i l hm]at h;rcases hnew i p h with⟨l',h2,h3⟩|h2|⟨l',p',_,h3,h4⟩
    ·exact .inr (.inr ⟨l',p,h3,rfl⟩)
    ·exact .inr (.inl h2)
    ·exact .inr (.inr ⟨l',p',h3,h4⟩)
 have hsim:ff ν x2 (look st'.m):=by
  refine⟨fun l blk b base tot e1 e2=>?_,fun l1 l2 b base tot base' tot' e1 e2 e3 e4=>?_,hi'.mn.imm,fun l b base tot e=>?_,c7.le x' _ (fun _ h=>h) (fun _ _=>rfl) hi'.mn.gd⟩
  ·rcases hfm.m1 l blk e1 with⟨i,b1,h1,h2,h3⟩|⟨h1,h2,h3⟩
   ·rw[hx2 i l h1]at e2;obtain⟨o1,o2⟩:=hi'.mn.own i b1 b base tot (by rw[hlk];exact h2) e2;exact⟨o1,lY.re (x:=x') (x':=x2) rfl rfl hβ2 o2 h3⟩
   ·rw[hx2n l h1]at e2;obtain⟨o1,o2⟩:=hs.own l blk b base tot h3 e2;have hlt:=hs.eg l b base tot e2;have hno:∀i p,x0.β i=some p->p.1≠b:=by
     rintro i ⟨b',base',tot'⟩ h e;simp only at e;subst e;obtain⟨l',h4,h5,_⟩:=hx0' i _ h;have:=hs.inj l' l b' base' tot' base tot (hfm.lt _ _ h4) (by rw[h3];simp) h5 e2;subst this;exact h2 _ h4
    refine⟨fun h=>?_,o2.mono hstep.le (hst.old b hlt hno)⟩;rcases hst.newI b h with h|h|⟨i,p,h4,h5⟩
    ·exact o1 h
    ·exact absurd hlt (Nat.not_lt.2 h)
    ·exact hno i p h4 h5
  ·have mix:∀l1 l2 base tot base' tot',(∃i b1,(i,l1)∈σo/\look m1 i=some b1)->lu σo l2=none->(∀i,(l2,i)∉σi)->look st.m l2≠none->x2.β l1=some (b,base,tot)->x2.β l2=some (b,base',tot')->False:=by
    rintro l1 l2 base tot base' tot' ⟨i,b1,h1,h2⟩ h3 h4 h5 e3 e4;rw[hx2 i l1 h1]at e3;rw[hx2n l2 h3]at e4;rcases hnew i _ e3 with⟨l',h6,h7⟩|h6|⟨l',⟨pb,pt,pq⟩,⟨j,h6⟩,h7,h8⟩
    ·have:=hs.inj l' l2 b base tot base' tot' (hfm.lt _ _ h6) h5 h7 e4;subst this;exact h4 _ h6
    ·have:=hs.eg l2 b base' tot' e4;simp only at h6;omega
    ·simp only at h8;subst h8;have:=hs.inj l' l2 pb pt pq base' tot' (hfm.lt _ _ h6) h5 h7 e4;subst this;exact h4 _ h6
   cases f1:look st'.m l1 with
   |none=>exact absurd f1 e1
   |some b1=>
    cases f2:look st'.m l2 with
    |none=>exact absurd f2 e2
    |some b2=>
     rcases hfm.m1 l1 b1 f1 with⟨i,c1,h1,h2,_⟩|⟨h1,h2,h3⟩<;>rcases hfm.m1 l2 b2 f2 with⟨j,c2,k1,k2,_⟩|⟨k1,k2,k3⟩
     ·rw[hx2 i l1 h1]at e3;rw[hx2 j l2 k1]at e4;have:=hi'.mn.inj i j b base tot base' tot' (by rw[hlk,h2];simp) (by rw[hlk,k2];simp) e3 e4;subst this;have:=rb hfm.oko h1;rw[rb hfm.oko k1]at this;exact(bC this).symm
     ·exact(mix l1 l2 base tot base' tot' ⟨i,c1,h1,h2⟩ k1 k2 (by rw[k3];simp) e3 e4).elim
     ·exact(mix l2 l1 base' tot' base tot ⟨j,c2,k1,k2⟩ h1 h2 (by rw[h3];simp) e4 e3).elim
     ·rw[hx2n l1 h1]at e3;rw[hx2n l2 k1]at e4;exact hs.inj l1 l2 b base tot base' tot' (by rw[h3];simp) (by rw[k3];simp) e3 e4
  ·cases h1:lu σo l with
   |none=>rw[hx2n l h1]at e;exact en (hs.eg l b base tot e) hst.size
   |some i=>
    rw[hx2 i l (jY h1)]at e;exact hi'.mn.eg i b base tot e
 have hfr2:eV st' x2:=by
  refine⟨fun l hl=>?_,fun l hl=>?_⟩
  ·cases h1:lu σo l with
   |none=>rw[hx2n l h1];exact hfr.β l (by have:=hfm.nx;omega)
   |some i=>have:=oS hfm.oko (jY h1);omega
  ·cases f1:look st'.m l with
   |none=>exact absurd f1 hl
   |some b1=>
    rcases hfm.m1 l b1 f1 with⟨i,c1,h1,_⟩|⟨_,_,h3⟩
    ·exact oS hfm.oko h1
    ·have:=hfr.m l (by rw[h3];simp);have:=hfm.nx;omega
 have hrd:=RD.re (ν:=ν) (x:=x') (x':=x2) rfl rfl hβ2 r2 hvd;rcases Ex.Du hh with h|h<;>rw[h]at he<;>subst he<;>exact⟨hi'.defers,v,r1,x2,vd',st',hK,rfl,hstep,hrd,hsim,hfr2⟩
end
end
section
structure QX where
 tr:List D->St->(D->St->Prop)->Prop
 mu:List D->St->Nat
 mono:∀(ds:List D) (st:St) (K K':D->St->Prop),(∀d st',K d st'->K' d st')->tr ds st K->tr ds st K'
def QX.no:QX:=⟨fun _ _ _=>False,fun _ _=>0,fun _ _ _ _ _ h=>h⟩
def lL (af:aC)(Q:D->List (Nat×bK)->Prop):Ex->List bI->St->Prop:=fun e env st=>e.home/\qm st.m env af.res/\∃m1,(∀i,look st.m i=look m1 i)/\Q (oG af env st) m1
def cS {af:aC}{Q:D->List (Nat×bK)->Prop}{vd:D}{m1:List (Nat×bK)}{e:Ex}{env:List bI}{st:St}(h1:e.home)(h2:qm st.m env af.res)(h3:oG af env st=vd)(h4:st.m=m1)(h5:Q vd m1):lL af Q e env st:=⟨h1,h2,m1,fun i=>by rw[h4],by rw[h3];exact h5⟩
def One (vd:D)(m1:List (Nat×bK)):D->List (Nat×bK)->Prop:=fun d m=>d=vd/\m=m1
def oneq (vd:D)(m1:List (Nat×bK)):One vd m1 vd m1:=⟨rfl,rfl⟩
section
variable [c7] {P:Program} {ν:List (Nat×Nat)} {cE:List Nat} {Y:Ctx}
def Gm (P:Program)(ν:List (Nat×Nat))(Γ':Ctx)(cE:List Nat)(tr:List D->St->(D->St->Prop)->Prop)(fid:Nat):Prop:=
 ∀(ds:List D) (st:St) (K:D->St->Prop),tr ds st K->Ok P ν cE Γ'->∀(x:X) (args:Array Value),args.size=ds.length->(∀i,i<ds.length->RD ν x (args.getD i undef) (ds.getD i .any))->ff ν x (look st.m)->eV st x->
  iA P x (fun v x'=>∃d st',K d st'/\Step x x'/\RD ν x' v d/\ff ν x' (look st'.m)/\eV st' x') ((callFunc fid args).run P x.w)
end
end
section
abbrev RT:=List D->D->Prop
abbrev FT:=D->List D->D->D->Prop
abbrev TT:=List D->St->(D->St->Prop)->Prop
def y9 (T:TT):Prop:=∀ds st K K',(∀d st',K d st'->K' d st')->T ds st K->T ds st K'
def yq (A:RT->Prop):RT:=fun ds d=>∀T,A T->T ds d
def Lh (T:TT):Ctx:=⟨fun _ _=>False,fun _ _=>.any,fun _=>T,fun _ _ _=>False,fun _ _ _=>.any,fun _ _ _=>.any,0⟩
def Hn (C:Ctx->Prop):TT:=fun ds st K=>∀T,y9 T->C (Lh T)->T ds st K
def zP (C:Ctx->Prop):y9 (Hn C):=fun _ _ _ _ h h1 T hT hC=>hT _ _ _ _ h (h1 T hT hC)
def noR:RT:=fun _ _=>False
def Rl:FT:=fun _ _ _ _=>False
def noT:TT:=fun _ _ _=>False
def zV:y9 noT:=fun _ _ _ _ _ h=>h.elim
structure pP where
 key:Nat
 rel:RT
 mu:List D->Nat
 relF:FT
 tr:TT
 muE:List D->St->Nat
 mono:y9 tr
def mu0:List D->Nat:=fun _=>0
def MO:List D->St->Nat:=fun _ _=>0
def lN:pP:=⟨0,noR,mu0,Rl,noT,MO,zV⟩
def rP (k:Nat)(A:RT->Prop)(mu:List D->Nat:=mu0):pP:=⟨k,yq A,mu,Rl,noT,MO,zV⟩
def rG (k:Nat)(C:Ctx->Prop)(mu:List D->St->Nat:=MO):pP:=⟨k,noR,mu0,Rl,Hn C,mu,zP C⟩
noncomputable def pick (r:D->Prop):D:=Classical.epsilon r
def mI {r:D->Prop}(h:∃d,r d):r (pick r):=Classical.epsilon_spec h
def PE (R:RT):Prop:=∀ds d d',R ds d->R ds d'->d=d'
def PF (R:FT):Prop:=∀d ds v s v' s',R d ds v s->R d ds v' s'->v=v'/\s=s'
def Mv {A:RT->Prop}(h:A fun ds d=>A fun ds' d'=>ds'=ds->d=d'):PE (yq A):=fun ds d d' h1 h2=>h2 _ (h1 _ h) rfl
noncomputable def vZ (t:List (Nat×pP)):Ctx where
 pre n ds:=∃d,(lk t n lN).rel ds d
 val n ds:=pick ((lk t n lN).rel ds)
 tr n:=(lk t n lN).tr
 fp n d ds:=∃v s,(lk t n lN).relF d ds v s
 fv n d ds:=pick fun v=>∃s,(lk t n lN).relF d ds v s
 fs n d ds:=pick fun s=>∃v,(lk t n lN).relF d ds v s
 lo:=0
def Ia (t:List (Nat×pP)):Mf:=⟨fun n=>(lk t n lN).key,fun n=>(lk t n lN).mu,fun n=>(lk t n lN).muE⟩
noncomputable abbrev under (t:List (Nat×pP))(k u:Nat):Ctx:=(vZ t).under (Ia t) k u
def aH (t:List (Nat×pP))(k u n:Nat):(((vZ t).under (Ia t) k u).at n).bd:=
 fun f ds st K K' h hh=>⟨hh.1,(lk t f lN).mono ds st K K' h hh.2⟩
section
variable {t:List (Nat×pP)} {n k u:Nat} {ds:List D} {d v s:D} {st:St} {K:D->St->Prop}
def cV (hD:PE (lk t n lN).rel)(hk:(lk t n lN).key<k\/(lk t n lN).key=k/\(lk t n lN).mu ds<u)(h:(lk t n lN).rel ds d):(under t k u).pre n ds/\(under t k u).val n ds=d:=
 ⟨⟨hk,d,h⟩,hD _ _ _ (mI ⟨d,h⟩) h⟩
def vV (hk:(lk t n lN).key<k\/(lk t n lN).key=k/\(lk t n lN).muE ds st<u)(h:(lk t n lN).tr ds st K):(under t k u).tr n ds st K:=⟨hk,h⟩
end
section
variable [c7] {P:Program} {ν:List (Nat×Nat)} {cE:List Nat} {Y:Ctx} {t:List (Nat×pP)} {fid n key:Nat}
def CN (P:Program)(ν:List (Nat×Nat))(cE:List Nat)(Y:Ctx)(fid:Nat)(ds:List D)(d:D):Prop:=Ok P ν cE Y->∀(x:X)(args:Array Value),args.size=ds.length->(∀i,i<ds.length->RD ν x (args.getD i undef) (ds.getD i .any))->bt ds=true->
  (∀b,x.I b->b<x.w.heap.size)->c7.gd x->iA P x (fun v x'=>lh x x'/\RD ν x' v d) ((callFunc fid args).run P x.w)
def KS (P:Program)(ν:List (Nat×Nat))(cE:List Nat)(Y:Ctx)(fid:Nat)(d:D)(ds:List D)(vd new:D):Prop:=Ok P ν cE Y->∀(x:X)(f:Nat->Option bK)(args:Array Value)(l k:Nat),args.size=ds.length+1->
   RD ν x (args.getD 0 undef) (.ptr l k 0 0)->(∀i,i<ds.length->RD ν x (args.getD (i+1) undef) (ds.getD i .any))->ff ν x f->f l=some (.buf k [d])->d.bG=true->bt ds=true->
   iA P x (fun v x'=>Step x x'/\RD ν x' v vd/\ff ν x' (fun l'=>if l'=l then some (.buf k [new])else f l')/\x'.β=x.β) ((callFunc fid args).run P x.w)
def qE (P:Program)(ν:List (Nat×Nat))(cE:List Nat)(Y:Ctx)(fid:Nat)(ds:List D)(st:St)(K:D->St->Prop):Prop:=Ok P ν cE Y->∀(x:X)(args:Array Value),args.size=ds.length->(∀i,i<ds.length->RD ν x (args.getD i undef) (ds.getD i .any))->ff ν x (look st.m)->eV st x->
  iA P x (fun v x'=>∃d st',K d st'/\Step x x'/\RD ν x' v d/\ff ν x' (look st'.m)/\eV st' x') ((callFunc fid args).run P x.w)
structure QV (P:Program)(ν:List (Nat×Nat))(cE:List Nat)(t:List (Nat×pP))(fid n:Nat):Prop where
 p:∀ds d,(lk t n lN).rel ds d->CN P ν cE (under t (lk t n lN).key ((lk t n lN).mu ds)) fid ds d
 f:PF (lk t n lN).relF/\∀d ds v s,(lk t n lN).relF d ds v s->KS P ν cE (under t (lk t n lN).key ((lk t n lN).mu (d::ds))) fid d ds v s
 g:∀ds st K,(lk t n lN).tr ds st K->qE P ν cE (under t (lk t n lN).key ((lk t n lN).muE ds st)) fid ds st K
def okA (hsm:∀fid n,ez ν fid=some n->n<1000000)(hB:∀t,cE.contains (1000000000+t)=true->t=c7.tB)(h:∀fid n,ez ν fid=some n->QV P ν cE t fid n):Ok P ν cE (vZ t):=by
 refine Rm (Ia t) hsm hB (fun fid n hn ds hp hok=>(h fid n hn).p ds _ (mI hp) hok) (fun fid n hn _ d ds hp hok=>?_) (fun fid n hn ds st K htr hok=>(h fid n hn).g ds st K htr hok);obtain⟨v,s,hr⟩:=hp;obtain⟨hD,hf⟩:=(h fid n hn).f;have h2:(vZ t).fv n d ds=v/\(vZ t).fs n d ds=s:=by
  constructor
  ·obtain⟨s',h'⟩:=mI (r:=fun v=>∃s,(lk t n lN).relF d ds v s) ⟨v,s,hr⟩;exact(hD _ _ _ _ _ _ h' hr).1
  ·obtain⟨v',h'⟩:=mI (r:=fun s=>∃v,(lk t n lN).relF d ds v s) ⟨s,v,hr⟩;exact(hD _ _ _ _ _ _ h' hr).2
 rw[h2.1,h2.2];exact hf d ds v s hr hok
def yw {Y:D->List D->Ctx}:PF Rl/\∀d ds v s,Rl d ds v s->KS P ν cE (Y d ds) fid d ds v s:=⟨fun _ _ _ _ _ _ h=>h.elim,fun _ _ _ _ h=>h.elim⟩
def bq {A:RT->Prop}{mu:List D->Nat}(hr:lk t n lN=rP key A mu)(h:A fun ds d=>CN P ν cE (under t key (mu ds)) fid ds d):QV P ν cE t fid n:=by
 refine⟨?_, ?_, ?_⟩<;>rw[hr]
 ·exact fun ds d hd=>hd (fun ds d=>CN P ν cE (under t key (mu ds)) fid ds d) h
 ·exact yw
 ·exact fun _ _ _ h=>h.elim
def EG {Y:List D->St->Ctx}:y9 fun ds st K=>qE P ν cE (Y ds st) fid ds st K:=fun ds st K K' h hg hok x args hl ha hs hf=>(hg hok x args hl ha hs hf).mono fun v x' ⟨d,st',h1,h2⟩=>⟨d,st',h _ _ h1,h2⟩
def nr {C:Ctx->Prop}{mu:List D->St->Nat}(hr:lk t n lN=rG key C mu)(h:C (Lh fun ds st K=>qE P ν cE (under t key (mu ds st)) fid ds st K)):QV P ν cE t fid n:=by
 refine⟨?_, ?_, ?_⟩<;>rw[hr]
 ·exact fun _ _ h=>h.elim
 ·exact yw
 ·exact fun ds st K hd=>hd (fun ds st K=>qE P ν cE (under t key (mu ds st)) fid ds st K) EG h
def IQ (P:Program)(ν:List (Nat×Nat))(cE:List Nat)(fid:Nat)(af:aC):Prop:=(P.funcs[fid]?).map (fun f=>(compile P ν cE f,f.name== "runtime.NumGoroutine"))=some (some af,false)
def IQ.split {af:aC}(h:IQ P ν cE fid af):∃fn,P.funcs[fid]? =some fn/\compile P ν cE fn=some af/\(fn.name== "runtime.NumGoroutine")=false:=by
 unfold IQ at h;cases hf:P.funcs[fid]? with
 |none=>rw[hf]at h;cases h
 |some fn=>
  rw[hf]at h;have h2:=bC h;exact⟨fn,rfl,aj Prod.fst h2,aj Prod.snd h2⟩
def aO {af:aC}{ds:List D}{d:D}(hmix:P.follows .mixedOrders=true)(hC:IQ P ν cE fid af)(h1:ds.length=af.np)(h2:bH (Y.at 0) af.body (Mg af d) (gG af ds) ⟨0,[]⟩):CN P ν cE Y fid ds d:=by
 intro hok x args hl hargs hnl himm hgd;obtain⟨fn,hf,hc,hn⟩:=hC.split;obtain⟨body,c1,_⟩:=kK hc;exact .inr ⟨fid,args,iZ hf hn (by rw[c1];rfl) args x.w,JA hok hmix hf hc hl hargs hnl himm hgd h1 h2⟩
def zD {af:aC}{ds:List D}{st:St}{K:D->St->Prop}{σi:List (Nat×Nat)}{q:Nat}{m0:List (Nat×bK)}{cs:List D}{Q:D->List (Nat×bK)->Prop}(hmono:∀q,(Y.at q).bd)(hmix:P.follows .mixedOrders=true)(hC:IQ P ν cE fid af)
  (h1:cs.length=ds.length) (h2:∀i,i<ds.length->IS 0 σi (ds.getD i .any) (cs.getD i .any)) (h3:cs.length=af.np)
  (h4:gY 0 q σi=true) (h5:∀l i,(l,i)∈σi->look st.m l≠none) (h6:∀i b,look m0 i=some b->∃l b',(l,i)∈σi/\look st.m l=some b'/\pE 0 σi b' b)
  (h7:bH (Y.at q) af.body (lL af Q) (gG af cs) ⟨q,m0⟩) (h8:∀d m1,Q d m1->∃(σo:List (Nat×Nat)) (q1:Nat) (st':St) (vd':D),Fr σi σo q q1 m0 m1 st st'/\IS 0 σo d vd'/\K vd' st'):qE P ν cE Y fid ds st K:=by
 intro hok x args hl hargs hs hfr;obtain⟨fn,hf,hc,hn⟩:=hC.split;obtain⟨body,c1,_⟩:=kK hc;refine .inr ⟨fid,args,iZ hf hn (by rw[c1];rfl) args x.w, ?_⟩;refine Calls.mono (Jz (K:=K) hok hmix hf hc hl hargs hs hfr h1 h2 h3 h4 h5 h6 (fJ (hmono q) _ _ _ _ _ (fun e env st1 h=>?_) h7)) fun e w' he=>?_
 ·obtain⟨g1,g2,m1,g3,g4⟩:=h;obtain⟨σo,q1,st',vd',k1,k2,k3⟩:=h8 _ _ g4;exact⟨g1,g2,σo,q1,m1,st',vd',k1,k2,k3,g3⟩
 ·match e,he with
  | .returned v,he=>
   obtain⟨x',d,st',g0,g1,g2,g3,g4,g5⟩:=he;exact⟨x',g1,d,st',g0,g2,g3,g4,g5⟩
end
end
end Go.Abs
