/- A part of the proofs. -/
import Derived.IntWalk
import Derived.KernelRfl
import Derived.Lib.TrimUEq
import Derived.Test.YtfijeeijkndliaaGreatDoorP03
set_option linter.all false
set_option maxRecDepth 4000
namespace Go.Abs
section
section
variable {Y:Ctx} {Q Q':Ex->List bE->St->Prop} {env:List bE} {st:St}
def Ctx.cQ (Y:Ctx):Prop:=∀f ds st (K K':D->St->Prop),(∀d st,K d st->K' d st)->Y.tr f ds st K->Y.tr f ds st K'
def hO {draw:Bool}{K K':List bE->St->Prop}(h:∀vs st,K vs st->K' vs st)(htr:Y.cQ):∀(l:List GI) (env vs:List bE) (st:St),fe Y draw l env vs st K->fe Y draw l env vs st K'
 |[],env,vs,st,hh=>h _ _ hh
 |⟨i,g⟩::r,env,vs,st,hh=>by
  cases hcm:i.cI with
  |true=>
   cases i<;>simp only[aC.cI]at hcm<;>try(cases hcm;done)
   .exact⟨hh.1,fun hf=>⟨(hh.2.1 hf).1,htr _ _ _ _ _ (fun d st' ⟨h1,h2⟩=>⟨h1,hO h htr r _ _ _ h2⟩) (hh.2.1 hf).2⟩,fun hf=>hO h htr r _ _ _ (hh.2.2 hf)⟩
   .rename_i fv args;simp only[fe]at hh⊢;refine⟨hh.1,fun hf=>⟨(hh.2.1 hf).1,(hh.2.1 hf).2.1, ?_⟩,fun hf=>hO h htr r _ _ _ (hh.2.2 hf)⟩;have h3:=(hh.2.1 hf).2.2;cases hd:(Src.ev env vs fv).d<;>simp only[hd]at h3⊢;exact⟨h3.1,htr _ _ _ _ _ (fun d st' ⟨h1,h2⟩=>⟨h1,hO h htr r _ _ _ h2⟩) h3.2⟩
   .exact⟨hh.1,hh.2.1,hh.2.2.1,fun b hb=>hO h htr r _ _ _ (hh.2.2.2 b hb)⟩
  |false=>
   cases hf:i.oz draw g with
   |true=>
    rw[yw hcm hf]at hh⊢;exact⟨hh.1,fun e=>⟨(hh.2.1 e).1,hO h htr r _ _ _ (hh.2.1 e).2⟩,fun e=>hO h htr r _ _ _ (hh.2.2 e)⟩
   |false=>
    rw[lr hcm hf]at hh⊢;exact⟨hh.1,hh.2.1,fun ha=>(hh.2.2 ha).imp fun _ h2=>⟨h2.1,hO h htr r _ _ _ h2.2⟩⟩
def Gh.mono {lo:Nat}{p q:List bE->St->Prop}(h:∀env st,p env st->q env st):Gh lo p env st->Gh lo q env st
 |⟨e,s,h1,h2⟩=>⟨e,s,h1,h _ _ h2⟩
def Gh.intro {lo:Nat}{p:List bE->St->Prop}(h:p env st):Gh lo p env st:=⟨env,st,.refl _ _,h⟩
def fG (htr:Y.cQ):∀(a:AC) (Q Q':Ex->List bE->St->Prop) (env:List bE) (st:St),(∀e env st,Q e env st->Q' e env st)->ca Y a Q env st->ca Y a Q' env st
 | .reg draw ins cm,Q,Q',env,st,h,hh=>Gh.mono (fun env st h2=>hO (fun vs st=>h _ _ _) htr _ _ _ _ h2) hh
 | .seq a b,Q,Q',env,st,h,hh=>Gh.mono (fun env st h2=>fG htr a _ _ env st (fun e env st h2=>by
   cases e with
   |normal=>exact fG htr b Q Q' env st h h2
   |exit id=>exact h _ _ _ h2
   |ret=>exact h _ _ _ h2) h2) hh
 | .cond c a b,Q,Q',env,st,h,hh=>Gh.mono (fun env st h2=>by
  refine⟨h2.1, ?_⟩;have:=h2.2;cases hd:(c.ev env []).d<;>simp only[hd]at this⊢;exact⟨fun ht=>fG htr a Q Q' env st h (this.1 ht),fun ht=>fG htr b Q Q' env st h (this.2 ht)⟩) hh
 | .block id a,Q,Q',env,st,h,hh=>Gh.mono (fun env st h2=>fG htr a _ _ env st (fun e env st h2=>by
   cases e with
   |normal=>exact h _ _ _ h2
   |exit j=>simp only at h2⊢;split<;>rename_i hj<;>simp only[hj,aP,aM]at h2<;>exact h _ _ _ h2
   |ret=>exact h _ _ _ h2) h2) hh
 | .loop a,Q,Q',env,st,h,hh=>Gh.mono (fun env st h2=>by
  obtain⟨I,μ,h1,h2⟩:=h2;refine⟨I,μ,h1,fun env st hi=>fG htr a _ _ env st (fun e env' st' h3=>?_) (h2 env st hi)⟩;cases e with
  |normal=>exact h3
  |exit id=>exact h _ _ _ h3
  |ret=>exact h _ _ _ h3) hh
 | .exit id,Q,Q',env,st,h,hh=>Gh.mono (fun _ _=>h _ _ _) hh
 | .ret,Q,Q',env,st,h,hh=>Gh.mono (fun _ _=>h _ _ _) hh
 | .skip,Q,Q',env,st,h,hh=>Gh.mono (fun _ _=>h _ _ _) hh
def iL {a:AC}{env':List bE}{st':St}(g:aW Y.lo env st env' st')(h:ca Y a Q env' st'):ca Y a Q env st:=by
 cases a<;>(obtain⟨e2,s2,g2,h2⟩:=h;exact⟨e2,s2,.trans _ _ _ _ _ _ g g2,h2⟩)
def BQ (Y:Ctx)(id:Nat)(r:AC)(Q:Ex->List bE->St->Prop):Ex->List bE->St->Prop:=fun e env st=>match e with
 | .normal=>ca Y r Q env st
 | .exit j=>if j=id then ca Y r Q env st else Q (.exit j) env st
 | .ret=>Q .ret env st
def LQ (Y:Ctx)(id:Nat)(r:AC)(next:List bE->St->Prop)(Q:Ex->List bE->St->Prop):Ex->List bE->St->Prop:=fun e env st=>match e with
 | .normal=>next env st
 | .exit j=>if j=id then ca Y r Q env st else Q (.exit j) env st
 | .ret=>Q .ret env st
def BQ.normal {id:Nat}{r:AC}(h:ca Y r Q env st):BQ Y id r Q .normal env st:=h
def BQ.out {id:Nat}{r:AC}(h:ca Y r Q env st):BQ Y id r Q (.exit id) env st:=by simp only[BQ,aP];exact h
def BQ.other {id j:Nat}{r:AC}(hj:(j==id)=false)(h:Q (.exit j) env st):BQ Y id r Q (.exit j) env st:=by simp only[BQ,aj (by simpa using hj)];exact h
def BQ.ret {id:Nat}{r:AC}(h:Q .ret env st):BQ Y id r Q .ret env st:=h
def LQ.normal {id:Nat}{r:AC}{next:List bE->St->Prop}(h:next env st):LQ Y id r next Q .normal env st:=h
def LQ.out {id:Nat}{r:AC}{next:List bE->St->Prop}(h:ca Y r Q env st):LQ Y id r next Q (.exit id) env st:=by simp only[LQ,aP];exact h
def LQ.other {id j:Nat}{r:AC}{next:List bE->St->Prop}(hj:(j==id)=false)(h:Q (.exit j) env st):LQ Y id r next Q (.exit j) env st:=by simp only[LQ,aj (by simpa using hj)];exact h
def LQ.ret {id:Nat}{r:AC}{next:List bE->St->Prop}(h:Q .ret env st):LQ Y id r next Q .ret env st:=h
def K9 {a b c:AC}(h:ca Y (.seq a (.seq b c)) Q env st):ca Y (.seq (.seq a b) c) Q env st:=by
 obtain⟨e1,s1,g1,h1⟩:=h;refine⟨e1,s1,g1,e1,s1,.refl _ _, ?_⟩;have:∀(Q1 Q2:Ex->List bE->St->Prop),Q1=Q2->ca Y a Q1 e1 s1->ca Y a Q2 e1 s1:=fun _ _ e h=>e▸h
 refine this _ _ ?_ h1;funext e env st;cases e with
 |normal=>exact propext ⟨fun⟨e2,s2,g2,h2⟩=>iL g2 h2,fun h=>⟨_,_,.refl _ _,h⟩⟩
 |exit id=>rfl
 |ret=>rfl
def DX {b:AC}(h:ca Y b Q env st):ca Y (.seq .skip b) Q env st:=.intro (.intro h)
def wp_skip (h:Q .normal env st):ca Y .skip Q env st:=.intro h
def Ia {b:AC}(h:Q .ret env st):ca Y (.seq .ret b) Q env st:=.intro (.intro h)
def wp_ret (h:Q .ret env st):ca Y .ret Q env st:=.intro h
def DW {id:Nat}{b:AC}(h:Q (.exit id) env st):ca Y (.seq (.exit id) b) Q env st:=.intro (.intro h)
def wp_exit {id:Nat}(h:Q (.exit id) env st):ca Y (.exit id) Q env st:=.intro h
def Cd {id:Nat}{a r:AC}(h:ca Y a (BQ Y id r Q) env st)(htr:Y.cQ):ca Y (.seq (.block id a) r) Q env st:=by
 refine .intro (.intro (fG htr a _ _ _ _ (fun e env st h=>?_) h));cases e with
 |normal=>exact h
 |exit j=>simp only[BQ]at h⊢;split<;>rename_i hj<;>simp only[hj,aP,aM]at h<;>exact h
 |ret=>exact h
def wp_block {id:Nat}{a:AC}(h:ca Y a (BQ Y id .skip Q) env st)(htr:Y.cQ)(hQ:∀e env env' st st',aW Y.lo env st env' st'->Q e env' st'->Q e env st):ca Y (.block id a) Q env st:=by
 refine .intro (fG htr a _ _ _ _ (fun e env st h=>?_) h);have hs:∀env st,ca Y .skip Q env st->Q .normal env st:=fun env st ⟨e2,s2,g2,h2⟩=>hQ _ _ _ _ _ g2 h2
 cases e with
 |normal=>exact hs _ _ h
 |exit j=>simp only[BQ]at h⊢;split<;>rename_i hj<;>simp only[hj,aP,aM]at h<;>first|exact hs _ _ h|exact h
 |ret=>exact h
def CQ (next:List bE->St->Prop)(Q:Ex->List bE->St->Prop):Ex->List bE->St->Prop:=fun e env st=>match e with
 | .normal=>next env st
 | .exit j=>Q (.exit j) env st
 | .ret=>Q .ret env st
def CQ.normal {next:List bE->St->Prop}(h:next env st):CQ next Q .normal env st:=h
def CQ.other {next:List bE->St->Prop}{j:Nat}(h:Q (.exit j) env st):CQ next Q (.exit j) env st:=h
def CQ.ret {next:List bE->St->Prop}(h:Q .ret env st):CQ next Q .ret env st:=h
def Cm (id:Nat)(Q:Ex->List bE->St->Prop):Ex->List bE->St->Prop:=fun e env st=>match e with
 | .normal=>Q .normal env st
 | .exit j=>if j=id then Q .normal env st else Q (.exit j) env st
 | .ret=>Q .ret env st
def Cm.normal {id:Nat}(h:Q .normal env st):Cm id Q .normal env st:=h
def Cm.out {id:Nat}(h:Q .normal env st):Cm id Q (.exit id) env st:=by simp only[Cm,aP];exact h
def Cm.other {id j:Nat}(hj:(j==id)=false)(h:Q (.exit j) env st):Cm id Q (.exit j) env st:=by grind [Cm]
def Cm.ret {id:Nat}(h:Q .ret env st):Cm id Q .ret env st:=h
def H9 {id:Nat}{a:AC}(h:ca Y a (Cm id Q) env st)(htr:Y.cQ):ca Y (.block id a) Q env st:=by
 refine .intro (fG htr a _ _ _ _ (fun e env st h=>?_) h);cases e with
 |normal=>exact h
 |exit j=>simp only[Cm]at h⊢;split<;>rename_i hj<;>simp only[hj,aP,aM]at h<;>exact h
 |ret=>exact h
def nK (htr:Y.cQ){a b:AC}{ι:Type}(F:ι->List bE)(G:ι->List (Nat×bp))(c:Nat)(P:ι->Prop)
  (h1:ca Y a (CQ (fun env' st'=>∃j,P j/\aW Y.lo env' st' (F j) ⟨c,G j⟩) Q) env st)
  (h2:∀i,P i->ca Y b Q (F i) ⟨c,G i⟩):ca Y (.seq a b) Q env st:=by
 refine .intro (fG htr a _ _ _ _ (fun e env st h=>?_) h1);cases e with
 |normal=>obtain⟨j,hj,g⟩:=h;exact iL g (h2 j hj)
 |exit j=>exact h
 |ret=>exact h
def bO (htr:Y.cQ){a r:AC}{id:Nat}{ι:Type}(F:ι->List bE)(G:ι->List (Nat×bp))(c:Nat)(P:ι->Prop)(μ:ι->Nat)(i0:ι)
  (hP:P i0) (h0:aW Y.lo env st (F i0) ⟨c,G i0⟩)
  (hr:∀i,P i->ca Y a (LQ Y id r (fun env' st'=>∃j,P j/\μ j<μ i/\aW Y.lo env' st' (F j) ⟨c,G j⟩) Q) (F i) ⟨c,G i⟩):ca Y (.seq (.block id (.loop a)) r) Q env st:=by
 let W:List bE->St->Nat->Prop:=fun env st k=>∃i,env=F i/\st=⟨c,G i⟩/\P i/\μ i=k
 have least:∀env st,(∃k,W env st k)->∃k,W env st k/\∀k',W env st k'->k<=k':=by
  intro env st ⟨k,hk⟩;induction k using Nat.strongRecOn with
  |_ k ih=>
   by_cases h:∃k',k'<k/\W env st k'
   .obtain⟨k',h1,h2⟩:=h;exact ih k' h1 h2
   .exact⟨k,hk,fun k' hk'=>by
     rcases fH k' k with h1|h1
     .exact absurd ⟨k',h1,hk'⟩ h
     .exact h1⟩
 open Classical in
 refine .intro (.intro ⟨_,_,h0,fun env st=>∃k,W env st k,fun env st=>if h:∃k,W env st k then Classical.choose (least env st h)else 0,⟨_,i0,rfl,rfl,hP,rfl⟩,fun env st hk=>?_⟩);obtain⟨⟨i,e1,e2,e3,e5⟩,hmin⟩:=Classical.choose_spec (least env st hk);have:=hr i e3;rw[<-e1,<-e2]at this;refine fG htr a _ _ env st ?_ this
 .intro e env' st' h;cases e with
  |normal=>
   obtain⟨j,b3,b5,g⟩:=h;have hW:W (F j) ⟨c,G j⟩ (μ j):=⟨j,rfl,rfl,b3,rfl⟩;refine⟨F j,⟨c,G j⟩,g,⟨_,hW⟩, ?_⟩;show(if h:∃k,W (F j) ⟨c,G j⟩ k then Classical.choose (least _ _ h)else 0)<(if h:∃k,W env st k then Classical.choose (least env st h)else 0);rw[dif_pos ⟨_,hW⟩,dif_pos hk,<-e5];exact Nat.lt_of_le_of_lt ((Classical.choose_spec (least _ _ ⟨_,hW⟩)).2 _ hW) b5
  |exit j=>simp only[LQ]at h⊢;split<;>rename_i hj<;>simp only[hj,aP,aM]at h<;>exact h
  |ret=>exact h
def Cn (id:Nat)(next:List bE->St->Prop)(Q:Ex->List bE->St->Prop):Ex->List bE->St->Prop:=fun e env st=>match e with
 | .normal=>next env st
 | .exit j=>if j=id then Q .normal env st else Q (.exit j) env st
 | .ret=>Q .ret env st
def Cn.normal {id:Nat}{next:List bE->St->Prop}(h:next env st):Cn id next Q .normal env st:=h
def Cn.out {id:Nat}{next:List bE->St->Prop}(h:Q .normal env st):Cn id next Q (.exit id) env st:=by simp only[Cn,aP];exact h
def Cn.other {id j:Nat}{next:List bE->St->Prop}(hj:(j==id)=false)(h:Q (.exit j) env st):Cn id next Q (.exit j) env st:=by grind [Cn]
def Cn.ret {id:Nat}{next:List bE->St->Prop}(h:Q .ret env st):Cn id next Q .ret env st:=h
def sc (htr:Y.cQ){a:AC}{id:Nat}{ι:Type}(F:ι->List bE)(G:ι->List (Nat×bp))(c:Nat)(P:ι->Prop)(μ:ι->Nat)(i0:ι)
  (hP:P i0) (h0:aW Y.lo env st (F i0) ⟨c,G i0⟩)
  (hr:∀i,P i->ca Y a (Cn id (fun env' st'=>∃j,P j/\μ j<μ i/\aW Y.lo env' st' (F j) ⟨c,G j⟩) Q) (F i) ⟨c,G i⟩):ca Y (.block id (.loop a)) Q env st:=by
 let W:List bE->St->Nat->Prop:=fun env st k=>∃i,env=F i/\st=⟨c,G i⟩/\P i/\μ i=k
 have least:∀env st,(∃k,W env st k)->∃k,W env st k/\∀k',W env st k'->k<=k':=by
  intro env st ⟨k,hk⟩;induction k using Nat.strongRecOn with
  |_ k ih=>
   by_cases h:∃k',k'<k/\W env st k'
   .obtain⟨k',h1,h2⟩:=h;exact ih k' h1 h2
   .exact⟨k,hk,fun k' hk'=>by
     rcases fH k' k with h1|h1
     .exact absurd ⟨k',h1,hk'⟩ h
     .exact h1⟩
 open Classical in
 refine .intro ⟨_,_,h0,fun env st=>∃k,W env st k,fun env st=>if h:∃k,W env st k then Classical.choose (least env st h)else 0,⟨_,i0,rfl,rfl,hP,rfl⟩,fun env st hk=>?_⟩;obtain⟨⟨i,e1,e2,e3,e5⟩,hmin⟩:=Classical.choose_spec (least env st hk);have:=hr i e3;rw[<-e1,<-e2]at this;refine fG htr a _ _ env st ?_ this
 .intro e env' st' h;cases e with
  |normal=>
   obtain⟨j,b3,b5,g⟩:=h;have hW:W (F j) ⟨c,G j⟩ (μ j):=⟨j,rfl,rfl,b3,rfl⟩;refine⟨F j,⟨c,G j⟩,g,⟨_,hW⟩, ?_⟩;show(if h:∃k,W (F j) ⟨c,G j⟩ k then Classical.choose (least _ _ h)else 0)<(if h:∃k,W env st k then Classical.choose (least env st h)else 0);rw[dif_pos ⟨_,hW⟩,dif_pos hk,<-e5];exact Nat.lt_of_le_of_lt ((Classical.choose_spec (least _ _ ⟨_,hW⟩)).2 _ hW) b5
  |exit j=>simp only[Cn]at h⊢;split<;>rename_i hj<;>simp only[hj,aP,aM]at h<;>exact h
  |ret=>exact h
def nth:List bE->Nat->bE
 |[],_=>.un
 |a::_,0=>a
 |_::r,n+1=>nth r n
def v7:∀(l:List bE) (n:Nat),l.getD n .un=nth l n
 |[],n=>by simp[nth]
 |a::_,0=>by simp[nth]
 |_::r,n+1=>by simpa[nth]using v7 r n
def cq (env rs:List bE):Src->bE
 | .s n=>nth env n
 | .l p=>bif Nat.blt p rs.length then nth rs (rs.length-1-p)else .un
 | .c d=>⟨true,d⟩
theorem mf (env rs:List bE):Src.ev env rs.reverse=cq env rs:=by
 funext s;cases s with
 |s n=>exact v7 env n
 |l p=>
  simp only[Src.ev,cq];cases h:Nat.blt p rs.length with
  |true=>
   have:p<rs.length:=by simp[Nat.blt]at h;omega
   rw[cond_true,<-v7]
   grind
  |false=>
   have:¬p<rs.length:=by intro e;have:Nat.blt p rs.length=true:=by {simp[Nat.blt];omega};rw[this]at h;cases h
   grind
 |c d=>rfl
def aB (Y:Ctx)(draw:Bool)(l:List GI)(env rs:List bE)(nx:Nat)(m:List (Nat×bp))(K:List bE->St->Prop):Prop:=fe Y draw l env rs.reverse ⟨nx,m⟩ K
def IQ (env rs:List bE):List (Nat×Nat)->List bE
 |[]=>env
 |(s,p)::r=>IQ (env.set s (cq [] rs (.l p))) rs r
theorem CM (rs:List bE):∀(cm:List (Nat×Nat)) (env:List bE),gz env rs.reverse cm=IQ env rs cm
 |[],env=>rfl
 |(s,p)::r,env=>by
  simp only[gz,IQ];rw[CM rs r,<-congrFun (mf [] rs) (.l p)];rfl
def av {draw:Bool}{ins:List GI}{cm:List (Nat×Nat)}{b:AC}{nx:Nat}{m:List (Nat×bp)}
  (h:aB Y draw ins env [] nx m (fun vs st'=>ca Y b Q (gz env vs cm) st')):ca Y (.seq (.reg draw ins cm) b) Q env ⟨nx,m⟩:=.intro (.intro h)
def QI {draw:Bool}{ins:List GI}{cm:List (Nat×Nat)}{nx:Nat}{m:List (Nat×bp)}
  (h:aB Y draw ins env [] nx m (fun vs st'=>Q .normal (gz env vs cm) st')):ca Y (.reg draw ins cm) Q env ⟨nx,m⟩:=.intro h
def Ns {draw:Bool}{cm:List (Nat×Nat)}{b:AC}{nx nx':Nat}{m:List (Nat×bp)}{rs gh env':List bE}(h:ca Y b Q env' ⟨nx',m⟩)
  (he:IQ env rs cm=env':=by exact rfl) (hn:nx+rs.length=nx':=by exact tk):aB Y draw [] gh rs nx m (fun vs st'=>ca Y b Q (gz env vs cm) st'):=by
 grind [aB,fe,CM]
def Nt {draw:Bool}{cm:List (Nat×Nat)}{nx nx':Nat}{m:List (Nat×bp)}{rs gh env':List bE}(h:Q .normal env' ⟨nx',m⟩)
  (he:IQ env rs cm=env':=by exact rfl) (hn:nx+rs.length=nx':=by exact tk):aB Y draw [] gh rs nx m (fun vs st'=>Q .normal (gz env vs cm) st'):=by
 grind [aB,fe,CM]
def ax {c:Src}{a b r:AC}{t:Bool}(h1:t=true->ca Y (.seq a r) Q env st)(h2:t=false->ca Y (.seq b r) Q env st)(hc:cq env [] c=⟨true,.bool t⟩:=by exact rfl):ca Y (.seq (.cond c a b) r) Q env st:=by
 have hc':c.ev env []=⟨true,.bool t⟩:=by rw[<-hc,<-mf];rfl
 refine .intro (.intro ?_);simp only[hc'];refine⟨trivial,fun ht=>?_,fun ht=>?_⟩
 .obtain⟨e,s,g,h⟩:=h1 ht;exact iL g h
 .obtain⟨e,s,g,h⟩:=h2 ht;exact iL g h
def wp_cond {c:Src}{a b:AC}{t:Bool}(h1:t=true->ca Y a Q env st)(h2:t=false->ca Y b Q env st)(hc:cq env [] c=⟨true,.bool t⟩:=by exact rfl):ca Y (.cond c a b) Q env st:=by
 have hc':c.ev env []=⟨true,.bool t⟩:=by rw[<-hc,<-mf];rfl
 refine .intro ?_
 grind
theorem aW.to {lo c nx nx':Nat}{env env':List bE}{m m':List (Nat×bp)}(σ:List (Nat×Nat))(hc:nx'=c)(h:gN lo c σ=true)(he:dr lo σ env env')(hm:bg lo c σ m m'):aW lo env ⟨nx,m⟩ env' ⟨nx',m'⟩:=by
 subst hc;exact .ren σ nx' env env' nx m m' h he hm
theorem aI {α β:Type}(q:α->β)(xs:List α):(xs.map q).take xs.length=xs.map q:=eM aJ
def bj {α:Type}{q:α->D}(h:∀x,(q x).aX=true):∀xs:List α,aY (xs.map q)=true
 |[]=>rfl
 |a::r=>by simp only[List.map_cons,aY,h a,bj h r,kE]
def aW.fz {lo:Nat}{env env' env2:List bE}{nx k:Nat}{m m':List (Nat×bp)}{es:List D}{st2:St}(l:Nat)(hl:look m l=some (.buf k es))(hn:aY es=true)(he:kg l k es env=env')(hm:kR l k es (cd m l)=m')(h:aW lo env' ⟨nx,m'⟩ env2 st2):aW lo env ⟨nx,m⟩ env2 st2:=by
 have:=aW.Ig (lo:=lo) l env ⟨nx,m⟩;simp only[Abs.Ig,hl,hn,cond_true,he,hm]at this;exact .trans _ _ _ _ _ _ this h
def eF {a:AC}{nx k:Nat}{m m':List (Nat×bp)}{es:List D}{env env':List bE}(l:Nat)(h:ca Y a Q env' ⟨nx,m'⟩)(hl:look m l=some (.buf k es):=by exact rfl)(hn:aY es=true:=by first|exact rfl|exact bj (fun _=>rfl) _)
  (he:kg l k es env=env':=by simp only[kg,hZ,jo,kR,lY,cd,Nat.reduceEqDiff,aP,aM,cA,bY,bQ,cx,cy,bD,bz,aF,bN,aI,reduceCtorEq,aH,aO,Nat.reduceAdd,Nat.reduceLeDiff];exact rfl)
  (hm:kR l k es (cd m l)=m':=by simp only[kg,hZ,jo,kR,lY,cd,Nat.reduceEqDiff,aP,aM,cA,bY,bQ,cx,cy,bD,bz,aF,bN,aI,reduceCtorEq,aH,aO,Nat.reduceAdd,Nat.reduceLeDiff];exact rfl):ca Y a Q env ⟨nx,m⟩:=
 iL (aW.fz l hl hn he hm (.refl _ _)) h
def N1.rf:∀e:List bE,N1 e e
 |[]=>trivial
 |_::r=>⟨⟨rfl,.refl _⟩,N1.rf r⟩
def D1.nil:D1 [] []:=⟨rfl,fun _=>.refl _⟩
def D1.cons {x y:D}{a b:List D}(h:uu x y)(h2:D1 a b):D1 (x::a) (y::b):=⟨by simp[h2.1],fun i=>by cases i with
 |zero=>exact h
 |succ i=>simpa using h2.2 i⟩
def D1.rf (a:List D):D1 a a:=⟨rfl,fun _=>.refl _⟩
def D1.map {α:Type}{q p:α->D}:∀{xs:List α},(∀x∈xs,uu (q x) (p x))->D1 (xs.map q) (xs.map p)
 |[],_=>.nil
 |x::r,h=>.cons (h x (.head _)) (D1.map fun y hy=>h y (.tail _ hy))
def uu.ag {a b:List D}(h:D1 a b):uu (.agg a) (.agg b):=.agg _ _ h.1 h.2
def uu.ss {k:Nat}{a b:List D}(h:D1 a b):uu (.sl k a) (.sl k b):=.sl _ _ _ h.1 h.2
def Gm.nil {m:List (Nat×bp)}:Gm m []:=trivial
def Gm.id {m r:List (Nat×bp)}{l:Nat}{b:bp}(h:look m l=some b)(h2:Gm m r):Gm m ((l,b)::r):=⟨⟨b,h,by cases b<;>first|exact⟨rfl,.rf _⟩|exact rfl⟩,h2⟩
def Gm.bf {m r:List (Nat×bp)}{l k:Nat}{es es':List D}(h:look m l=some (.buf k es))(hw:D1 es es')(h2:Gm m r):Gm m ((l,.buf k es')::r):=⟨⟨_,h,rfl,hw⟩,h2⟩
def nS {a:AC}{nx:Nat}{m:List (Nat×bp)}{env:List bE}(m':List (Nat×bp))(hm:Gm m m')(h:ca Y a Q env ⟨nx,m'⟩):ca Y a Q env ⟨nx,m⟩:=iL (.nz _ _ _ _ _ (N1.rf _) hm) h
def dr.nil {lo:Nat}{σ:List (Nat×Nat)}:dr lo σ [] []:=trivial
def dr.un {lo:Nat}{σ:List (Nat×Nat)}{a:bE}{r s:List bE}(h:dr lo σ r s):dr lo σ (a::r) (.un::s):=⟨.inr rfl,h⟩
def dr.eq {lo:Nat}{σ:List (Nat×Nat)}{ok:Bool}{d d':D}{r s:List bE}(hd:r8 lo σ d=some d')(h:dr lo σ r s):dr lo σ (⟨ok,d⟩::r) (⟨ok,d'⟩::s):=⟨.inl ⟨rfl,.inr (.inl hd)⟩,h⟩
theorem dr.nl {lo:Nat}{σ:List (Nat×Nat)}{ok:Bool}{d d':D}{r s:List bE}(hd:d'=d)(hn:d.aX=true)(h:dr lo σ r s):dr lo σ (⟨ok,d⟩::r) (⟨ok,d'⟩::s):=⟨.inl ⟨rfl,.inl ⟨hd,hn⟩⟩,h⟩
def dr.ni {lo:Nat}{σ:List (Nat×Nat)}{ok:Bool}{d d':D}{r s:List bE}(hd:ru d d')(h:dr lo σ r s):dr lo σ (⟨ok,d⟩::r) (⟨ok,d'⟩::s):=⟨.inl ⟨rfl,.inr (.inr hd)⟩,h⟩
section
variable {lo c:Nat} {σ:List (Nat×Nat)} {m r:List (Nat×bp)}
def bg.nil:bg lo c σ m []:=trivial
theorem bg.nl {k l':Nat}{es es':List D}(l:Nat)(hl:lu lo σ l=some l')(hm:look m l=some (.buf k es))(he:es'=es)(hn:aY es=true)(h:bg lo c σ m r):bg lo c σ m ((l',.buf k es')::r):=
 ⟨.inl ⟨l,_,hl,hm,rfl,.inl ⟨he,hn⟩⟩,h⟩
def bg.eq {k l':Nat}{es es':List D}(l:Nat)(hl:lu lo σ l=some l')(hm:look m l=some (.buf k es))(he:qW lo σ es=some es')(h:bg lo c σ m r):bg lo c σ m ((l',.buf k es')::r):=
 ⟨.inl ⟨l,_,hl,hm,rfl,.inr (.inl he)⟩,h⟩
def bg.ni {k l':Nat}{es es':List D}(l:Nat)(hl:lu lo σ l=some l')(hm:look m l=some (.buf k es))(he:Cv es es')(h:bg lo c σ m r):bg lo c σ m ((l',.buf k es')::r):=
 ⟨.inl ⟨l,_,hl,hm,rfl,.inr (.inr he)⟩,h⟩
def bg.gH {k l':Nat}{es':List D}(hl:lu lo σ l'=some l')(hm:look m l'=some (.buf k es'))(hn:aY es'=true)(h:bg lo c σ m r):bg lo c σ m ((l',.buf k es')::r):=.nl l' hl hm rfl hn h
def bg.Ih {k l':Nat}{es' es:List D}(hl:lu lo σ l'=some l')(hm:look m l'=some (.buf k es))(he:qW lo σ es=some es')(h:bg lo c σ m r):bg lo c σ m ((l',.buf k es')::r):=.eq l' hl hm he h
def bg.mt {k l':Nat}{es':List D}(h1:Nat.ble lo l'=true)(h2:Nat.blt l' c=true)(h3:σ.all (fun p=>!Nat.beq p.2 l')=true)(he:es'=[])(h:bg lo c σ m r):bg lo c σ m ((l',.buf k es')::r):=
 ⟨.inr ⟨h1,h2,h3,k,by rw[he]⟩,h⟩
def bg.it {l' p p':Nat}{s s':List UInt8}(l:Nat)(hl:lu lo σ l=some l')(hm:look m l=some (.iter s p))(hs:s'=s)(hp:p'=p)(h:bg lo c σ m r):bg lo c σ m ((l',.iter s' p')::r):=
 ⟨.inl ⟨l,_,hl,hm,hs,hp⟩,h⟩
def bg.idi {l' p p':Nat}{s s':List UInt8}(hl:lu lo σ l'=some l')(hm:look m l'=some (.iter s p))(hs:s'=s)(hp:p'=p)(h:bg lo c σ m r):bg lo c σ m ((l',.iter s' p')::r):=.it l' hl hm hs hp h
def bg.rw {l':Nat}{s s':List UInt8}(l:Nat)(hl:lu lo σ l=some l')(hm:look m l=some (.row s))(hs:s'=s)(h:bg lo c σ m r):bg lo c σ m ((l',.row s')::r):=
 ⟨.inl ⟨l,_,hl,hm,hs⟩,h⟩
def bg.bl {l' l1 l2 n n':Nat}{u u':Bool}(l:Nat)(hl:lu lo σ l=some l')(hm:look m l=some (.bld (some l1) n u))(h1:lu lo σ l1=some l2)(hn:n'=n)(hu:u'=u)(h:bg lo c σ m r):bg lo c σ m ((l',.bld (some l2) n' u')::r):=
 ⟨.inl ⟨l,_,hl,hm,⟨l2,h1,rfl⟩,hn,hu⟩,h⟩
def bg.b0 {l' n n':Nat}{u u':Bool}(l:Nat)(hl:lu lo σ l=some l')(hm:look m l=some (.bld none n u))(hn:n'=n)(hu:u'=u)(h:bg lo c σ m r):bg lo c σ m ((l',.bld none n' u')::r):=
 ⟨.inl ⟨l,_,hl,hm,rfl,hn,hu⟩,h⟩
end
mutual
def xC (m:List (Nat×bp)):Sh->D->D
 | .a,d=>match d with
  | .au=>.sl 0 []
  |d=>d
 | .sl k cs,d=>match d with
  | .au=>.sl k []
  | .own l k' i c=>.sl k' ((((aS m l).drop i).take c).map fun e=>match e with
   | .agg ds=>.agg (xL m cs ds)
   |e=>xH m cs e)
  |d=>d
 | .pt cs,d=>match d with
  | .ptr l k i o=>.ref k ((aS m l).map fun e=>match e with
   | .agg ds=>.agg (xL m cs ds)
   |e=>xH m cs e) i o
  |d=>d
def xH (m:List (Nat×bp)):List Sh->D->D
 |[],d=>d
 |s::_,d=>xC m s d
def xL (m:List (Nat×bp)):List Sh->List D->List D
 |[],ds=>ds
 |s::r,ds=>match ds with
  |[]=>[]
  |d::ds=>xC m s d::xL m r ds
end
def xV (m:List (Nat×bp))(cs:List Sh):D->D
 | .agg ds=>.agg (xL m cs ds)
 |e=>xH m cs e
mutual
def OB (m:List (Nat×bp)):Sh->D->Prop
 | .a,d=>d.aX=true
 | .sl _ cs,d=>match d with
  | .own l k' i c=>eZ m l k' (i+c)/\∀e∈((aS m l).drop i).take c,(match e with
   | .agg ds=>Lq m cs ds
   |e=>OC m cs e)
  |d=>d.aX=true
 | .pt cs,d=>match d with
  | .ptr l k _ _=>eZ m l k 0/\∀e∈aS m l,(match e with
   | .agg ds=>Lq m cs ds
   |e=>OC m cs e)
  |d=>d.aX=true
def OC (m:List (Nat×bp)):List Sh->D->Prop
 |[],d=>d.aX=true
 |s::_,d=>OB m s d
def Lq (m:List (Nat×bp)):List Sh->List D->Prop
 |[],ds=>aY ds=true
 |s::r,ds=>match ds with
  |[]=>True
  |d::ds=>OB m s d/\Lq m r ds
end
def Lr (m:List (Nat×bp))(cs:List Sh):D->Prop
 | .agg ds=>Lq m cs ds
 |e=>OC m cs e
mutual
theorem La (m:List (Nat×bp)):∀(s:Sh) (d:D),mW m s d=xC m s d/\(j8 m s d↔OB m s d)
 | .a,d=>by cases d<;>simp only[mW,xC,j8,OB]<;>exact⟨trivial,trivial⟩
 | .sl k cs,d=>by
  cases d<;>simp only[mW,xC,j8,OB]<;>first
   |exact⟨trivial,trivial⟩
   |skip
  rename_i l k' i c;exact⟨ar (D.sl k') (List.map_congr_left fun e _=>(Ce m cs e).1),and_congr_right fun _=>forall_congr' fun e=>imp_congr_right fun _=>(Ce m cs e).2⟩
 | .pt cs,d=>by
  cases d<;>simp only[mW,xC,j8,OB]<;>first
   |exact⟨trivial,trivial⟩
   |skip
  rename_i l k' i c;exact⟨ar (fun x=>D.ref k' x i c) (List.map_congr_left fun e _=>(Ce m cs e).1),and_congr_right fun _=>forall_congr' fun e=>imp_congr_right fun _=>(Ce m cs e).2⟩
theorem Ce (m:List (Nat×bp)):∀(cs:List Sh) (d:D),iO m cs d=(match d with
   | .agg ds=>.agg (xL m cs ds)
   |e=>xH m cs e)/\(gT m cs d↔(match d with
   | .agg ds=>Lq m cs ds
   |e=>OC m cs e))
 |[],d=>by cases d<;>simp only[iO,xH,xL,gT,OC,Lq,D.aX]<;>first|exact⟨trivial,Iff.rfl⟩|exact⟨trivial,trivial⟩
 |s::r,d=>by
  cases d<;>simp only[iO,xH,gT,OC]<;>first
   |exact La m s _
   |skip
  rename_i ds;exact⟨ar D.agg (E4 m (s::r) ds).1,(E4 m (s::r) ds).2⟩
theorem E4 (m:List (Nat×bp)):∀(cs:List Sh) (ds:List D),mX m cs ds=xL m cs ds/\(kL m cs ds↔Lq m cs ds)
 |[],ds=>by simp only[mX,xL,kL,Lq];exact⟨trivial,trivial⟩
 |s::r,[]=>by simp only[mX,xL,kL,Lq];exact⟨trivial,trivial⟩
 |s::r,d::ds=>by
  simp only[mX,xL,kL,Lq,(La m s d).1,(E4 m r ds).1];exact⟨trivial,and_congr (La m s d).2 (E4 m r ds).2⟩
end
theorem yY (m:List (Nat×bp))(cs:List Sh)(d:D):iO m cs d=xV m cs d/\(gT m cs d↔Lr m cs d):=by
 have:=Ce m cs d;cases d<;>exact this
def lN (m:List (Nat×bp)):List (List Sh)->List D->List D
 |_,[]=>[]
 |[],d::r=>xV m [.a] d::lN m [] r
 |s::ss,d::r=>xV m s d::lN m ss r
def jh (m:List (Nat×bp)):List (List Sh)->List D->Prop
 |_,[]=>True
 |[],d::r=>Lr m [.a] d/\jh m [] r
 |s::ss,d::r=>Lr m s d/\jh m ss r
theorem dt (m:List (Nat×bp)):∀(ss:List (List Sh)) (ds:List D),gL m ss ds=lN m ss ds/\(iH m ss ds↔jh m ss ds)
 |ss,[]=>by simp[gL,lN,iH,jh]
 |[],d::r=>by
  simp only[gL,lN,iH,jh,(yY m [.a] d).1,(dt m [] r).1];exact⟨trivial,and_congr (yY m _ d).2 (dt m [] r).2⟩
 |s::ss,d::r=>by
  simp only[gL,lN,iH,jh,(yY m s d).1,(dt m ss r).1];exact⟨trivial,and_congr (yY m _ d).2 (dt m ss r).2⟩
def Pl (a:aN)(d:D):Ex->List bE->St->Prop:=fun e env st=>e.home/\n4 st.m env a.res/\EK a env st/\Nv a env st=d
def Ib (a:aN)(env:List bE)(m:List (Nat×bp)):D:=match a.res with
 |[r]=>xV m (a.rsh.getD 0 []) (BM m env r)
 |rs=>.tup (lN m a.rsh (n5 m env rs))
def yZ (a:aN)(env:List bE)(m:List (Nat×bp)):Prop:=match a.res with
 |[r]=>Lr m (a.rsh.getD 0 []) (BM m env r)
 |rs=>jh m a.rsh (n5 m env rs)
def Qs {a:aN}{d:D}{e:Ex}{nx:Nat}{m:List (Nat×bp)}(he:e.home)(h1:n4 m env a.res)(h2:yZ a env m)(h3:Ib a env m=d):Pl a d e env ⟨nx,m⟩:=by
 refine⟨he,h1, ?_, ?_⟩
 .unfold EK;unfold yZ at h2;split<;>rename_i hr
  .rw[hr]at h2;exact(yY _ _ _).2.2 h2
  .split at h2
   .rename_i hr2;exact absurd hr2 (hr _)
   .exact(dt _ _ _).2.2 h2
 grind [Nv,Ib,yY,dt]
def Gl (a:aN)(k:Nat)(vd sd:D):Ex->List bE->St->Prop:=fun e env st=>e.home/\n4 st.m env a.res/\(jQ a env st).aX=true/\jQ a env st=vd/\look st.m 0=some (.buf k [sd])/\sd.aX=true
def fT {a:aN}{k:Nat}{vd sd:D}{e:Ex}{nx:Nat}{m:List (Nat×bp)}(he:e.home)(h1:n4 m env a.res)(h2:jQ a env ⟨nx,m⟩=vd)(h3:look m 0=some (.buf k [sd]))(hn:vd.aX=true)(hs:sd.aX=true):Gl a k vd sd e env ⟨nx,m⟩:=⟨he,h1,by rw[h2];exact hn,h2,h3,hs⟩
end
end
section
section
variable {Y:Ctx} {draw:Bool} {r:List GI} {env rs:List bE} {nx:Nat} {m:List (Nat×bp)} {K:List bE->St->Prop} {g:Option (Nat×Bool)} {f:Bool}
def at8 (s:List UInt8)(i:Nat):Int:=((s.getD i 0).toNat:Int)
def ID (s:List UInt8)(i:Nat):0<=at8 s i/\at8 s i<256:=by
 have:=(s.getD i 0).toNat_lt;unfold at8;omega
def D.PJ:D->Bool
 | .str _=>true
 |_=>false
def wrap_i64 {a:Int}(h1:-9223372036854775808<=a)(h2:a<=9223372036854775807):IntKind.i64.wrap a=a:=IntWalk.i64_in _ ae
def nq (a b:List UInt8):(a==b)=decide (a=b):=by
 grind
def getD_map {α:Type} [Inhabited α]{q:α->D}{xs:List α}{i:Nat}(h:i<xs.length):(xs.map q).getD i .any=q xs[i]! :=by
 simp[List.getD,h]
def QC (b:UInt8):(D.int .u8 b.toNat).u8=b:=by simp[D.u8]
def LX (s:List UInt8):D.str ((s.map fun b=>D.int .u8 b.toNat).map D.u8)=.str s:=by
 congr 1;rw[List.map_map]
 conv=>rhs;rw[<-List.map_id s]
 apply List.map_congr_left;intro b _;exact QC b
def GF (rs:List bE):Option (Nat×Bool)->Bool->Prop
 |none,f=>f=true
 |some (j,w),f=>∃ok b,cq [] rs (.l j)=⟨ok,.bool b⟩/\(ok&&(b==w))=f
def GF.flag (h:GF rs g f):flag rs.reverse g=f/\ub rs.reverse g:=by
 cases g with
 |none=>exact⟨h.symm,trivial⟩
 |some jw=>
  obtain⟨j,w⟩:=jw;obtain⟨ok,b,h1,h2⟩:=h;have h3:rs.reverse.getD j .un=⟨ok,.bool b⟩:=by rw[<-h1,<-mf];rfl
  simp only[Abs.flag,ub,h3,h2,D.isBool];exact⟨trivial,fun _=>trivial⟩
def Kq {i:aC}(hM:i.cI=false)(hF:i.oz draw g=false)(hC:g.isSome=true->i.calm=true)(hg:GF rs g f)(d:D)(ho:f=true->i.dD Y (cq env rs) m)
  (hv:f=true->i.val Y (cq env rs) m (nx+rs.length)=d) (m':List (Nat×bp)) (hm:i.cj Y (cq env rs) m (nx+rs.length)=m')
  (h:(f=true->i.Aj draw (cq env rs))->aB Y draw r env (⟨f,d⟩::rs) nx m' K):aB Y draw (⟨i,g⟩::r) env rs nx m K:=by
 obtain⟨hf,hb⟩:=hg.flag;unfold aB;rw[lr hM hF,mf,hf];refine⟨?_,ho,fun ha=>⟨d,by simpa using hv, ?_⟩⟩
 .cases g with
  |none=>trivial
  |some jw=>exact⟨hC rfl,hb⟩
 grind [aB]
def fS {i:aC}(hC:i.calm=true)(hg:GF rs g f)(d:D)(ho:f=true->i.dD Y (cq env rs) m)
  (hv:f=true->i.val Y (cq env rs) m (nx+rs.length)=d) (m':List (Nat×bp)) (hm:i.cj Y (cq env rs) m (nx+rs.length)=m')
  (h:(f=true->i.Aj draw (cq env rs))->aB Y draw r env (⟨f,d⟩::rs) nx m' K):aB Y draw (⟨i,g⟩::r) env rs nx m K:=
 Kq (by cases i<;>first|rfl|cases hC) (by simp[aC.oz,hC]) (fun _=>hC) hg d ho hv m' hm h
def bG {i:aC}(hC:i.pure=true)(hg:GF rs g f)(d:D)(ho:f=true->i.dD Y (cq env rs) m)
  (hv:f=true->i.val Y (cq env rs) m (nx+rs.length)=d) 
  (h:(f=true->i.Aj draw (cq env rs))->aB Y draw r env (⟨f,d⟩::rs) nx m K):aB Y draw (⟨i,g⟩::r) env rs nx m K:=
 fS (HG hC) hg d ho hv m (Kk hC) h
def oT {i:aC}(hM:i.cI=false)(d:D)(ho:i.dD Y (cq env rs) m)
  (hv:i.val Y (cq env rs) m (nx+rs.length)=d) (m':List (Nat×bp)) (hm:i.cj Y (cq env rs) m (nx+rs.length)=m')
  (h:i.Aj draw (cq env rs)->aB Y draw r env (⟨true,d⟩::rs) nx m' K):aB Y draw (⟨i,none⟩::r) env rs nx m K:=
 Kq hM (by simp[aC.oz]) (fun h=>by cases h) rfl d (fun _=>ho) (fun _=>hv) m' hm (fun ha=>h (ha rfl))
def r_mv {x:Src}{fx:Bool}{d:D}(h:aB Y draw r env (⟨f,d⟩::rs) nx m K)(hg:GF rs g f:=by exact cW)(hx:cq env rs x=⟨fx,d⟩:=by exact rfl)(kx:f=true->fx=true:=by exact bR):aB Y draw (⟨.mv x,g⟩::r) env rs nx m K:=
 bG rfl hg _ (fun hf=>by simp[aC.dD,hx,kx hf]) (fun hf=>by simp[aC.val,hx]) (fun ha=>h)
def Tm {x:Src}{fx:Bool}{b:Bool}(h:aB Y draw r env (⟨f,.bool (!b)⟩::rs) nx m K)(hg:GF rs g f:=by exact cW)(hx:cq env rs x=⟨fx,.bool b⟩:=by exact rfl)(kx:f=true->fx=true:=by exact bR):aB Y draw (⟨.un .not x,g⟩::r) env rs nx m K:=
 bG rfl hg _ (fun hf=>by simp[aC.dD,hx,kx hf]) (fun hf=>by simp[aC.val,hx]) (fun ha=>h)
def BA {c b:Src}{fc fb t y:Bool}(h:aB Y draw r env (⟨f,.bool (t ||y)⟩::rs) nx m K)(hg:GF rs g f:=by exact cW)(hc:cq env rs c=⟨fc,.bool t⟩:=by exact rfl)(hb:cq env rs b=⟨fb,.bool y⟩:=by exact rfl)(kc:f=true->fc=true:=by exact bR)(kb:f=true->t=false->fb=true:=by intro h1 h2;first|(rw[h2];exact rfl)|(rw[h2,h1];rfl)|(rw[h1,h2];rfl)|simp_all):aB Y draw (⟨.pick c (.c (.bool true)) b,g⟩::r) env rs nx m K:=
 bG rfl hg _ (fun hf=>by simp only[aC.dD,hc,hb];exact⟨kc hf,fun _=>rfl,fun e=>kb hf e⟩) (fun hf=>by simp only[aC.val,hc,hb];cases t<;>rfl) (fun _=>h)
def Te {c a:Src}{fc fa t y:Bool}(h:aB Y draw r env (⟨f,.bool (t&&y)⟩::rs) nx m K)(hg:GF rs g f:=by exact cW)(hc:cq env rs c=⟨fc,.bool t⟩:=by exact rfl)(ha:cq env rs a=⟨fa,.bool y⟩:=by exact rfl)(kc:f=true->fc=true:=by exact bR)(ka:f=true->t=true->fa=true:=by intro h1 h2;first|(rw[h2];exact rfl)|(rw[h2,h1];rfl)|(rw[h1,h2];rfl)|simp_all):aB Y draw (⟨.pick c a (.c (.bool false)),g⟩::r) env rs nx m K:=
 bG rfl hg _ (fun hf=>by simp only[aC.dD,hc,ha];exact⟨kc hf,fun e=>ka hf e,fun _=>rfl⟩) (fun hf=>by simp only[aC.val,hc,ha];cases t<;>rfl) (fun _=>h)
def Nn {x y:Src}{fx fy:Bool}{a b:Int}(h:aB Y draw r env (⟨f,.int .i64 (a+b)⟩::rs) nx m K)(hg:GF rs g f:=by exact cW)(hx:cq env rs x=⟨fx,.int .i64 a⟩:=by exact rfl)(hy:cq env rs y=⟨fy,.int .i64 b⟩:=by exact rfl)(kx:f=true->fx=true:=by exact bR)(ky:f=true->fy=true:=by exact bR)(hb:f=true->-9223372036854775808<=a+b/\a+b<=9223372036854775807:=by exact DY):aB Y draw (⟨.bin .add x y,g⟩::r) env rs nx m K:=
 bG rfl hg _ (fun hf=>by simp[aC.dD,hx,hy,kx hf,ky hf,iT]) (fun hf=>by simp only[aC.val,hx,hy,jE];rw[wrap_i64 (hb hf).1 (hb hf).2]) (fun ha=>h)
def Kn {x y:Src}{fx fy:Bool}{k:IntKind}{a b:Int}(v:Int)(h:aB Y draw r env (⟨f,.int k v⟩::rs) nx m K)(hg:GF rs g f:=by exact cW)(hx:cq env rs x=⟨fx,.int k a⟩:=by exact rfl)(hy:cq env rs y=⟨fy,.int k b⟩:=by exact rfl)(kx:f=true->fx=true:=by exact bR)(ky:f=true->fy=true:=by exact bR)(hb:f=true->k.wrap (a+b)=v):aB Y draw (⟨.bin .add x y,g⟩::r) env rs nx m K:=
 bG rfl hg _ (fun hf=>by simp[aC.dD,hx,hy,kx hf,ky hf,iT]) (fun hf=>by simp only[aC.val,hx,hy,jE];rw[hb hf]) (fun ha=>h)
def r5 {x y:Src}{fx fy:Bool}{a b:Int}(h:aB Y draw r env (⟨f,.int .i64 (a-b)⟩::rs) nx m K)(hg:GF rs g f:=by exact cW)(hx:cq env rs x=⟨fx,.int .i64 a⟩:=by exact rfl)(hy:cq env rs y=⟨fy,.int .i64 b⟩:=by exact rfl)(kx:f=true->fx=true:=by exact bR)(ky:f=true->fy=true:=by exact bR)(hb:f=true->-9223372036854775808<=a-b/\a-b<=9223372036854775807:=by exact DY):aB Y draw (⟨.bin .sub x y,g⟩::r) env rs nx m K:=
 bG rfl hg _ (fun hf=>by simp[aC.dD,hx,hy,kx hf,ky hf,iT]) (fun hf=>by simp only[aC.val,hx,hy,jE];rw[wrap_i64 (hb hf).1 (hb hf).2]) (fun ha=>h)
def Ky {x y:Src}{fx fy:Bool}{k:IntKind}{a b:Int}(v:Int)(h:aB Y draw r env (⟨f,.int k v⟩::rs) nx m K)(hg:GF rs g f:=by exact cW)(hx:cq env rs x=⟨fx,.int k a⟩:=by exact rfl)(hy:cq env rs y=⟨fy,.int k b⟩:=by exact rfl)(kx:f=true->fx=true:=by exact bR)(ky:f=true->fy=true:=by exact bR)(hb:f=true->k.wrap (a-b)=v):aB Y draw (⟨.bin .sub x y,g⟩::r) env rs nx m K:=
 bG rfl hg _ (fun hf=>by simp[aC.dD,hx,hy,kx hf,ky hf,iT]) (fun hf=>by simp only[aC.val,hx,hy,jE];rw[hb hf]) (fun ha=>h)
def uL {x y:Src}{fx fy:Bool}{a b:Int}(h:aB Y draw r env (⟨f,.int .i64 (a*b)⟩::rs) nx m K)(hg:GF rs g f:=by exact cW)(hx:cq env rs x=⟨fx,.int .i64 a⟩:=by exact rfl)(hy:cq env rs y=⟨fy,.int .i64 b⟩:=by exact rfl)(kx:f=true->fx=true:=by exact bR)(ky:f=true->fy=true:=by exact bR)(hb:f=true->-9223372036854775808<=a*b/\a*b<=9223372036854775807:=by exact DY):aB Y draw (⟨.bin .mul x y,g⟩::r) env rs nx m K:=
 bG rfl hg _ (fun hf=>by simp[aC.dD,hx,hy,kx hf,ky hf,iT]) (fun hf=>by simp only[aC.val,hx,hy,jE];rw[wrap_i64 (hb hf).1 (hb hf).2]) (fun ha=>h)
def Tn {x y:Src}{fx fy:Bool}{k:IntKind}{a b:Int}(v:Int)(h:aB Y draw r env (⟨f,.int k v⟩::rs) nx m K)(hg:GF rs g f:=by exact cW)(hx:cq env rs x=⟨fx,.int k a⟩:=by exact rfl)(hy:cq env rs y=⟨fy,.int k b⟩:=by exact rfl)(kx:f=true->fx=true:=by exact bR)(ky:f=true->fy=true:=by exact bR)(hn:f=true->b≠0)(hb:f=true->k.wrap (a.tdiv b)=v):aB Y draw (⟨.bin .quo x y,g⟩::r) env rs nx m K:=
 bG rfl hg _ (fun hf=>by simp[aC.dD,hx,hy,kx hf,ky hf,iT,hn hf]) (fun hf=>by simp only[aC.val,hx,hy,jE];rw[hb hf]) (fun ha=>h)
def EE {x y:Src}{fx fy:Bool}{k:IntKind}{a b:Int}(v:Int)(h:aB Y draw r env (⟨f,.int k v⟩::rs) nx m K)(hg:GF rs g f:=by exact cW)(hx:cq env rs x=⟨fx,.int k a⟩:=by exact rfl)(hy:cq env rs y=⟨fy,.int k b⟩:=by exact rfl)(kx:f=true->fx=true:=by exact bR)(ky:f=true->fy=true:=by exact bR)(hn:f=true->b≠0)(hb:f=true->a.tmod b=v):aB Y draw (⟨.bin .rem x y,g⟩::r) env rs nx m K:=
 bG rfl hg _ (fun hf=>by simp[aC.dD,hx,hy,kx hf,ky hf,iT,hn hf]) (fun hf=>by simp only[aC.val,hx,hy,jE];rw[hb hf]) (fun ha=>h)
def EF {x y:Src}{fx fy:Bool}{k k2:IntKind}{a b:Int}(v:Int)(h:aB Y draw r env (⟨f,.int k v⟩::rs) nx m K)(hg:GF rs g f:=by exact cW)(hx:cq env rs x=⟨fx,.int k a⟩:=by exact rfl)(hy:cq env rs y=⟨fy,.int k2 b⟩:=by exact rfl)(kx:f=true->fx=true:=by exact bR)(ky:f=true->fy=true:=by exact bR)(hn:f=true->0<=b:=by exact sf)(hb:f=true->a.fdiv (2^(min b.toNat k.bits))=v):aB Y draw (⟨.bin .shr x y,g⟩::r) env rs nx m K:=
 bG rfl hg _ (fun hf=>by simp[aC.dD,hx,hy,kx hf,ky hf,iT,hn hf]) (fun hf=>by simp only[aC.val,hx,hy,jE];rw[hb hf]) (fun ha=>h)
def zP {x y:Src}{fx fy:Bool}{k:IntKind}{a b:Int}(v:Int)(h:aB Y draw r env (⟨f,.int k v⟩::rs) nx m K)(hg:GF rs g f:=by exact cW)(hx:cq env rs x=⟨fx,.int k a⟩:=by exact rfl)(hy:cq env rs y=⟨fy,.int k b⟩:=by exact rfl)(kx:f=true->fx=true:=by exact bR)(ky:f=true->fy=true:=by exact bR)(hb:f=true->k.wrap (((BitVec.ofInt k.bits a)&&&(BitVec.ofInt k.bits b)).toNat)=v):aB Y draw (⟨.bin .and x y,g⟩::r) env rs nx m K:=
 bG rfl hg _ (fun hf=>by simp[aC.dD,hx,hy,kx hf,ky hf,iT]) (fun hf=>by simp only[aC.val,hx,hy,jE];rw[hb hf]) (fun ha=>h)
def Qk {x y:Src}{fx fy:Bool}{k:IntKind}{a b:Int}(h:aB Y draw r env (⟨f,.bool (decide (a<b))⟩::rs) nx m K)(hg:GF rs g f:=by exact cW)(hx:cq env rs x=⟨fx,.int k a⟩:=by exact rfl)(hy:cq env rs y=⟨fy,.int k b⟩:=by exact rfl)(kx:f=true->fx=true:=by exact bR)(ky:f=true->fy=true:=by exact bR):aB Y draw (⟨.bin .lss x y,g⟩::r) env rs nx m K:=
 bG rfl hg _ (fun hf=>by simp[aC.dD,hx,hy,kx hf,ky hf,iT]) (fun hf=>by simp only[aC.val,hx,hy,jE]<;>rfl) (fun ha=>h)
def Qi {x y:Src}{fx fy:Bool}{k:IntKind}{a b:Int}(h:aB Y draw r env (⟨f,.bool (decide (a<=b))⟩::rs) nx m K)(hg:GF rs g f:=by exact cW)(hx:cq env rs x=⟨fx,.int k a⟩:=by exact rfl)(hy:cq env rs y=⟨fy,.int k b⟩:=by exact rfl)(kx:f=true->fx=true:=by exact bR)(ky:f=true->fy=true:=by exact bR):aB Y draw (⟨.bin .leq x y,g⟩::r) env rs nx m K:=
 bG rfl hg _ (fun hf=>by simp[aC.dD,hx,hy,kx hf,ky hf,iT]) (fun hf=>by simp only[aC.val,hx,hy,jE]<;>rfl) (fun ha=>h)
def Du {x y:Src}{fx fy:Bool}{k:IntKind}{a b:Int}(h:aB Y draw r env (⟨f,.bool (decide (b<a))⟩::rs) nx m K)(hg:GF rs g f:=by exact cW)(hx:cq env rs x=⟨fx,.int k a⟩:=by exact rfl)(hy:cq env rs y=⟨fy,.int k b⟩:=by exact rfl)(kx:f=true->fx=true:=by exact bR)(ky:f=true->fy=true:=by exact bR):aB Y draw (⟨.bin .gtr x y,g⟩::r) env rs nx m K:=
 bG rfl hg _ (fun hf=>by simp[aC.dD,hx,hy,kx hf,ky hf,iT]) (fun hf=>by simp only[aC.val,hx,hy,jE]<;>rfl) (fun ha=>h)
def Qd {x y:Src}{fx fy:Bool}{k:IntKind}{a b:Int}(h:aB Y draw r env (⟨f,.bool (decide (b<=a))⟩::rs) nx m K)(hg:GF rs g f:=by exact cW)(hx:cq env rs x=⟨fx,.int k a⟩:=by exact rfl)(hy:cq env rs y=⟨fy,.int k b⟩:=by exact rfl)(kx:f=true->fx=true:=by exact bR)(ky:f=true->fy=true:=by exact bR):aB Y draw (⟨.bin .geq x y,g⟩::r) env rs nx m K:=
 bG rfl hg _ (fun hf=>by simp[aC.dD,hx,hy,kx hf,ky hf,iT]) (fun hf=>by simp only[aC.val,hx,hy,jE]<;>rfl) (fun ha=>h)
def Qb {x y:Src}{fx fy:Bool}{k:IntKind}{a b:Int}(h:aB Y draw r env (⟨f,.bool (decide (a=b))⟩::rs) nx m K)(hg:GF rs g f:=by exact cW)(hx:cq env rs x=⟨fx,.int k a⟩:=by exact rfl)(hy:cq env rs y=⟨fy,.int k b⟩:=by exact rfl)(kx:f=true->fx=true:=by exact bR)(ky:f=true->fy=true:=by exact bR):aB Y draw (⟨.bin .eql x y,g⟩::r) env rs nx m K:=
 bG rfl hg _ (fun hf=>by simp[aC.dD,hx,hy,kx hf,ky hf,iT]) (fun hf=>by simp only[aC.val,hx,hy,jE]<;>rfl) (fun ha=>h)
def Qm {x y:Src}{fx fy:Bool}{k:IntKind}{a b:Int}(h:aB Y draw r env (⟨f,.bool (!decide (a=b))⟩::rs) nx m K)(hg:GF rs g f:=by exact cW)(hx:cq env rs x=⟨fx,.int k a⟩:=by exact rfl)(hy:cq env rs y=⟨fy,.int k b⟩:=by exact rfl)(kx:f=true->fx=true:=by exact bR)(ky:f=true->fy=true:=by exact bR):aB Y draw (⟨.bin .neq x y,g⟩::r) env rs nx m K:=
 bG rfl hg _ (fun hf=>by simp[aC.dD,hx,hy,kx hf,ky hf,iT]) (fun hf=>by simp only[aC.val,hx,hy,jE]<;>rfl) (fun ha=>h)
def Ql {x y:Src}{fx fy:Bool}{a b:List UInt8}(h:aB Y draw r env (⟨f,.bool (Op.bytesLess a b)⟩::rs) nx m K)(hg:GF rs g f:=by exact cW)(hx:cq env rs x=⟨fx,.str a⟩:=by exact rfl)(hy:cq env rs y=⟨fy,.str b⟩:=by exact rfl)(kx:f=true->fx=true:=by exact bR)(ky:f=true->fy=true:=by exact bR):aB Y draw (⟨.bin .lss x y,g⟩::r) env rs nx m K:=
 bG rfl hg _ (fun hf=>by simp[aC.dD,hx,hy,kx hf,ky hf,iT]) (fun hf=>by simp only[aC.val,hx,hy,jE,nq]) (fun ha=>h)
def Qj {x y:Src}{fx fy:Bool}{a b:List UInt8}(h:aB Y draw r env (⟨f,.bool (Op.bytesLess a b ||decide (a=b))⟩::rs) nx m K)(hg:GF rs g f:=by exact cW)(hx:cq env rs x=⟨fx,.str a⟩:=by exact rfl)(hy:cq env rs y=⟨fy,.str b⟩:=by exact rfl)(kx:f=true->fx=true:=by exact bR)(ky:f=true->fy=true:=by exact bR):aB Y draw (⟨.bin .leq x y,g⟩::r) env rs nx m K:=
 bG rfl hg _ (fun hf=>by simp[aC.dD,hx,hy,kx hf,ky hf,iT]) (fun hf=>by simp only[aC.val,hx,hy,jE,nq]) (fun ha=>h)
def Dv {x y:Src}{fx fy:Bool}{a b:List UInt8}(h:aB Y draw r env (⟨f,.bool (!(Op.bytesLess a b ||decide (a=b)))⟩::rs) nx m K)(hg:GF rs g f:=by exact cW)(hx:cq env rs x=⟨fx,.str a⟩:=by exact rfl)(hy:cq env rs y=⟨fy,.str b⟩:=by exact rfl)(kx:f=true->fx=true:=by exact bR)(ky:f=true->fy=true:=by exact bR):aB Y draw (⟨.bin .gtr x y,g⟩::r) env rs nx m K:=
 bG rfl hg _ (fun hf=>by simp[aC.dD,hx,hy,kx hf,ky hf,iT]) (fun hf=>by simp only[aC.val,hx,hy,jE,nq]) (fun ha=>h)
def Qe {x y:Src}{fx fy:Bool}{a b:List UInt8}(h:aB Y draw r env (⟨f,.bool (!Op.bytesLess a b)⟩::rs) nx m K)(hg:GF rs g f:=by exact cW)(hx:cq env rs x=⟨fx,.str a⟩:=by exact rfl)(hy:cq env rs y=⟨fy,.str b⟩:=by exact rfl)(kx:f=true->fx=true:=by exact bR)(ky:f=true->fy=true:=by exact bR):aB Y draw (⟨.bin .geq x y,g⟩::r) env rs nx m K:=
 bG rfl hg _ (fun hf=>by simp[aC.dD,hx,hy,kx hf,ky hf,iT]) (fun hf=>by simp only[aC.val,hx,hy,jE,nq]) (fun ha=>h)
def Qc {x y:Src}{fx fy:Bool}{a b:List UInt8}(h:aB Y draw r env (⟨f,.bool (decide (a=b))⟩::rs) nx m K)(hg:GF rs g f:=by exact cW)(hx:cq env rs x=⟨fx,.str a⟩:=by exact rfl)(hy:cq env rs y=⟨fy,.str b⟩:=by exact rfl)(kx:f=true->fx=true:=by exact bR)(ky:f=true->fy=true:=by exact bR):aB Y draw (⟨.bin .eql x y,g⟩::r) env rs nx m K:=
 bG rfl hg _ (fun hf=>by simp[aC.dD,hx,hy,kx hf,ky hf,iT]) (fun hf=>by simp only[aC.val,hx,hy,jE,nq]) (fun ha=>h)
def Qn {x y:Src}{fx fy:Bool}{a b:List UInt8}(h:aB Y draw r env (⟨f,.bool (!decide (a=b))⟩::rs) nx m K)(hg:GF rs g f:=by exact cW)(hx:cq env rs x=⟨fx,.str a⟩:=by exact rfl)(hy:cq env rs y=⟨fy,.str b⟩:=by exact rfl)(kx:f=true->fx=true:=by exact bR)(ky:f=true->fy=true:=by exact bR):aB Y draw (⟨.bin .neq x y,g⟩::r) env rs nx m K:=
 bG rfl hg _ (fun hf=>by simp[aC.dD,hx,hy,kx hf,ky hf,iT]) (fun hf=>by simp only[aC.val,hx,hy,jE,nq]) (fun ha=>h)
def eB {x y:Src}{fx fy:Bool}{a b:List UInt8}(h:aB Y draw r env (⟨f,.str (a++b)⟩::rs) nx m K)(hg:GF rs g f:=by exact cW)(hx:cq env rs x=⟨fx,.str a⟩:=by exact rfl)(hy:cq env rs y=⟨fy,.str b⟩:=by exact rfl)(kx:f=true->fx=true:=by exact bR)(ky:f=true->fy=true:=by exact bR)(hb:f=true->a.length+b.length<=9223372036854775807):aB Y draw (⟨.bin .add x y,g⟩::r) env rs nx m K:=
 bG rfl hg _ (fun hf=>by simp[aC.dD,hx,hy,kx hf,ky hf,iT,hb hf]) (fun hf=>by simp only[aC.val,hx,hy,jE]) (fun ha=>h)
def tK {x:Src}{fx:Bool}{k k2:IntKind}{a:Int}(v:Int)(h:aB Y draw r env (⟨f,.int k v⟩::rs) nx m K)(hg:GF rs g f:=by exact cW)(hx:cq env rs x=⟨fx,.int k2 a⟩:=by exact rfl)(kx:f=true->fx=true:=by exact bR)(hb:f=true->k.wrap a=v):aB Y draw (⟨.cvi k x,g⟩::r) env rs nx m K:=
 bG rfl hg _ (fun hf=>by simp[aC.dD,hx,kx hf]) (fun hf=>by simp only[aC.val,hx];rw[hb hf]) (fun ha=>h)
def Kx {x:Src}{fx:Bool}{s:List UInt8}(h:(f=true->draw=false->s.length<=9223372036854775807)->aB Y draw r env (⟨f,.int .i64 s.length⟩::rs) nx m K)(hg:GF rs g f:=by exact cW)(hx:cq env rs x=⟨fx,.str s⟩:=by exact rfl)(kx:f=true->fx=true:=by exact bR):aB Y draw (⟨.lenS x,g⟩::r) env rs nx m K:=
 bG rfl hg _ (fun hf=>by simp[aC.dD,hx,kx hf]) (fun hf=>by simp[aC.val,hx]) (fun ha=>h (fun hf hd=>by have:=ha hf;subst hd;simpa[aC.Aj,hx,kx hf]using this))
def Kv {x:Src}{fx:Bool}{α:Type}{k:Nat}{q:α->D}{xs:List α}(h:(f=true->draw=false->xs.length<=9223372036854775807)->aB Y draw r env (⟨f,.int .i64 xs.length⟩::rs) nx m K)(hg:GF rs g f:=by exact cW)(hx:cq env rs x=⟨fx,.sl k (xs.map q)⟩:=by exact rfl)(kx:f=true->fx=true:=by exact bR):aB Y draw (⟨.len x,g⟩::r) env rs nx m K:=
 bG rfl hg _ (fun hf=>by simp[aC.dD,hx,kx hf]) (fun hf=>by simp[aC.val,hx]) (fun ha=>h (fun hf hd=>by have:=ha hf;subst hd;simpa[aC.Aj,hx,kx hf]using this))
def Kw {x:Src}{fx:Bool}{l k i n:Nat}(h:(f=true->draw=false->n<=9223372036854775807)->aB Y draw r env (⟨f,.int .i64 n⟩::rs) nx m K)(hg:GF rs g f:=by exact cW)(hx:cq env rs x=⟨fx,.own l k i n⟩:=by exact rfl)(kx:f=true->fx=true:=by exact bR):aB Y draw (⟨.len x,g⟩::r) env rs nx m K:=
 bG rfl hg _ (fun hf=>by simp[aC.dD,hx,kx hf]) (fun hf=>by simp[aC.val,hx]) (fun ha=>h (fun hf hd=>by have:=ha hf;subst hd;simpa[aC.Aj,hx,kx hf]using this))
def Qh {x:Src}{fx:Bool}(h:aB Y draw r env (⟨f,.int .i64 0⟩::rs) nx m K)(hg:GF rs g f:=by exact cW)(hx:cq env rs x=⟨fx,.au⟩:=by exact rfl)(kx:f=true->fx=true:=by exact bR):aB Y draw (⟨.len x,g⟩::r) env rs nx m K:=
 bG rfl hg _ (fun hf=>by simp[aC.dD,hx,kx hf]) (fun hf=>by simp[aC.val,hx]) (fun ha=>h)
def Qo {x:Src}{fx:Bool}{l k i o:Nat}(h:aB Y draw r env (⟨f,.ptr l k i o⟩::rs) nx m K)(hg:GF rs g f:=by exact cW)(hx:cq env rs x=⟨fx,.ptr l k i o⟩:=by exact rfl)(kx:f=true->fx=true:=by exact bR):aB Y draw (⟨.nilck x,g⟩::r) env rs nx m K:=
 bG rfl hg _ (fun hf=>by simp[aC.dD,hx,kx hf]) (fun hf=>by simp[aC.val,hx]) (fun ha=>h)
def Qp {x:Src}{fx:Bool}{k i o:Nat}{es:List D}(h:aB Y draw r env (⟨f,.ref k es i o⟩::rs) nx m K)(hg:GF rs g f:=by exact cW)(hx:cq env rs x=⟨fx,.ref k es i o⟩:=by exact rfl)(kx:f=true->fx=true:=by exact bR):aB Y draw (⟨.nilck x,g⟩::r) env rs nx m K:=
 bG rfl hg _ (fun hf=>by simp[aC.dD,hx,kx hf]) (fun hf=>by simp[aC.val,hx]) (fun ha=>h)
def Tg {x:Src}{fx:Bool}{off l k i o:Nat}(h:aB Y draw r env (⟨f,.ptr l k i (o+off)⟩::rs) nx m K)(hg:GF rs g f:=by exact cW)(hx:cq env rs x=⟨fx,.ptr l k i o⟩:=by exact rfl)(kx:f=true->fx=true:=by exact bR):aB Y draw (⟨.fa off x,g⟩::r) env rs nx m K:=
 bG rfl hg _ (fun hf=>by simp[aC.dD,hx,kx hf]) (fun hf=>by simp[aC.val,hx]) (fun ha=>h)
def Th {x:Src}{fx:Bool}{off k i o:Nat}{es:List D}(h:aB Y draw r env (⟨f,.ref k es i (o+off)⟩::rs) nx m K)(hg:GF rs g f:=by exact cW)(hx:cq env rs x=⟨fx,.ref k es i o⟩:=by exact rfl)(kx:f=true->fx=true:=by exact bR):aB Y draw (⟨.fa off x,g⟩::r) env rs nx m K:=
 bG rfl hg _ (fun hf=>by simp[aC.dD,hx,kx hf]) (fun hf=>by simp[aC.val,hx]) (fun ha=>h)
def cr {x y:Src}{fx fy:Bool}{α:Type}{k:Nat}{q:α->D}{xs:List α}{i:Int}{kk:IntKind}(j:Nat)(h:aB Y draw r env (⟨f,.ref k (xs.map q) j 0⟩::rs) nx m K)(hg:GF rs g f:=by exact cW)(hx:cq env rs x=⟨fx,.sl k (xs.map q)⟩:=by exact rfl)(hy:cq env rs y=⟨fy,.int kk i⟩:=by exact rfl)(kx:f=true->fx=true:=by exact bR)(ky:f=true->fy=true:=by exact bR)(hj:f=true->i=(j:Int):=by exact ur)(hb:f=true->j<xs.length:=by exact sf):aB Y draw (⟨.ia k x y,g⟩::r) env rs nx m K:=
 bG rfl hg _ (fun hf=>by simp only[aC.dD,hx,hy,bz];exact⟨kx hf,ky hf,trivial,by have:=hj hf;omega,by have:=hj hf;have:=hb hf;omega⟩) (fun hf=>by simp only[aC.val,hx,hy];rw[hj hf];rfl) (fun ha=>h)
def mZ {x y:Src}{fx fy:Bool}{l k i0 n:Nat}{i:Int}{kk:IntKind}(j:Nat)(h:aB Y draw r env (⟨f,.ptr l k (i0+j) 0⟩::rs) nx m K)(hg:GF rs g f:=by exact cW)(hx:cq env rs x=⟨fx,.own l k i0 n⟩:=by exact rfl)(hy:cq env rs y=⟨fy,.int kk i⟩:=by exact rfl)(kx:f=true->fx=true:=by exact bR)(ky:f=true->fy=true:=by exact bR)(hj:f=true->i=(j:Int):=by exact ur)(hb:f=true->j<n:=by exact sf):aB Y draw (⟨.ia k x y,g⟩::r) env rs nx m K:=
 bG rfl hg _ (fun hf=>by simp only[aC.dD,hx,hy];exact⟨kx hf,ky hf,trivial,by have:=hj hf;omega,by have:=hj hf;have:=hb hf;omega⟩) (fun hf=>by simp only[aC.val,hx,hy];rw[hj hf];rfl) (fun ha=>h)
def zQ {x y:Src}{fx fy:Bool}{l k k2 n i0 o:Nat}{i:Int}{kk:IntKind}(j:Nat)(h:aB Y draw r env (⟨f,.ptr l k2 i0 (o+j*k)⟩::rs) nx m K)(hg:GF rs g f:=by exact cW)(hx:cq env rs x=⟨fx,.ptr l k2 i0 o⟩:=by exact rfl)(hy:cq env rs y=⟨fy,.int kk i⟩:=by exact rfl)(kx:f=true->fx=true:=by exact bR)(ky:f=true->fy=true:=by exact bR)(hj:f=true->i=(j:Int):=by exact ur)(hb:f=true->j<n:=by exact sf):aB Y draw (⟨.iaP n k x y,g⟩::r) env rs nx m K:=
 bG rfl hg _ (fun hf=>by simp only[aC.dD,hx,hy];exact⟨kx hf,ky hf,by have:=hj hf;omega,by have:=hj hf;have:=hb hf;omega⟩) (fun hf=>by simp only[aC.val,hx,hy];rw[hj hf];rfl) (fun ha=>h)
def Dw {x y:Src}{fx fy:Bool}{k k2 n i0 o:Nat}{es:List D}{i:Int}{kk:IntKind}(j:Nat)(h:aB Y draw r env (⟨f,.ref k2 es i0 (o+j*k)⟩::rs) nx m K)(hg:GF rs g f:=by exact cW)(hx:cq env rs x=⟨fx,.ref k2 es i0 o⟩:=by exact rfl)(hy:cq env rs y=⟨fy,.int kk i⟩:=by exact rfl)(kx:f=true->fx=true:=by exact bR)(ky:f=true->fy=true:=by exact bR)(hj:f=true->i=(j:Int):=by first|exact fun _=>rfl|(intro _;omega))(hb:f=true->j<n:=by intro _;omega):aB Y draw (⟨.iaP n k x y,g⟩::r) env rs nx m K:=
 bG rfl hg _ (fun hf=>by simp only[aC.dD,hx,hy];exact⟨kx hf,ky hf,by have:=hj hf;omega,by have:=hj hf;have:=hb hf;omega⟩) (fun hf=>by simp only[aC.val,hx,hy];rw[hj hf];rfl) (fun ha=>h)
def ED {x y:Src}{fx fy:Bool}{s:List UInt8}{i:Int}{kk:IntKind}(j:Nat)(h:aB Y draw r env (⟨f,.int .u8 (at8 s j)⟩::rs) nx m K)(hg:GF rs g f:=by exact cW)(hx:cq env rs x=⟨fx,.str s⟩:=by exact rfl)(hy:cq env rs y=⟨fy,.int kk i⟩:=by exact rfl)(kx:f=true->fx=true:=by exact bR)(ky:f=true->fy=true:=by exact bR)(hj:f=true->i=(j:Int):=by exact ur)(hb:f=true->j<s.length:=by exact sf):aB Y draw (⟨.ixS x y,g⟩::r) env rs nx m K:=
 bG rfl hg _ (fun hf=>by simp only[aC.dD,hx,hy];exact⟨kx hf,ky hf,by have:=hj hf;omega,by have:=hj hf;have:=hb hf;omega⟩) (fun hf=>by simp only[aC.val,hx,hy];rw[hj hf];rfl) (fun ha=>h)
def By {x y:Src}{fx fy:Bool}{n k:Nat}{ag:Bool}{cs:List D}{i:Int}{kk:IntKind}(j:Nat)(v:D)(h:aB Y draw r env (⟨f,v⟩::rs) nx m K)(hg:GF rs g f:=by exact cW)(hx:cq env rs x=⟨fx,.agg cs⟩:=by exact rfl)(hy:cq env rs y=⟨fy,.int kk i⟩:=by exact rfl)(kx:f=true->fx=true:=by exact bR)(ky:f=true->fy=true:=by exact bR)(hj:f=true->i=(j:Int):=by exact ur)(hb:f=true->j<n:=by exact sf)(hl:cs.length=n*k:=by exact rfl)(h1:ag=false->k=1:=by intro h;first|exact rfl|cases h)(hv:f=true->cut cs (j*k) k ag=v):aB Y draw (⟨.ixA n k ag x y,g⟩::r) env rs nx m K:=
 bG rfl hg _ (fun hf=>by simp only[aC.dD,hx,hy];exact⟨kx hf,ky hf,h1,by have:=hj hf;omega,by have:=hj hf;have:=hb hf;omega,hl⟩) (fun hf=>by simp only[aC.val,hx,hy];rw[<-hv hf,hj hf];rfl) (fun ha=>h)
def Kr {x y:Src}{fx fy:Bool}{α:Type}{k:Nat}{q:α->D}{xs:List α}{i:Int}{kk:IntKind}(h:aB Y draw r env (⟨f,.ref k (xs.map q) i.toNat 0⟩::rs) nx m K)(hg:GF rs g f:=by exact cW)(hx:cq env rs x=⟨fx,.sl k (xs.map q)⟩:=by exact rfl)(hy:cq env rs y=⟨fy,.int kk i⟩:=by exact rfl)(kx:f=true->fx=true:=by exact bR)(ky:f=true->fy=true:=by exact bR)(hb:f=true->0<=i/\i<(xs.length:Nat):=by exact DY):aB Y draw (⟨.ia k x y,g⟩::r) env rs nx m K:=
 bG rfl hg _ (fun hf=>by simp only[aC.dD,hx,hy,bz];exact⟨kx hf,ky hf,trivial,(hb hf).1,(hb hf).2⟩) (fun hf=>by simp only[aC.val,hx,hy]<;>rfl) (fun ha=>h)
def Qf {x y:Src}{fx fy:Bool}{l k i0 n:Nat}{i:Int}{kk:IntKind}(h:aB Y draw r env (⟨f,.ptr l k (i0+i.toNat) 0⟩::rs) nx m K)(hg:GF rs g f:=by exact cW)(hx:cq env rs x=⟨fx,.own l k i0 n⟩:=by exact rfl)(hy:cq env rs y=⟨fy,.int kk i⟩:=by exact rfl)(kx:f=true->fx=true:=by exact bR)(ky:f=true->fy=true:=by exact bR)(hb:f=true->0<=i/\i<(n:Nat):=by exact DY):aB Y draw (⟨.ia k x y,g⟩::r) env rs nx m K:=
 bG rfl hg _ (fun hf=>by simp only[aC.dD,hx,hy,bz];exact⟨kx hf,ky hf,trivial,(hb hf).1,(hb hf).2⟩) (fun hf=>by simp only[aC.val,hx,hy]<;>rfl) (fun ha=>h)
def Qg {x y:Src}{fx fy:Bool}{s:List UInt8}{i:Int}{kk:IntKind}(h:aB Y draw r env (⟨f,.int .u8 (at8 s i.toNat)⟩::rs) nx m K)(hg:GF rs g f:=by exact cW)(hx:cq env rs x=⟨fx,.str s⟩:=by exact rfl)(hy:cq env rs y=⟨fy,.int kk i⟩:=by exact rfl)(kx:f=true->fx=true:=by exact bR)(ky:f=true->fy=true:=by exact bR)(hb:f=true->0<=i/\i<(s.length:Nat):=by exact DY):aB Y draw (⟨.ixS x y,g⟩::r) env rs nx m K:=
 bG rfl hg _ (fun hf=>by simp only[aC.dD,hx,hy,bz];exact⟨kx hf,ky hf,(hb hf).1,(hb hf).2⟩) (fun hf=>by simp only[aC.val,hx,hy]<;>rfl) (fun ha=>h)
def m3 {x y:Src}{fx fy:Bool}{s:List UInt8}{k2:IntKind}{a:Int}(i:Nat)(h:aB Y draw r env (⟨f,.str (s.drop i)⟩::rs) nx m K)(hg:GF rs g f:=by exact cW)(hx:cq env rs x=⟨fx,.str s⟩:=by exact rfl)(hy:cq env rs y=⟨fy,.int k2 a⟩:=by exact rfl)(kx:f=true->fx=true:=by exact bR)(ky:f=true->fy=true:=by exact bR)(hi:f=true->a=(i:Int):=by exact ur)(hb:f=true->i<=s.length:=by exact sf):aB Y draw (⟨.slS x (some y) none,g⟩::r) env rs nx m K:=
 bG rfl hg _ (fun hf=>by simp only[aC.dD,Ij,dO,hx,hy];have:=hb hf;have:=hi hf;refine⟨kx hf,ky hf,trivial, ?_⟩;simp only[nr,dS,bY,bQ,Int.ofNat_eq_natCast];omega) (fun hf=>by simp only[aC.val,dO,dS,hx,hy];rw[hi hf];simp) (fun ha=>h)
def wy {x y:Src}{fx fy:Bool}{α:Type}{k:Nat}{q:α->D}{s:List α}{k2:IntKind}{a:Int}(i:Nat)(h:aB Y draw r env (⟨f,.sl k ((s.drop i).map q)⟩::rs) nx m K)(hg:GF rs g f:=by exact cW)(hx:cq env rs x=⟨fx,.sl k (s.map q)⟩:=by exact rfl)(hy:cq env rs y=⟨fy,.int k2 a⟩:=by exact rfl)(kx:f=true->fx=true:=by exact bR)(ky:f=true->fy=true:=by exact bR)(hi:f=true->a=(i:Int):=by exact ur)(hb:f=true->i<=s.length:=by exact sf):aB Y draw (⟨.slA k x (some y) none,g⟩::r) env rs nx m K:=
 bG rfl hg _ (fun hf=>by simp only[aC.dD,Ij,dO,hx,hy,bz];have:=hb hf;have:=hi hf;refine⟨kx hf,ky hf,trivial,trivial, ?_⟩;simp only[nr,dS,bY,bQ,Int.ofNat_eq_natCast];omega) (fun hf=>by simp only[aC.val,dO,dS,hx,hy];rw[hi hf];first|(simp only[List.take_length,Int.toNat_natCast,List.map_drop];done)|simp[List.map_drop,List.map_take]) (fun ha=>h)
def rZ {x z:Src}{fx fz:Bool}{s:List UInt8}{k3:IntKind}{c:Int}(j:Nat)(h:aB Y draw r env (⟨f,.str (s.take j)⟩::rs) nx m K)(hg:GF rs g f:=by exact cW)(hx:cq env rs x=⟨fx,.str s⟩:=by exact rfl)(hz:cq env rs z=⟨fz,.int k3 c⟩:=by exact rfl)(kx:f=true->fx=true:=by exact bR)(kz:f=true->fz=true:=by exact bR)(hj:f=true->c=(j:Int):=by exact ur)(hb:f=true->j<=s.length:=by exact sf):aB Y draw (⟨.slS x none (some z),g⟩::r) env rs nx m K:=
 bG rfl hg _ (fun hf=>by simp only[aC.dD,Ij,dO,hx,hz];have:=hb hf;have:=hj hf;refine⟨kx hf,trivial,kz hf, ?_⟩;simp only[nr,dS,bY,bQ,Int.ofNat_eq_natCast];omega) (fun hf=>by simp only[aC.val,dO,dS,hx,hz];rw[hj hf];simp) (fun ha=>h)
def oU {x z:Src}{fx fz:Bool}{α:Type}{k:Nat}{q:α->D}{s:List α}{k3:IntKind}{c:Int}(j:Nat)(h:aB Y draw r env (⟨f,.sl k ((s.take j).map q)⟩::rs) nx m K)(hg:GF rs g f:=by exact cW)(hx:cq env rs x=⟨fx,.sl k (s.map q)⟩:=by exact rfl)(hz:cq env rs z=⟨fz,.int k3 c⟩:=by exact rfl)(kx:f=true->fx=true:=by exact bR)(kz:f=true->fz=true:=by exact bR)(hj:f=true->c=(j:Int):=by exact ur)(hb:f=true->j<=s.length:=by exact sf):aB Y draw (⟨.slA k x none (some z),g⟩::r) env rs nx m K:=
 bG rfl hg _ (fun hf=>by simp only[aC.dD,Ij,dO,hx,hz,bz];have:=hb hf;have:=hj hf;refine⟨kx hf,trivial,kz hf,trivial, ?_⟩;simp only[nr,dS,bY,bQ,Int.ofNat_eq_natCast];omega) (fun hf=>by simp only[aC.val,dO,dS,hx,hz];rw[hj hf];first|(simp only[List.take_length,Int.toNat_natCast,List.map_drop];done)|simp[List.map_drop,List.map_take]) (fun ha=>h)
def BB {x z:Src}{fx fz:Bool}{l k i0 n:Nat}{k3:IntKind}{c:Int}(j:Nat)(h:aB Y draw r env (⟨f,.own l k i0 j⟩::rs) nx m K)(hg:GF rs g f:=by exact cW)(hx:cq env rs x=⟨fx,.own l k i0 n⟩:=by exact rfl)(hz:cq env rs z=⟨fz,.int k3 c⟩:=by exact rfl)(kx:f=true->fx=true:=by exact bR)(kz:f=true->fz=true:=by exact bR)(hj:f=true->c=(j:Int):=by exact ur)(hb:f=true->j<=n:=by exact sf):aB Y draw (⟨.slA k x none (some z),g⟩::r) env rs nx m K:=
 bG rfl hg _ (fun hf=>by simp only[aC.dD,Ij,dO,hx,hz];have:=hb hf;have:=hj hf;refine⟨kx hf,trivial,kz hf,trivial, ?_⟩;simp only[nr,dS,bY,bQ,Int.ofNat_eq_natCast];omega) (fun hf=>by simp only[aC.val,dO,dS,hx,hz];rw[hj hf];simp) (fun ha=>h)
def BC {x y z:Src}{fx fy fz:Bool}{s:List UInt8}{k2:IntKind}{a:Int}(i:Nat){k3:IntKind}{c:Int}(j:Nat)(h:aB Y draw r env (⟨f,.str ((s.take j).drop i)⟩::rs) nx m K)(hg:GF rs g f:=by exact cW)(hx:cq env rs x=⟨fx,.str s⟩:=by exact rfl)(hy:cq env rs y=⟨fy,.int k2 a⟩:=by exact rfl)(hz:cq env rs z=⟨fz,.int k3 c⟩:=by exact rfl)(kx:f=true->fx=true:=by exact bR)(ky:f=true->fy=true:=by exact bR)(kz:f=true->fz=true:=by exact bR)(hi:f=true->a=(i:Int):=by exact ur)(hj:f=true->c=(j:Int):=by exact ur)(hb:f=true->i<=j/\j<=s.length:=by exact DY):aB Y draw (⟨.slS x (some y) (some z),g⟩::r) env rs nx m K:=
 bG rfl hg _ (fun hf=>by simp only[aC.dD,Ij,dO,hx,hy,hz];have:=hb hf;have:=hi hf;have:=hj hf;refine⟨kx hf,ky hf,kz hf, ?_⟩;simp only[nr,dS,bY,bQ,Int.ofNat_eq_natCast];omega) (fun hf=>by simp only[aC.val,dO,dS,hx,hy,hz];rw[hi hf,hj hf];simp) (fun ha=>h)
def hX {x:Src}{fx:Bool}{i:Nat}{ds:List D}(v:D)(h:aB Y draw r env (⟨f,v⟩::rs) nx m K)(hg:GF rs g f:=by exact cW)(hx:cq env rs x=⟨fx,.tup ds⟩:=by exact rfl)(kx:f=true->fx=true:=by exact bR)(hv:f=true->ds.getD i .any=v:=by exact fun _=>rfl)(hb:f=true->i<ds.length:=by intro _;simp only[aH,aO];omega):aB Y draw (⟨.ext x i,g⟩::r) env rs nx m K:=
 bG rfl hg _ (fun hf=>by simp only[aC.dD,hx];exact⟨kx hf,hb hf⟩) (fun hf=>by simp only[aC.val,hx];exact hv hf) (fun ha=>h)
def ep {z:List D}{ps:List (Nat×Nat×Src)}(v:List D)(h:aB Y draw r env (⟨f,.agg v⟩::rs) nx m K)(hg:GF rs g f:=by exact cW)(hv:f=true->vz (cq env rs) z ps=v:=by exact fun _=>rfl)(ho:f=true->xX (cq env rs) z.length ps:=by exact xF):aB Y draw (⟨.build z ps,g⟩::r) env rs nx m K:=
 bG rfl hg _ (fun hf=>ho hf) (fun hf=>by simp only[aC.val];rw[hv hf]) (fun _=>h)
def bq {z:List D}{ps:List (Nat×Nat×Src)}(d:D)(h:aB Y draw r env (⟨f,d⟩::rs) nx m K)(hg:GF rs g f:=by exact cW)(hv:f=true->D.agg (vz (cq env rs) z ps)=d:=by exact fun _=>rfl)(ho:f=true->xX (cq env rs) z.length ps:=by exact xF):aB Y draw (⟨.build z ps,g⟩::r) env rs nx m K:=
 bG rfl hg _ (fun hf=>ho hf) (fun hf=>by simp only[aC.val];exact hv hf) (fun _=>h)
def C6 {e:D}{n o:Nat}{ag:Bool}(h:e.isAgg=ag):mT e n n o ag=e:=by simp[mT,h]
def dj {x:Src}{fx:Bool}{n l:Nat}{ag:Bool}{d:D}(h:aB Y draw r env (⟨f,d⟩::rs) nx m K)(hg:GF rs g f:=by exact cW)(hx:cq env rs x=⟨fx,.ptr l n 0 0⟩:=by exact rfl)(kx:f=true->fx=true:=by exact bR)(hl:f=true->look m l=some (.buf n [d]):=by exact fun _=>rfl)(ha:f=true->d.isAgg=ag:=by exact fun _=>rfl):aB Y draw (⟨.ld n ag x,g⟩::r) env rs nx m K:=
 fS rfl hg _ (fun hf=>by simp only[aC.dD,hx,Bf,eZ,hl hf];exact⟨kx hf,⟨trivial,aJ⟩,ae⟩) (fun hf=>by simp only[aC.val,hx,yh,aS,hl hf,fY];exact C6 (ha hf)) m rfl (fun ha=>h)
def bZ {x:Src}{fx:Bool}{n l k o:Nat}{ag:Bool}{d:D}(v:D)(h:aB Y draw r env (⟨f,v⟩::rs) nx m K)(hg:GF rs g f:=by exact cW)(hx:cq env rs x=⟨fx,.ptr l k 0 o⟩:=by exact rfl)(kx:f=true->fx=true:=by exact bR)(hl:f=true->look m l=some (.buf k [d]):=by exact fun _=>rfl)(hv:f=true->mT d k n o ag=v:=by exact fun _=>rfl)(ho:o+n<=k:=by omega):aB Y draw (⟨.ld n ag x,g⟩::r) env rs nx m K:=
 fS rfl hg _ (fun hf=>by simp only[aC.dD,hx,Bf,eZ,hl hf];exact⟨kx hf,⟨trivial,aJ⟩,ho⟩) (fun hf=>by simp only[aC.val,hx,yh,aS,hl hf,fY];exact hv hf) m rfl (fun ha=>h)
def tL {x:Src}{fx:Bool}{α:Type} [Inhabited α]{n l k i o:Nat}{ag:Bool}{q:α->D}{xs:List α}(v:D)(h:aB Y draw r env (⟨f,v⟩::rs) nx m K)(hg:GF rs g f:=by exact cW)(hx:cq env rs x=⟨fx,.ptr l k i o⟩:=by exact rfl)(kx:f=true->fx=true:=by exact bR)(hl:f=true->look m l=some (.buf k (xs.map q)):=by exact fun _=>rfl)(hi:f=true->i<xs.length:=by exact sf)(hv:f=true->mT (q xs[i]!) k n o ag=v:=by exact fun _=>rfl)(ho:o+n<=k:=by omega):aB Y draw (⟨.ld n ag x,g⟩::r) env rs nx m K:=
 fS rfl hg _ (fun hf=>by simp only[aC.dD,hx,Bf,eZ,hl hf,bz];exact⟨kx hf,⟨trivial,by have:=hi hf;omega⟩,ho⟩) (fun hf=>by simp only[aC.val,hx,yh,aS,hl hf];rw[getD_map (hi hf)];exact hv hf) m rfl (fun ha=>h)
def b6 {x:Src}{fx:Bool}{α:Type} [Inhabited α]{n k i o:Nat}{ag:Bool}{q:α->D}{xs:List α}(v:D)(h:aB Y draw r env (⟨f,v⟩::rs) nx m K)(hg:GF rs g f:=by exact cW)(hx:cq env rs x=⟨fx,.ref k (xs.map q) i o⟩:=by exact rfl)(kx:f=true->fx=true:=by exact bR)(hi:f=true->i<xs.length:=by exact sf)(hv:f=true->mT (q xs[i]!) k n o ag=v:=by exact fun _=>rfl)(ho:o+n<=k:=by omega):aB Y draw (⟨.ld n ag x,g⟩::r) env rs nx m K:=
 fS rfl hg _ (fun hf=>by simp only[aC.dD,hx,Bf,bz];exact⟨kx hf,hi hf,ho⟩) (fun hf=>by simp only[aC.val,hx,yh];rw[getD_map (hi hf)];exact hv hf) m rfl (fun ha=>h)
def jx {x:Src}{fx:Bool}{n k i o:Nat}{ag:Bool}{es:List D}(v:D)(h:aB Y draw r env (⟨f,v⟩::rs) nx m K)(hg:GF rs g f:=by exact cW)(hx:cq env rs x=⟨fx,.ref k es i o⟩:=by exact rfl)(kx:f=true->fx=true:=by exact bR)(hi:f=true->i<es.length:=by intro _;simp only[aH,aO];omega)(hv:f=true->mT (es.getD i .any) k n o ag=v:=by exact fun _=>rfl)(ho:o+n<=k:=by omega):aB Y draw (⟨.ld n ag x,g⟩::r) env rs nx m K:=
 fS rfl hg _ (fun hf=>by simp only[aC.dD,hx,Bf];exact⟨kx hf,hi hf,ho⟩) (fun hf=>by simp only[aC.val,hx,yh];exact hv hf) m rfl (fun ha=>h)
def Dy {x:Src}{fx:Bool}{n k i o:Nat}{ag:Bool}{es:List D}(v:D)(h:aB Y draw r env (⟨f,v⟩::rs) nx m K)(hg:GF rs g f:=by exact cW)(hx:cq env rs x=⟨fx,.ref k es i o⟩:=by exact rfl)(kx:f=true->fx=true:=by exact bR)(hi:f=true->i<es.length:=by intro _;simp only[aH,aO];omega)(hv:f=true->mT (es.getD i .any) k n o ag=v:=by exact fun _=>rfl)(ho:o+n<=k:=by omega):aB Y draw (⟨.ldI n ag x,g⟩::r) env rs nx m K:=
 bG rfl hg _ (fun hf=>by simp only[aC.dD,hx,Bf];exact⟨kx hf,hi hf,ho⟩) (fun hf=>by simp only[aC.val,hx,yh];exact hv hf) (fun ha=>h)
def Tf {x:Src}{fx:Bool}{k:Nat}{d:D}{L:Nat}{m2:List (Nat×bp)}(h:aB Y draw r env (⟨f,.ptr L k 0 0⟩::rs) nx m2 K)(hg:GF rs g f:=by exact cW)(hx:cq env rs x=⟨fx,d⟩:=by exact rfl)(kx:f=true->fx=true:=by exact bR)(hc:d.cells.length=k:=by exact rfl)(hL:nx+rs.length=L:=by exact tk)(hm:cM m L (.buf k [d])=m2:=by simp only[cM,cd,Nat.reduceEqDiff,aP,aM,Nat.reduceAdd,reduceCtorEq];exact rfl):aB Y draw (⟨.box k x,g⟩::r) env rs nx m K:=
 fS rfl hg _ (fun hf=>by simp only[aC.dD,hx];exact⟨kx hf,hc⟩) (fun hf=>by simp only[aC.val,hx,hL]) _ (by simp only[aC.cj,hx,hL];exact hm) (fun _=>h)
def Tj {L:Nat}{m2:List (Nat×bp)}(h:aB Y draw r env (⟨f,.ptr L 2 0 0⟩::rs) nx m2 K)(hg:GF rs g f:=by exact cW)(hL:nx+rs.length=L:=by exact tk)(hm:cM m L (.bld none 0 false)=m2:=by simp only[cM,cd,Nat.reduceEqDiff,aP,aM,Nat.reduceAdd,reduceCtorEq];exact rfl):aB Y draw (⟨.mkB,g⟩::r) env rs nx m K:=
 fS rfl hg _ (fun _=>trivial) (fun hf=>by simp only[aC.val,hL]) _ (by simp only[aC.cj,hL];exact hm) (fun _=>h)
def Tp {x:Src}{fx:Bool}{s:List UInt8}{L:Nat}{m2:List (Nat×bp)}(h:aB Y draw r env (⟨f,.own L 1 0 s.length⟩::rs) nx m2 K)(hg:GF rs g f:=by exact cW)(hx:cq env rs x=⟨fx,.str s⟩:=by exact rfl)(kx:f=true->fx=true:=by exact bR)(hL:nx+rs.length=L:=by exact tk)(hm:cM m L (.buf 1 (s.map fun b=>.int .u8 b.toNat))=m2:=by simp only[cM,cd,Nat.reduceEqDiff,aP,aM,Nat.reduceAdd,reduceCtorEq];exact rfl):aB Y draw (⟨.s2b x,g⟩::r) env rs nx m K:=
 fS rfl hg _ (fun hf=>by simp only[aC.dD,hx];exact⟨kx hf,trivial⟩) (fun hf=>by simp only[aC.val,hx,hL]) _ (by simp only[aC.cj,hx,hL];exact hm) (fun _=>h)
def To {x:Src}{fx:Bool}{s:List UInt8}{L:Nat}{m2:List (Nat×bp)}(h:aB Y draw r env (⟨f,.it L⟩::rs) nx m2 K)(hg:GF rs g f:=by exact cW)(hx:cq env rs x=⟨fx,.str s⟩:=by exact rfl)(kx:f=true->fx=true:=by exact bR)(hL:nx+rs.length=L:=by exact tk)(hm:cM m L (.iter s 0)=m2:=by simp only[cM,cd,Nat.reduceEqDiff,aP,aM,Nat.reduceAdd,reduceCtorEq];exact rfl):aB Y draw (⟨.sa x,g⟩::r) env rs nx m K:=
 fS rfl hg _ (fun hf=>by simp only[aC.dD,hx];exact⟨kx hf,trivial⟩) (fun hf=>by simp only[aC.val,hx,hL]) _ (by simp only[aC.cj,hx,hL];exact hm) (fun _=>h)
def cZ {k n:Nat}{z:D}{ps:List (Nat×Src)}{L:Nat}{m2:List (Nat×bp)}(es:List D)(h:aB Y draw r env (⟨f,.own L k 0 n⟩::rs) nx m2 K)(hg:GF rs g f:=by exact cW)(he:kI (cq env rs) (List.replicate n z) ps=es:=by exact rfl)(ho:f=true->qE (cq env rs) k n ps:=by exact xF)(hz:z.cells.length=k:=by exact rfl)(hL:nx+rs.length=L:=by exact tk)(hm:cM m L (.buf k es)=m2:=by simp only[cM,cd,Nat.reduceEqDiff,aP,aM,Nat.reduceAdd,reduceCtorEq];exact rfl):aB Y draw (⟨.bsl k z n ps,g⟩::r) env rs nx m K:=
 fS rfl hg _ (fun hf=>⟨hz,ho hf⟩) (fun hf=>by simp only[aC.val,hL]) _ (by simp only[aC.cj,he,hL];exact hm) (fun _=>h)
def Tl {k:Nat}{z:D}{x y:Src}{k1 k2:IntKind}{a c:Int}{L:Nat}{m2:List (Nat×bp)}(n:Nat)(h:aB Y draw r env (⟨true,.own L k 0 n⟩::rs) nx m2 K)(hx:cq env rs x=⟨true,.int k1 a⟩:=by exact rfl)(hy:cq env rs y=⟨true,.int k2 c⟩:=by exact rfl)(hn:a=(n:Int):=by first|exact rfl|omega)(hc:a<=c/\c<=1073741824:=by constructor<;>omega)(hz:z.cells.length=k:=by exact rfl)(hL:nx+rs.length=L:=by exact tk)(hm:cM m L (.buf k (List.replicate n z))=m2:=by simp only[cM,cd,Nat.reduceEqDiff,aP,aM,Nat.reduceAdd,reduceCtorEq];exact rfl):aB Y draw (⟨.mks k z x y,none⟩::r) env rs nx m K:=
 oT rfl _ (by simp only[aC.dD,hx,hy];exact⟨trivial,trivial,hz,ae,hc.1,hc.2⟩) (by simp only[aC.val,hx,hL,D.nat,hn];rfl) _ (by simp only[aC.cj,hx,hL,D.nat,hn];exact hm) (fun _=>h)
def aQ {n l k o:Nat}{x y:Src}{d v:D}{m2:List (Nat×bp)}(e:D)(h:aB Y draw r env (⟨true,.any⟩::rs) nx m2 K)(hx:cq env rs x=⟨true,.ptr l k 0 o⟩:=by exact rfl)(hy:cq env rs y=⟨true,v⟩:=by exact rfl)(hl:look m l=some (.buf k [d]):=by exact rfl)(hc:v.cells.length=n:=by exact rfl)(he:wM d k n o v=e:=by exact rfl)(ho:o+n<=k:=by omega)(hm:cM m l (.buf k [e])=m2:=by simp only[cM,cd,Nat.reduceEqDiff,aP,aM,Nat.reduceAdd,reduceCtorEq];exact rfl):aB Y draw (⟨.st n x y,none⟩::r) env rs nx m K:=
 oT rfl _ (by simp only[aC.dD,hx,hy,eZ,hl];exact⟨trivial,trivial,hc,⟨trivial,aJ⟩,ho⟩) rfl _ (by simp only[aC.cj,hx,hy,aS,hl,fY,List.set_cons_zero,he];exact hm) (fun _=>h)
def EG {n l k i o:Nat}{x y:Src}{v:D}{es:List D}{m2:List (Nat×bp)}(es2:List D)(h:aB Y draw r env (⟨true,.any⟩::rs) nx m2 K)(hx:cq env rs x=⟨true,.ptr l k i o⟩:=by exact rfl)(hy:cq env rs y=⟨true,v⟩:=by exact rfl)(hl:look m l=some (.buf k es):=by exact rfl)(hi:i<es.length)(hc:v.cells.length=n:=by exact rfl)(he:es.set i (wM (es.getD i .any) k n o v)=es2)(ho:o+n<=k:=by omega)(hm:cM m l (.buf k es2)=m2:=by simp only[cM,cd,Nat.reduceEqDiff,aP,aM,Nat.reduceAdd,reduceCtorEq];exact rfl):aB Y draw (⟨.st n x y,none⟩::r) env rs nx m K:=
 oT rfl _ (by simp only[aC.dD,hx,hy,eZ,hl];exact⟨trivial,trivial,hc,⟨trivial,ae⟩,ho⟩) rfl _ (by simp only[aC.cj,hx,hy,aS,hl,he];exact hm) (fun _=>h)
def sg (m:List (Nat×bp))(k:Nat)(d:D)(ys:List D):Prop:=zk m k d/\nY m d=ys
def sg.sl {k:Nat}{es:List D}:sg m k (.sl k es) es:=⟨rfl,rfl⟩
def sg.au {k:Nat}:sg m k .au []:=⟨trivial,rfl⟩
def sg.own {l k i n:Nat}{es:List D}(hl:look m l=some (.buf k es))(hb:i+n<=es.length):sg m k (.own l k i n) ((es.drop i).take n):=⟨⟨rfl,by simp only[eZ,hl];exact⟨trivial,hb⟩⟩,by simp only[nY,aS,hl]⟩
def sg.all {l k n:Nat}{es:List D}(hl:look m l=some (.buf k es))(hb:n=es.length):sg m k (.own l k 0 n) es:=by
 have:=sg.own (i:=0) (n:=n) hl ae;simpa[hb]using this
def sg.str {s:List UInt8}:sg m 1 (.str s) (s.map fun b=>.int .u8 b.toNat):=⟨rfl,rfl⟩
def zO {k n:Nat}{x y:Src}{d:D}{ys:List D}{L:Nat}{m2:List (Nat×bp)}(h:aB Y draw r env (⟨true,.own L k 0 n⟩::rs) nx m2 K)(hx:cq env rs x=⟨true,.au⟩:=by exact rfl)(hy:cq env rs y=⟨true,d⟩:=by exact rfl)(he:sg m k d ys)(hn:ys.length=n)(hb:n<=1073741824:=by omega)(hL:nx+rs.length=L:=by exact tk)(hm:cM m L (.buf k ys)=m2:=by simp only[cM,cd,Nat.reduceEqDiff,aP,aM,Nat.reduceAdd,reduceCtorEq];exact rfl):aB Y draw (⟨.app k x y,none⟩::r) env rs nx m K:=
 oT rfl _ (by simp only[aC.dD,hx,hy,he.2,hn];exact⟨trivial,trivial,he.1,hb⟩) (by simp only[aC.val,hx,hy,he.2,hn,hL]) _ (by simp only[aC.cj,hx,hy,he.2,hL];exact hm) (fun _=>h)
def Np {k n:Nat}{y:Src}{fy:Bool}{d:D}{ys:List D}{L:Nat}{m2:List (Nat×bp)}(h:aB Y draw r env (⟨f,.own L k 0 n⟩::rs) nx m2 K)(hg:GF rs g f:=by exact cW)(hy:cq env rs y=⟨fy,d⟩:=by exact rfl)(ky:f=true->fy=true:=by exact bR)(he:sg m k d ys)(hn:ys.length=n)(hb:n<=1073741824:=by omega)(hL:nx+rs.length=L:=by exact tk)(hm:cM m L (.buf k ys)=m2:=by simp only[cM,cd,Nat.reduceEqDiff,aP,aM,Nat.reduceAdd,reduceCtorEq];exact rfl):aB Y draw (⟨.appN k y,g⟩::r) env rs nx m K:=
 fS rfl hg _ (fun hf=>by simp only[aC.dD,hy,he.2,hn];exact⟨ky hf,he.1,hb⟩) (fun hf=>by simp only[aC.val,hy,he.2,hn,hL]) _ (by simp only[aC.cj,hy,he.2,hL];exact hm) (fun _=>h)
def EC {k l i a n:Nat}{x y:Src}{d:D}{xs ys:List D}{L:Nat}{m2:List (Nat×bp)}(zs:List D)(h:aB Y draw r env (⟨true,.own L k 0 n⟩::rs) nx m2 K)(hx:cq env rs x=⟨true,.own l k i a⟩:=by exact rfl)(hy:cq env rs y=⟨true,d⟩:=by exact rfl)(hl:look m l=some (.buf k xs):=by exact rfl)(ha:i+a<=xs.length)(he:sg m k d ys)(hz:(xs.drop i).take a++ys=zs)(hn:a+ys.length=n)(hb:n<=1073741824:=by omega)(hL:nx+rs.length=L:=by exact tk)(hm:cM (cd m l) L (.buf k zs)=m2:=by simp only[cM,cd,Nat.reduceEqDiff,aP,aM,Nat.reduceAdd,reduceCtorEq];exact rfl):aB Y draw (⟨.app k x y,none⟩::r) env rs nx m K:=
 oT rfl _ (by simp only[aC.dD,hx,hy,he.2,eZ,hl,hn];exact⟨trivial,trivial,he.1,trivial,⟨trivial,ha⟩,hb⟩) (by simp only[aC.val,hx,hy,he.2,hn,hL]) _ (by simp only[aC.cj,hx,hy,he.2,aS,hl,hz,hL];exact hm) (fun _=>h)
def jg {α:Type}{q:α->D}{xs:List α}{e:α}{k l ly:Nat}{x y:Src}{L:Nat}{m2:List (Nat×bp)}(h:aB Y draw r env (⟨true,.own L k 0 (xs++[e]).length⟩::rs) nx m2 K)(hx:cq env rs x=⟨true,.own l k 0 xs.length⟩:=by exact rfl)(hy:cq env rs y=⟨true,.own ly k 0 1⟩:=by exact rfl)(hl:look m l=some (.buf k (xs.map q)):=by exact rfl)(he:look m ly=some (.buf k [q e]):=by exact rfl)(hb:xs.length+1<=1073741824:=by omega)(hL:nx+rs.length=L:=by exact tk)(hm:cM (cd m l) L (.buf k ((xs++[e]).map q))=m2:=by simp only[cM,cd,Nat.reduceEqDiff,aP,aM,Nat.reduceAdd,reduceCtorEq];exact rfl):aB Y draw (⟨.app k x y,none⟩::r) env rs nx m K:=
 EC (zs:=(xs++[e]).map q) (hx:=hx) (hy:=hy) (hl:=hl) (ha:=aJ) (he:=sg.all (es:=[q e]) he rfl) (hz:=by rw[bN,eM aJ];simp) (hn:=aJ) (hb:=cX) (hL:=hL) (hm:=hm) (h:=h)
def Qa {α:Type}{q:α->D}{xs ys:List α}{k l:Nat}{x y:Src}{d:D}{L:Nat}{m2:List (Nat×bp)}(h:aB Y draw r env (⟨true,.own L k 0 (xs++ys).length⟩::rs) nx m2 K)(hx:cq env rs x=⟨true,.own l k 0 xs.length⟩:=by exact rfl)(hy:cq env rs y=⟨true,d⟩:=by exact rfl)(hl:look m l=some (.buf k (xs.map q)):=by exact rfl)(he:sg m k d (ys.map q))(hb:xs.length+ys.length<=1073741824:=by omega)(hL:nx+rs.length=L:=by exact tk)(hm:cM (cd m l) L (.buf k ((xs++ys).map q))=m2:=by simp only[cM,cd,Nat.reduceEqDiff,aP,aM,Nat.reduceAdd,reduceCtorEq];exact rfl):aB Y draw (⟨.app k x y,none⟩::r) env rs nx m K:=
 EC (zs:=(xs++ys).map q) (hx:=hx) (hy:=hy) (hl:=hl) (ha:=aJ) (he:=he) (hz:=by rw[bN,eM aJ];simp) (hn:=aJ) (hb:=cX) (hL:=hL) (hm:=hm) (h:=h)
def Ko {x:Src}{fx:Bool}{d:D}{ys:List D}(s:List UInt8)(h:aB Y draw r env (⟨f,.str s⟩::rs) nx m K)(hg:GF rs g f:=by exact cW)(hx:cq env rs x=⟨fx,d⟩:=by exact rfl)(kx:f=true->fx=true:=by exact bR)(he:f=true->sg m 1 d ys)(hs:f=true->ys=s.map fun b=>.int .u8 b.toNat)(hd:d.PJ=false:=by exact rfl):aB Y draw (⟨.b2s x,g⟩::r) env rs nx m K:=
 fS rfl hg _ (fun hf=>by
  simp only[aC.dD,hx,(he hf).2,hs hf];refine⟨kx hf,(by cases d<;>first|trivial|(cases hd)),(he hf).1,fun e hm=>?_⟩;obtain⟨b,_,rfl⟩:=eW.1 hm;have:=b.toNat_lt;exact⟨rfl,ae,ae⟩) (fun hf=>by simp only[aC.val,hx,(he hf).2,hs hf];rw[LX]) m rfl (fun _=>h)
def zS {x:Src}{l pos:Nat}{s:List UInt8}{m2:List (Nat×bp)}(c w:Nat)(h:aB Y draw r env (⟨true,.tup [.bool true,.int .i64 pos,.int .i32 c]⟩::rs) nx m2 K)(hx:cq env rs x=⟨true,.it l⟩:=by exact rfl)(hl:look m l=some (.iter s pos):=by exact rfl)(hp:pos<s.length)(hc:sx s pos=(c,w))(hm:cM m l (.iter s (pos+w))=m2:=by simp only[cM,cd,Nat.reduceEqDiff,aP,aM,Nat.reduceAdd,reduceCtorEq];exact rfl):aB Y draw (⟨.xe x,none⟩::r) env rs nx m K:=
 oT rfl _ (by simp only[aC.dD,hx,hl];exact⟨trivial,trivial⟩) (by simp only[aC.val,hx,hl,hc,hp,decide_true,cond_true]) _ (by simp only[aC.cj,hx,hl,hc,hp,decide_true,cond_true];exact hm) (fun _=>h)
def zR {x:Src}{l pos:Nat}{s:List UInt8}(h:aB Y draw r env (⟨true,.tup [.bool false]⟩::rs) nx m K)(hx:cq env rs x=⟨true,.it l⟩:=by exact rfl)(hl:look m l=some (.iter s pos):=by exact rfl)(hp:¬pos<s.length):aB Y draw (⟨.xe x,none⟩::r) env rs nx m K:=
 oT rfl _ (by simp only[aC.dD,hx,hl];exact⟨trivial,trivial⟩) (by simp only[aC.val,hx,hl,hp,decide_false,cond_false]) _ (by simp only[aC.cj,hx,hl,hp,decide_false,cond_false]) (fun _=>h)
def aq {n:Nat}{args:List Src}{sh:List (List Sh)}{aai:List D}{v:D}(h:aB Y draw r env (⟨f,v⟩::rs) nx m K)(hg:GF rs g f:=by exact cW)(hc:Y.pre n aai/\Y.val n aai=v)(ha:f=true->lN m sh (gV (cq env rs) args)=aai:=by exact fun _=>rfl)(ho:f=true->uj (cq env rs) args:=by exact xF)(hp:f=true->jh m sh (gV (cq env rs) args):=by exact xF)(hk:f=true->qx (gV (cq env rs) args) v=true:=by exact fun _=>rfl):aB Y draw (⟨.call n args sh,g⟩::r) env rs nx m K:=
 fS rfl hg _ (fun hf=>by simp only[aC.dD,(dt _ _ _).1,ha hf,hc.2];exact⟨ho hf,(dt _ _ _).2.2 (hp hf),hc.1,hk hf⟩) (fun hf=>by simp only[aC.val,(dt _ _ _).1,ha hf,hc.2]) m rfl (fun _=>h)
def er {n:Nat}{args:List Src}{sh:List (List Sh)}{aai:List D}{v:D}(h:aB Y draw r env (⟨f,v⟩::rs) nx m K)(hg:GF rs g f:=by exact cW)(hc:f=true->Y.pre n aai/\Y.val n aai=v)(ha:f=true->lN m sh (gV (cq env rs) args)=aai:=by exact fun _=>rfl)(ho:f=true->uj (cq env rs) args:=by exact xF)(hp:f=true->jh m sh (gV (cq env rs) args):=by exact xF)(hk:f=true->qx (gV (cq env rs) args) v=true:=by exact fun _=>rfl):aB Y draw (⟨.call n args sh,g⟩::r) env rs nx m K:=
 fS rfl hg _ (fun hf=>by simp only[aC.dD,(dt _ _ _).1,ha hf,(hc hf).2];exact⟨ho hf,(dt _ _ _).2.2 (hp hf),(hc hf).1,hk hf⟩) (fun hf=>by simp only[aC.val,(dt _ _ _).1,ha hf,(hc hf).2]) m rfl (fun _=>h)
def Nq {n:Nat}{x:Src}{fx:Bool}{caps:List D}{args:List Src}{sh:List (List Sh)}{aai:List D}{v:D}(h:aB Y draw r env (⟨f,v⟩::rs) nx m K)(hg:GF rs g f:=by exact cW)(hx:cq env rs x=⟨fx,.fn n caps⟩:=by exact rfl)(kx:f=true->fx=true:=by exact bR)(hb:n<1000000:=by decide)(hc:f=true->Y.pre n aai/\Y.val n aai=v)(ha:f=true->lN m sh (gV (cq env rs) args++caps)=aai:=by exact fun _=>rfl)(ho:f=true->uj (cq env rs) args:=by exact xF)(hp:f=true->jh m sh (gV (cq env rs) args++caps):=by exact xF)(hk:f=true->qx (gV (cq env rs) args++caps) v=true:=by exact fun _=>rfl):aB Y draw (⟨.callv x args sh,g⟩::r) env rs nx m K:=
 fS rfl hg _ (fun hf=>by simp only[aC.dD,hx,(dt _ _ _).1,ha hf,(hc hf).2];exact⟨kx hf,ho hf,hb,(dt _ _ _).2.2 (hp hf),(hc hf).1,hk hf⟩) (fun hf=>by simp only[aC.val,hx,(dt _ _ _).1,ha hf,(hc hf).2]) m rfl (fun _=>h)
def Tk {n:Nat}{caps:List Src}(cs:List D)(h:aB Y draw r env (⟨f,.fn n cs⟩::rs) nx m K)(hg:GF rs g f:=by exact cW)(hc:f=true->gV (cq env rs) caps=cs:=by exact fun _=>rfl)(ho:f=true->uj (cq env rs) caps:=by exact xF):aB Y draw (⟨.mkf n caps,g⟩::r) env rs nx m K:=
 bG rfl hg _ (fun hf=>ho hf) (fun hf=>by simp only[aC.val,hc hf]) (fun _=>h)
def kW {n l k:Nat}{x:Src}{args:List Src}{sh:List (List Sh)}{d v e:D}{aai:List D}{m2:List (Nat×bp)}(h:aB Y draw r env (⟨true,v⟩::rs) nx m2 K)(hx:cq env rs x=⟨true,.ptr l k 0 0⟩:=by exact rfl)(hl:look m l=some (.buf k [d]):=by exact rfl)(hd:d.aX=true:=by exact rfl)(hc:Y.fp n d aai/\Y.fv n d aai=v/\Y.fs n d aai=e)(ha:lN [] sh (gV (cq env rs) args)=aai:=by exact rfl)(ho:uj (cq env rs) args:=by repeat' first|exact trivial|exact rfl|refine And.intro ?_ ?_|decide)(hn:aY (gV (cq env rs) args)=true:=by exact rfl)(hm:cM m l (.buf k [e])=m2:=by simp only[cM,cd,Nat.reduceEqDiff,aP,aM,Nat.reduceAdd,reduceCtorEq];exact rfl):aB Y draw (⟨.callF n x args sh,none⟩::r) env rs nx m K:=
 oT rfl _ (by simp only[aC.dD,hx,eZ,aS,hl,fY,(dt _ _ _).1,ha];exact⟨trivial,ho,hn,trivial,trivial,⟨trivial,aJ⟩,aJ,hd,hc.1⟩) (by simp only[aC.val,hx,aS,hl,fY,(dt _ _ _).1,ha,hc.2.1]) _ (by simp only[aC.cj,hx,aS,hl,fY,(dt _ _ _).1,ha,hc.2.2];exact hm) (fun _=>h)
end
end
end Go.Abs
section
namespace Go.Abs
abbrev ak:=List UInt8
structure gE where
 major:Int
 minor:Int
 patch:Int
 pre:ak
 build:ak
 deriving Inhabited,DecidableEq
def gE.D (v:gE):D:=.agg [.int .i64 v.major,.int .i64 v.minor,.int .i64 v.patch,.str v.pre,.str v.build]
structure sk where
 name:ak
 v:gE
 shelf:ak
 sum:Int
 feats:List ak
 deriving Inhabited,DecidableEq
def sk.D (x:sk):D:=.agg [.str x.name,.int .i64 x.v.major,.int .i64 x.v.minor,.int .i64 x.v.patch,.str x.v.pre,.str x.v.build,.str x.shelf,.int .u64 x.sum,.sl 1 (x.feats.map D.str)]
structure Env where
 e0:ak
 e1:ak
 e2:ak
 deriving Inhabited,DecidableEq
def Env.D (e:Env):D:=.agg [.str e.e0,.str e.e1,.str e.e2]
structure Ah where
 env:Env
 lines:List sk
 deriving Inhabited,DecidableEq
def Ah.D (l:Ah):D:=.agg [.str l.env.e0,.str l.env.e1,.str l.env.e2,.sl 9 (l.lines.map sk.D)]
end Go.Abs
namespace Go.Abs
theorem nv (a b:List UInt8):Pz (.str a) (.str b)=decide (a=b):=nq a b
theorem uy (k k2:IntKind)(a b:Int):Pz (.int k a) (.int k2 b)=decide (a=b):=rfl
def gE.eq (a b:gE):gJ (gE.D a).cells (gE.D b).cells=decide (a=b):=by
 obtain⟨a1,a2,a3,a4,a5⟩:=a;obtain⟨b1,b2,b3,b4,b5⟩:=b
 grind [gE.D,D.cells,gJ,nv,uy]
def Env.eq (a b:Env):gJ (Env.D a).cells (Env.D b).cells=decide (a=b):=by
 obtain⟨a1,a2,a3⟩:=a;obtain⟨b1,b2,b3⟩:=b
 grind [Env.D,D.cells,gJ,nv,uy]
theorem gE.inj {a b:gE}(h:gE.D a=gE.D b):a=b:=by
 obtain⟨a1,a2,a3,a4,a5⟩:=a;obtain⟨b1,b2,b3,b4,b5⟩:=b
 grind [gE.D]
theorem Env.inj {a b:Env}(h:Env.D a=Env.D b):a=b:=by
 obtain⟨a1,a2,a3⟩:=a;obtain⟨b1,b2,b3⟩:=b
 grind [Env.D]
theorem map_inj {α:Type}{q:α->D}(hq:∀a b,q a=q b->a=b):∀{xs ys:List α},xs.map q=ys.map q->xs=ys
 |[],[],_=>rfl
 |[],_::_,h=>by simp at h
 |_::_,[],h=>by simp at h
 |a::r,b::s,h=>by
  simp only[List.map_cons,rl]at h;rw[hq a b h.1,map_inj hq h.2]
theorem str_inj (a b:List UInt8)(h:D.str a=D.str b):a=b:=by simpa using h
theorem sk.inj {a b:sk}(h:sk.D a=sk.D b):a=b:=by
 obtain⟨a1,⟨v1,v2,v3,v4,v5⟩,a2,a3,a4⟩:=a;obtain⟨b1,⟨w1,w2,w3,w4,w5⟩,b2,b3,b4⟩:=b
 grind [sk.D,map_inj,str_inj]
theorem Ah.inj {a b:Ah}(h:Ah.D a=Ah.D b):a=b:=by
 obtain⟨⟨a1,a2,a3⟩,a4⟩:=a;obtain⟨⟨b1,b2,b3⟩,b4⟩:=b
 grind [Ah.D,map_inj,sk.inj]
end Go.Abs
end
section
namespace Go.Abs
def allI (p:Nat->Bool):Nat->Nat->Bool
 |_,0=>true
 |i,k+1=>p i&&allI p (i+1) k
def dz (p:Nat->Bool)(i n:Nat):Bool:=allI p i (n-i)
theorem bc {p:Nat->Bool}{i n:Nat}(h:i<n):dz p i n=(p i&&dz p (i+1) n):=by
 unfold dz;rw[show n-i=(n-(i+1))+1 by omega];rfl
def c8 {p:Nat->Bool}{i n:Nat}(h:n<=i):dz p i n=true:=by
 unfold dz;rw[show n-i=0 by omega];rfl
theorem Aw {p:Nat->Bool}:∀{k i:Nat},allI p i k=true↔∀j,i<=j->j<i+k->p j=true
 |0,i=>by simp[allI];intro j h1 h2;omega
 |k+1,i=>by
  simp only[allI,bt,Aw (k:=k)]
  grind
theorem eY {p:Nat->Bool}{i n:Nat}:dz p i n=true↔∀j,i<=j->j<n->p j=true:=by
 grind [dz,Aw]
end Go.Abs
namespace Go.Abs
def aZ {a a' b b':D}(h1:a=a')(h2:b=b'):D.tup [a,b]=D.tup [a',b']:=by rw[h1,h2]
def fV {a a' b b' c c':D}(h1:a=a')(h2:b=b')(h3:c=c'):D.tup [a,b,c]=D.tup [a',b',c']:=by rw[h1,h2,h3]
end Go.Abs
namespace Go.Abs
end Go.Abs
namespace Go.Abs
def rJ (s:ak)(pos:Nat)(h:pos<s.length):∃c w,sx s pos=(c,w)/\1<=w/\((w=1/\(c:Int)=at8 s pos/\c<128)\/(128<=c/\128<=at8 s pos)):=by
 refine⟨(sx s pos).1,(sx s pos).2,rfl, ?_⟩;have e:sx s pos=Lib.decodeN (s.length-pos) (s.getD pos 0).toNat (s.getD (pos+1) 0).toNat (s.getD (pos+2) 0).toNat (s.getD (pos+3) 0).toNat:=Lib.decode_N ⟨⟨s⟩⟩ pos;rw[e];unfold at8;generalize (s.getD pos 0).toNat=b0;generalize (s.getD (pos+1) 0).toNat=b1;generalize (s.getD (pos+2) 0).toNat=b2;generalize (s.getD (pos+3) 0).toNat=b3;generalize s.length-pos=n;by_cases hb:b0<128
 .unfold Lib.decodeN;rw[aw hb];exact⟨aF _,.inl ⟨rfl,rfl,hb⟩⟩
 .unfold Lib.decodeN
  grind
end Go.Abs
namespace Go.Abs
def uS {α:Type}{q:α->D}{xs:List α}{m:List (Nat×bp)}{l:Nat}(hq:∀x,xV m [.a] (q x)=q x)(hl:look m l=some (.buf 1 (xs.map q))):xV m [.sl 1 [.a]] (.own l 1 0 xs.length)=.sl 1 (xs.map q):=by
 show D.sl 1 _=_;simp only[aS,hl,bN,aI,List.map_map];congr 1;apply List.map_congr_left;intro x _;have:=hq x;simp only[Function.comp];generalize q x=d at this;cases d<;>exact this
def se {α:Type}{q:α->D}{xs:List α}{m:List (Nat×bp)}{l:Nat}(hq:∀x,Lr m [.a] (q x))(hl:look m l=some (.buf 1 (xs.map q))):Lr m [.sl 1 [.a]] (.own l 1 0 xs.length):=by
 grind [Lr,OC,OB,eZ,aS,aI]
end Go.Abs
end
namespace Go.Abs
def iN (c:Int):Bool:=decide (97<=c)&&decide (c<=122)
def bd (c:Int):Bool:=decide (48<=c)&&decide (c<=57)
def yN (c:Int):Bool:=iN c ||bd c ||decide (c=95)
def cJ (s:ak):Bool:=decide (1<=s.length)&&decide (s.length<=12)&&dz (fun i=>yN (at8 s i)) 0 s.length
def nch (s:ak)(i:Nat):Bool:=(iN (at8 s i) ||bd (at8 s i) ||decide (at8 s i=45))&& !(decide (at8 s i=45)&&decide (at8 s (i-1)=45))
def ee (s:ak):Bool:=decide (1<=s.length)&&decide (s.length<=16)&&iN (at8 s 0)&& !decide (at8 s (s.length-1)=45)&&dz (nch s) 1 s.length
def mI (s:ak)(i:Nat):Bool:=iN (at8 s i) ||(bd (at8 s i)&& !decide (i=0)) ||(decide (at8 s i=45)&& !decide (i=0)&& !decide (i=s.length-1)&& !decide (at8 s (i-1)=45))
def MX (s:ak)(h1:1<=s.length)(h2:s.length<=16):ee s=dz (mI s) 0 s.length:=by
 rw[Bool.eq_iff_iff];simp only[ee,cK h1,cK h2,iF,bt,bP,bC,eY];constructor
 .rintro⟨⟨h3,h4⟩,h5⟩ j _ hj;rcases Nat.eq_zero_or_pos j with rfl|hp
  .simp[mI,h3]
  .have:=h5 j hp hj;simp only[nch,bt,dk,bP,dF,a8,bC]at this;simp only[mI,bt,dk,bP,a8,bC];rcases this with⟨(h6|h6)|h6,h7⟩
   .exact Or.inl (Or.inl h6)
   .exact Or.inl (Or.inr ⟨h6,ae⟩)
   .refine Or.inr ⟨⟨⟨h6,ae⟩, ?_⟩, ?_⟩
    .rintro rfl;exact h4 h6
    .rcases h7 with h7|h7
     .exact absurd h6 h7
     .exact h7
 .intro h;have h0:=h 0 ae ae;have hlow:iN (at8 s 0)=true:=by simpa[mI]using h0
  refine⟨⟨hlow, ?_⟩,fun j hj1 hj2=>?_⟩
  .intro he;have hl:=h (s.length-1) ae ae;rcases Nat.eq_or_lt_of_le h1 with e|e
   .rw[<-e]at he;simp only[Nat.sub_self]at he;simp only[iN,bt,a8]at hlow;omega
   .simp only[mI,he,iN,bd]at hl;simp at hl
  .have:=h j ae hj2;simp only[mI,bt,dk,bP,a8,bC]at this;simp only[nch,bt,dk,bP,dF,a8,bC];rcases this with(h6|h6)|h6
   .refine⟨Or.inl (Or.inl h6),Or.inl ?_⟩;simp only[iN,bt,a8]at h6;omega
   .refine⟨Or.inl (Or.inr h6.1),Or.inl ?_⟩;have:=h6.1;simp only[bd,bt,a8]at this;omega
   .exact⟨Or.inr h6.1.1.1,Or.inr h6.2⟩
def ef (s:ak):Nat:=s.foldl (fun n b=>n*10+(b.toNat-48)) 0
def gB (s:ak):Bool:=decide (1<=s.length)&&decide (s.length<=9)&& !(decide (1<s.length)&&decide (at8 s 0=48))&&dz (fun i=>bd (at8 s i)) 0 s.length&&decide (ef s<=9999)
def eK (s:ak):Int:=if gB s=true then(ef s:Int)else 0
def sb (s:ak)(i:Nat)(h:i<s.length):s.take (i+1)=s.take i++[s.getD i 0]:=by
 rw[List.take_succ];simp[h]
def tI (s:ak)(i:Nat)(h:i<s.length):ef (s.take (i+1))=ef (s.take i)*10+((at8 s i).toNat-48):=by
 rw[sb s i h];simp[ef,List.foldl_append,at8]
def Hu (s:ak):ef s+23<=23*10^s.length:=by
 have:∀(s:ak) (n k:Nat),n+23<=23*10^k->s.foldl (fun n b=>n*10+(b.toNat-48)) n+23<=23*10^(k+s.length):=by
  intro s;induction s with
  |nil=>intro n k h;simpa using h
  |cons b r ih=>
   intro n k h;have hb:=b.toNat_lt;have:=ih (n*10+(b.toNat-48)) (k+1) (by rw[Nat.pow_succ];omega);simp only[List.foldl_cons,aH];rw[show k+(r.length+1)=k+1+r.length by omega];exact this
 have:=this s 0 0 aJ;simpa[ef]using this
def rX (s:ak)(i:Nat)(h:i<=9):ef (s.take i)<=23000000000:=by
 have h1:=Hu (s.take i);have h2:(s.take i).length<=9:=cX;have h3:10^(s.take i).length<=10^9:=Nat.pow_le_pow_right ae h2;omega
def Br (s:ak):∀n:Nat,s.foldl (fun n b=>n*10+(b.toNat-48)) n=n*10^s.length+ef s:=by
 unfold ef;induction s with
 |nil=>intro n;simp
 |cons b r ih=>
  intro n;simp only[List.foldl_cons,aH];rw[ih,ih (0*10+(b.toNat-48)),Nat.pow_succ];simp only[Nat.zero_mul,bD,Nat.add_mul];rw[Nat.mul_assoc n 10,Nat.mul_comm 10];omega
def tH (b:UInt8)(r:ak):ef (b::r)=(b.toNat-48)*10^r.length+ef r:=by
 have:=Br r (0*10+(b.toNat-48));simp only[ef,List.foldl_cons]at this⊢;rw[this];simp
def tw {b:UInt8}{r:ak}(h:dz (fun i=>bd (at8 (b::r) i)) 0 (b::r).length=true):bd b.toNat=true/\dz (fun i=>bd (at8 r i)) 0 r.length=true:=by
 rw[eY]at h;refine⟨by simpa[at8]using h 0 ae aJ, ?_⟩;rw[eY];intro j _ hj;simpa[at8]using h (j+1) ae cX
def yr:∀(s:ak),dz (fun i=>bd (at8 s i)) 0 s.length=true->ef s<10^s.length
 |[],_=>by simp[ef]
 |b::r,h=>by
  obtain⟨h1,h2⟩:=tw h;have:=yr r h2;rw[tH,aH,Nat.pow_succ];simp only[bd,bt,a8]at h1;have h3:b.toNat-48<=9:=ae;have:=eu (10^r.length) h3;omega
def Ht {b:UInt8}{r:ak}(h:49<=b.toNat):10^r.length<=ef (b::r):=by
 rw[tH];have:=eu (10^r.length) (show 1<=b.toNat-48 by omega);omega
theorem Dn (s:ak):gB s=(decide (1<=s.length)&&decide (s.length<=4)&& !(decide (1<s.length)&&decide (at8 s 0=48))&&dz (fun i=>bd (at8 s i)) 0 s.length):=by
 unfold gB;cases hd:dz (fun i=>bd (at8 s i)) 0 s.length with
 |false=>simp
 |true=>
  have hlt:=yr s hd;by_cases h4:s.length<=4
  .have:10^s.length<=10^4:=Nat.pow_le_pow_right ae h4;rw[cK h4,cK (by omega:s.length<=9),cK (by omega:ef s<=9999)];simp
  .rw[dJ h4]
   match s,hd,h4 with
   |b::r,hd,h4=>
    by_cases h0:at8 (b::r) 0=48
    .rw[cK h0,cK (by omega:1<(b::r).length)];simp
    .have h1:=(tw hd).1;simp only[bd,bt,a8]at h1;have h2:49<=b.toNat:=by
      simp[at8]at h0;omega
     have h3:=Ht (r:=r) h2;have:10^4<=10^r.length:=Nat.pow_le_pow_right ae (by simp at h4;omega);rw[dJ (by omega:¬ef (b::r)<=9999)];simp
def dg (n:Nat):UInt8:=UInt8.ofNat (48+n)
def zj:Nat->Nat->ak
 |0,n=>[dg n]
 |f+1,n=>if n<10 then [dg n]else zj f (n/10)++[dg (n%10)]
def eh (n:Nat):ak:=zj n n
def D9:∀(f g n:Nat),n<=f->n<=g->zj f n=zj g n
 |0,0,n,_,_=>rfl
 |0,g+1,n,h,_=>by
  obtain rfl:n=0:=ae;simp[zj]
 |f+1,0,n,_,h=>by
  obtain rfl:n=0:=ae;simp[zj]
 |f+1,g+1,n,h1,h2=>by
  simp only[zj];split
  .rfl
  .rw[D9 f g (n/10) ae ae]
theorem pF {n:Nat}(h:n<10):eh n=[dg n]:=by
 unfold eh;cases n<;>simp[zj,h]
theorem pE {n:Nat}(h:9<n):eh n=eh (n/10)++[dg (n%10)]:=by
 unfold eh;obtain⟨k,rfl⟩:∃k,n=k+1:=⟨n-1,ae⟩
 simp only[zj];rw[aj ae,D9 k ((k+1) /10) _ ae ae]
def fC:∀(k n:Nat),n<10^k->0<k->(eh n).length<=k:=by
 intro k;induction k with
 |zero=>intro n _ h;omega
 |succ k ih=>
  intro n h _;by_cases h10:n<10
  .rw[pF h10];simp
  .rw[pE ae];have hk:0<k:=by
    rcases Nat.eq_zero_or_pos k with rfl|h0
    .simp at h;omega
    .exact h0
   have:=ih (n/10) (by rw[Nat.pow_succ]at h;omega) hk;simp;omega
theorem IZ {n:Nat}(h:n<10):((dg n).toNat:Int)=48+n:=by
 have:(48+n)%256=48+n:=Nat.mod_eq_of_lt ae;simp[dg,this]
def bH (b:Int):ak->ak->List ak
 |[],cur=>[cur]
 |c::r,cur=>if(c.toNat:Int)=b then cur::bH b r []else bH b r (cur++[c])
def ai (s:ak)(b:Int):List ak:=bH b s []
def pH (s:ak)(i:Nat)(h:i<s.length):s.drop i=s.getD i 0::s.drop (i+1):=by
 rw[jn h];simp[h]
def yF {s:ak}{b:Int}{i fr:Nat}(h:i<s.length)(he:at8 s i=b):bH b (s.drop i) ((s.take i).drop fr)=((s.take i).drop fr)::bH b (s.drop (i+1)) ((s.take (i+1)).drop (i+1)):=by
 rw[pH s i h];have h2:(s.take (i+1)).drop (i+1)=[]:=aJ;rw[h2];simp only[bH];rw[aw (by simpa[at8]using he)]
def yG {s:ak}{b:Int}{i fr:Nat}(h:i<s.length)(hf:fr<=i)(he:¬at8 s i=b):bH b (s.drop i) ((s.take i).drop fr)=bH b (s.drop (i+1)) ((s.take (i+1)).drop fr):=by
 rw[pH s i h,sb s i h,List.drop_append_of_le_length cX];simp only[bH];rw[aj (by simpa[at8]using he)]
def wJ {s:ak}{b:Int}{i fr:Nat}(h:s.length<=i):bH b (s.drop i) ((s.take i).drop fr)=[s.drop fr]:=by
 rw[jR h,eM h];rfl
def rb (b:Int):∀(s cur:ak),(bH b s cur).length<=s.length+1
 |[],cur=>by simp[bH]
 |c::r,cur=>by
  simp only[bH];split
  .have:=rb b r [];simp;omega
  .have:=rb b r (cur++[c]);simp;omega
theorem dE (s:ak)(b:Int):(ai s b).length<=s.length+1:=rb b s []
theorem fm (b:Int)(s cur:ak):1<=(bH b s cur).length:=by
 induction s generalizing cur with
 |nil=>simp[bH]
 |cons c r ih=>
  simp only[bH];split
  .simp
  .exact ih _
def jU (s:ak)(b:Int)(i:Nat):ak×ak:=match(s.drop i).findIdx? (fun c=>decide ((c.toNat:Int)=b))with
 |some k=>(s.drop (i+k+1),s.take (i+k))
 |none=>([],s)
def gG (s:ak)(b:Int):ak×ak:=jU s b 0
def CE {s:ak}{b:Int}{i:Nat}(h:i<s.length)(he:at8 s i=b):jU s b i=(s.drop (i+1),s.take i):=by
 unfold jU;rw[pH s i h,List.findIdx?_cons];simp only[at8]at he;rw[aw (by simpa using he)];rfl
def CF {s:ak}{b:Int}{i:Nat}(h:i<s.length)(he:¬at8 s i=b):jU s b i=jU s b (i+1):=by
 unfold jU;rw[pH s i h,List.findIdx?_cons];simp only[at8]at he;simp only[he,decide_false,fX,aM];cases(s.drop (i+1)).findIdx? (fun c=>decide ((c.toNat:Int)=b))with
 |none=>rfl
 |some k=>simp only[Option.map_some];rw[show i+(k+1)=i+1+k by omega]
def AB {s:ak}{b:Int}{i:Nat}(h:s.length<=i):jU s b i=([],s):=by
 unfold jU;rw[jR h];rfl
def lx (c:Int):Bool:=iN c ||bd c ||decide (c=45)
def pe (t:ak):Bool:=decide (1<=t.length)&&decide (t.length<=8)&&dz (fun i=>lx (at8 t i)) 0 t.length
def gv (t:ak):Bool:=dz (fun i=>bd (at8 t i)) 0 t.length&&decide (0<t.length)
def gw (p:Bool)(t:ak):Bool:=pe t&& !(p&&gv t&& !gB t)
def mr (s:ak)(p:Bool):Bool:=decide ((ai s 46).length<=4)&&dz (fun i=>gw p (ai s 46)[i]!) 0 (ai s 46).length
def qn (s:ak)(p:Bool):Bool:=decide (s=[]) ||mr s p
def xm (n:Int):Bool:=decide (0<=n)&&decide (n<=9999)
def iP (v:gE):Bool:=xm v.major&&xm v.minor&&xm v.patch&&qn v.pre true&&qn v.build false
def DS (v:gE):ak:=eh v.major.toNat++[46]++eh v.minor.toNat++[46]++eh v.patch.toNat++(if v.pre=[]then []else 45::v.pre)++(if v.build=[]then []else 43::v.build)
def qe (v:gE):ak:=if iP v=true then DS v else []
def gE.sm (v:gE):Prop:=v.pre.length<=1048576/\v.build.length<=1048576
def or64 (a b:Int):Int:=IntKind.u64.wrap ((BitVec.ofInt 64 a |||BitVec.ofInt 64 b).toNat)
def Cf (a b:Int):Int:=IntKind.u64.wrap ((BitVec.ofInt 64 a^^^BitVec.ofInt 64 b).toNat)
def Tu (a:Int)(k:Nat):Int:=IntKind.u64.wrap (a*2^k)
def Ou (a:Int)(k:Nat):Int:=a.fdiv (2^k)
def rot (h:Int)(k:Nat):Int:=or64 (Tu h k) (Ou h (64-k))
def ND (h:Int)(c:Int):Int:=IntKind.u64.wrap (rot (Cf h c) 13*18397679294719823053)
def Tv (s:ak):Int:=s.foldl (fun h c=>ND h c.toNat) 11400714819323198485
def QA (s:ak):Int:=Cf (Tv s) (Ou (Tv s) 29)
def Env.at (e:Env):Nat->ak
 |0=>e.e0
 |1=>e.e1
 |_=>e.e2
def Env.ld (e:Env){i:Nat}(h:i<3):mT (Env.D e) 3 1 (0+i*1) false=.str (e.at i):=by
 match i,h with
 |0,_=>rfl
 |1,_=>rfl
 |2,_=>rfl
def Ah.ld (l:Ah){i:Nat}(h:i<3):mT (Ah.D l) 4 1 (0+i*1) false=.str (l.env.at i):=by
 match i,h with
 |0,_=>rfl
 |1,_=>rfl
 |2,_=>rfl
def Env.cut (e:Env){i:Nat}(h:i<3):Abs.cut [.str e.e0,.str e.e1,.str e.e2] (i*1) 1 false=.str (e.at i):=by
 match i,h with
 |0,_=>rfl
 |1,_=>rfl
 |2,_=>rfl
def sk.sm (x:sk):Prop:=x.v.sm/\x.name.length<=1048576/\x.shelf.length<=1048576/\x.feats.length<=1048576/\∀t∈x.feats,t.length<=1048576
def Ah.sm (l:Ah):Prop:=l.lines.length<=1048576/\(∀x∈l.lines,x.sm)/\∀i,(l.env.at i).length<=1048576
theorem bL {α:Type} [Inhabited α]{l:List α}{i:Nat}(h:i<l.length):l[i]! ∈l:=by
 simp[h]
structure Kp where
 name:ak
 v:gE
 deriving Inhabited,DecidableEq
def Kp.D (x:Kp):D:=.agg [.str x.name,.int .i64 x.v.major,.int .i64 x.v.minor,.int .i64 x.v.patch,.str x.v.pre,.str x.v.build]
def KM {α:Type} [Inhabited α] [DecidableEq α]{a b:List α}(h:a.length=b.length):decide (a=b)=dz (fun i=>decide (a[i]! =b[i]!)) 0 a.length:=by
 rw[Bool.eq_iff_iff,a8,eY];constructor
 .rintro rfl j _ _;simp
 .intro hj;apply List.ext_getElem h
  grind
def sk.same {a b:sk}(e1:a.name=b.name)(e2:a.v=b.v)(e3:a.shelf=b.shelf)(e4:a.sum=b.sum)(e5:a.feats.length=b.feats.length):decide (a=b)=dz (fun i=>decide (a.feats[i]! =b.feats[i]!)) 0 a.feats.length:=by
 rw[<-KM e5];obtain⟨a1,a2,a3,a4,a5⟩:=a;obtain⟨b1,b2,b3,b4,b5⟩:=b
 grind
def aR (b:ak):List ak->ak
 |[]=>[]
 |[t]=>t
 |t::u::r=>t++b++aR b (u::r)
theorem fQ (b t:ak)(r:List ak)(h:r≠[]):aR b (t::r)=t++b++aR b r:=by
 cases r with
 |nil=>exact absurd rfl h
 |cons u r=>rfl
def oy {α:Type}(q:α->ak)(B:Nat):∀l:List α,(∀x∈l,(q x).length<=B)->((l.map q).flatten).length<=l.length*B
 |[],_=>aJ
 |a::r,h=>by
  have h1:=h a (.head _);have h2:=oy q B r fun x hx=>h x (.tail _ hx)
  simp only[List.map_cons,List.flatten_cons,bA,aH,Nat.succ_mul];omega
def B4 (v:gE)(h:v.sm):(qe v).length<=2097200:=by
 unfold qe;split
 .rename_i hv;simp only[iP,bt]at hv;obtain⟨⟨⟨⟨hv1,hv2⟩,hv3⟩,_⟩,_⟩:=hv;simp only[xm,bt,a8]at hv1 hv2 hv3;have hl1:=fC 4 v.major.toNat ae ae;have hl2:=fC 4 v.minor.toNat ae ae;have hl3:=fC 4 v.patch.toNat ae ae;obtain⟨h1,h2⟩:=h
  grind [DS]
 .simp
def Env.sm (e:Env):Prop:=∀i,(e.at i).length<=1048576
end Go.Abs
section
namespace Go.Abs
def P8 (v n:Int):Int:=if n<1 then 0 else if v.tmod n<0 then v.tmod n+n else v.tmod n
def DR (v n:Int)(h:1<=n):-n<v.tmod n/\v.tmod n<n:=⟨Int.lt_tmod_of_pos v ae,Int.tmod_lt_of_pos v ae⟩
def atI (l:List Int)(i:Int):Int:=if i<0\/(l.length:Int)<=i then i.tmod 3 else l[i.toNat]!
structure Gs where
 l:List Int
 i:Int
 deriving Inhabited
def Gs.D (g:Gs):D:=.agg [.sl 1 (g.l.map (D.int .i64)),.int .i64 g.i]
def Gs.val (g:Gs)(n:Int):Int:=P8 (atI g.l g.i) n
def Gs.xe (g:Gs):Gs:=⟨g.l,g.i+1⟩
def fO (s:ak)(b:UInt8):ak×ak×Bool:=match s.findIdx? (fun c=>c==b)with
 |some k=>(s.take k,s.drop (k+1),true)
 |none=>(s,[],false)
def eH (s p:ak):ak×Bool:=if p.isPrefixOf s=true then(s.drop p.length,true)else(s,false)
def IX (s:ak)(b:UInt8):(fO s b).1.length<=s.length/\((fO s b).2.2=true->(fO s b).1.length+1<=s.length):=by
 unfold fO;split
 .rename_i k h;have:=List.findIdx?_eq_some_iff_findIdx_eq.1 h;simp only[fW];omega
 .simp
structure NZ where
 s:ak
 at':Nat
 n:Nat
def NZ.D (r:NZ):D:=.agg [.str r.s,.int .i64 (r.at':Nat),.int .i64 (r.n:Nat)]
def NZ.ln (r:NZ):ak×ak×Bool:=fO (r.s.drop r.at') 10
def NZ.xe (r:NZ):NZ:=⟨r.s,if r.ln.2.2=true then r.at'+(r.ln.1.length+1)else r.at',r.n+1⟩
def kB:gE:=⟨0,0,0,[],[]⟩
def ph (s:ak):Option gE:=
 let a:=gG s 43
 let b:=gG a.2 45
 let l:=ai b.2 46
 if l.length=3/\gB l[0]! =true/\gB l[1]! =true/\gB l[2]! =true then
  let v:gE:=⟨eK l[0]!,eK l[1]!,eK l[2]!,b.1,a.1⟩
  if iP v=true/\qe v=s then some v else none
 else none
def MW (l:List ak)(i:Nat):D:=.agg [.int .i64 (if 0<i then eK l[0]! else 0),.int .i64 (if 1<i then eK l[1]! else 0),.int .i64 (if 2<i then eK l[2]! else 0)]
def JG (l:List ak)(i:Nat)(h:i<3):wM (MW l i) 3 1 (0+i*1) (.int .i64 (eK l[i]!))=MW l (i+1):=by
 match i,h with
 |0,_=>rfl
 |1,_=>rfl
 |2,_=>rfl
def me (s:ak)(b:Int):(gG s b).1.length<=s.length/\(gG s b).2.length<=s.length:=by
 grind [gG,jU]
def rh (b:Int):∀(s cur:ak),∀t∈bH b s cur,t.length<=cur.length+s.length
 |[],cur,t,h=>by simp only[bH,cT]at h;subst h;simp
 |c::r,cur,t,h=>by
  simp only[bH]at h;split at h
  .rcases cD.1 h with rfl|h
   .simp
   .have:=rh b r [] t h;simp at this⊢;omega
  .have:=rh b r (cur++[c]) t h;simp at this⊢;omega
def dm (s:ak)(b:Int){t:ak}(h:t∈ai s b):t.length<=s.length:=by
 have:=rh b s [] t h;simpa using this
theorem ra (s:ak)(b:Int){i:Nat}(h:i<(ai s b).length):((ai s b)[i]!).length<=s.length:=dm s b (bL h)
end Go.Abs
namespace Go.Abs
def xB (s:ak):Int:=if(ph s).isSome=true then 0 else 5
end Go.Abs
namespace Go.Abs
end Go.Abs
namespace Go.Abs
def NL {s:ak}(h:s.length<=1048576):((ph s).getD kB).sm:=by
 have h0:kB.sm:=⟨by simp[kB],by simp[kB]⟩;cases hq:ph s with
 |none=>exact h0
 |some v=>
  simp only[Option.getD_some];simp only[ph]at hq;split at hq
  .split at hq
   .obtain rfl:=br hq;have h1:=me s 43;have h2:=me (gG s 43).2 45;exact⟨by simp only;omega,by simp only;omega⟩
   .cases hq
  .cases hq
end Go.Abs
namespace Go.Abs
def CP (s p:ak):(eH s p).1.length<=s.length:=by
 unfold eH;split<;>simp
end Go.Abs
namespace Go.Abs
variable {e:Env} {f:Nat} {r:NZ} {ls:List sk}
end Go.Abs
namespace Go.Abs
end Go.Abs
end
namespace Go.Abs
section
section
variable {Y:Ctx} {draw:Bool} {r:List GI} {env rs:List bE} {nx:Nat} {m:List (Nat×bp)} {K:List bE->St->Prop} {g:Option (Nat×Bool)} {f:Bool}
def yv {i:aC}{j:Nat}{w:Bool}(d:D)(h:aB Y draw r env (⟨false,d⟩::rs) nx m K)(hC:i.pure=true:=by exact rfl)(hg:GF rs (some (j,w)) false:=by exact⟨_,_,rfl,rfl⟩):aB Y draw (⟨i,some (j,w)⟩::r) env rs nx m K:=
 bG hC hg d (fun h=>by cases h) (fun h=>by cases h) (fun _=>h)
def dp {n:Nat}{args:List Src}{aai:List D}{v:D}{nx':Nat}{m':List (Nat×bp)}(h:aB Y draw r env (⟨true,v⟩::rs) nx' m' K)
  (hc:∀K':D->St->Prop,K' v ⟨nx'+rs.length,m'⟩->Y.tr n aai ⟨nx+rs.length,m⟩ K') (hn:nx<=nx') (ha:gV (cq env rs) args=aai:=by exact rfl)
  (ho:uj (cq env rs) args:=by repeat' first|exact trivial|exact rfl|refine And.intro ?_ ?_):aB Y draw (⟨.callM n args,none⟩::r) env rs nx m K:=by
 unfold aB;show True/\(true=true->uj (Src.ev env rs.reverse) args/\Y.tr n (gV (Src.ev env rs.reverse) args) {nx:=nx+rs.reverse.length,m:=m} _)/\(true=false->_)
 grind [mf,aB]
def Qq {l k i0 n:Nat}{x y z:Src}{fx fy fz:Bool}{kh km:IntKind}{h' m':Int}(j:Nat)(h:aB Y draw r env (⟨f,.own l k i0 j⟩::rs) nx m K)(hg:GF rs g f:=by exact cW)(hx:cq env rs x=⟨fx,.own l k i0 n⟩:=by exact rfl)(hy:cq env rs y=⟨fy,.int kh h'⟩:=by exact rfl)(hz:cq env rs z=⟨fz,.int km m'⟩:=by exact rfl)
  (kx:f=true->fx=true:=by exact bR) (ky:f=true->fy=true:=by exact bR) (kz:f=true->fz=true:=by exact bR)
  (hj:f=true->h'=(j:Int)) (hb:f=true->(j:Int)<=m'/\m'<=(n:Int)):aB Y draw (⟨.slX k x y z,g⟩::r) env rs nx m K:=
 bG rfl hg _ (fun hf=>by have h1:=hj hf;have h2:=hb hf;simp only[aC.dD,hx,hy,hz];exact⟨kx hf,ky hf,kz hf,ae,ae,trivial,h2.2⟩) (fun hf=>by simp only[aC.val,hx,hy];rw[hj hf,Int.toNat_natCast]) (fun _=>h)
def mY {n:Nat}{args:List Src}{aai:List D}{ι:Type}(P:ι->Prop)(V:ι->D)(nx':Nat)(M:ι->List (Nat×bp))(h:∀i,P i->aB Y draw r env (⟨true,V i⟩::rs) nx' (M i) K)
  (hc:∀K':D->St->Prop,(∀i,P i->K' (V i) ⟨nx'+rs.length,M i⟩)->Y.tr n aai ⟨nx+rs.length,m⟩ K') (hn:nx<=nx') (ha:gV (cq env rs) args=aai:=by exact rfl)
  (ho:uj (cq env rs) args:=by repeat' first|exact trivial|exact rfl|refine And.intro ?_ ?_):aB Y draw (⟨.callM n args,none⟩::r) env rs nx m K:=by
 unfold aB;show True/\(true=true->uj (Src.ev env rs.reverse) args/\Y.tr n (gV (Src.ev env rs.reverse) args) {nx:=nx+rs.reverse.length,m:=m} _)/\(true=false->_)
 grind [mf,aB]
def sX {n:Nat}{x:Src}{caps:List D}{args:List Src}{aai:List D}{ι:Type}(P:ι->Prop)(V:ι->D)(nx':Nat)(M:ι->List (Nat×bp))(h:∀i,P i->aB Y draw r env (⟨true,V i⟩::rs) nx' (M i) K)
  (hc:∀K':D->St->Prop,(∀i,P i->K' (V i) ⟨nx'+rs.length,M i⟩)->Y.tr (xh n) aai ⟨nx+rs.length,m⟩ K') (hn:nx<=nx') (hn2:n<2000000:=by decide) (hg:GF rs g true:=by exact cW) (hx:cq env rs x=⟨true,.fn n caps⟩:=by exact rfl) (ha:vl n (gV (cq env rs) args) caps=aai:=by exact rfl)
  (ho:uj (cq env rs) args:=by repeat' first|exact trivial|exact rfl|refine And.intro ?_ ?_):aB Y draw (⟨.callvM x args,g⟩::r) env rs nx m K:=by
 unfold aB;show ub rs.reverse g/\(flag rs.reverse g=true->(Src.ev env rs.reverse x).ok=true/\uj (Src.ev env rs.reverse) args/\match(Src.ev env rs.reverse x).d with
   | .fn n caps=>n<2000000/\Y.tr (xh n) (vl n (gV (Src.ev env rs.reverse) args) caps) {nx:=nx+rs.reverse.length,m:=m} _
   |_=>False)/\(flag rs.reverse g=false->_)
 rw[mf,List.length_reverse];simp only[hx,ha];have hf:ub rs.reverse g/\flag rs.reverse g=true:=by
  cases g with
  |none=>exact⟨trivial,rfl⟩
  |some jw=>obtain⟨j,w⟩:=jw;exact⟨hg.flag.2,hg.flag.1⟩
 refine⟨hf.1,fun _=>⟨trivial,ho,hn2,hc _ fun i hi=>⟨by show nx+rs.length<=nx'+rs.length;omega, ?_⟩⟩,fun h=>by rw[hf.2]at h;cases h⟩;have:=h i hi
 grind [aB]
def ll {n:Nat}{x:Src}{caps:List D}{args:List Src}{aai:List D}{ι:Type}(P:ι->Prop)(V:ι->D)(nx':Nat)(M:ι->List (Nat×bp))(h:∀i,P i->aB Y draw r env (⟨true,V i⟩::rs) nx' (M i) K)
  (hc:∀K':D->St->Prop,(∀i,P i->K' (V i) ⟨nx'+rs.length,M i⟩)->Y.tr (xh n) aai ⟨nx+rs.length,m⟩ K') (hn:nx<=nx') (hn2:n<2000000:=by decide) (hx:cq env rs x=⟨true,.fn n caps⟩:=by exact rfl) (ha:vl n (gV (cq env rs) args) caps=aai:=by exact rfl)
  (ho:uj (cq env rs) args:=by repeat' first|exact trivial|exact rfl|refine And.intro ?_ ?_):aB Y draw (⟨.callvM x args,none⟩::r) env rs nx m K:=sX P V nx' M h hc hn hn2 rfl hx ha ho
def Bx {j:Nat}{w:Bool}{x:Src}{args:List Src}(h:aB Y draw r env (⟨false,.any⟩::rs) nx m K)(hg:GF rs (some (j,w)) false:=by exact⟨_,_,rfl,rfl⟩):aB Y draw (⟨.callvM x args,some (j,w)⟩::r) env rs nx m K:=by
 unfold aB;show ub rs.reverse (some (j,w))/\(flag rs.reverse (some (j,w))=true->_)/\(flag rs.reverse (some (j,w))=false->_);obtain⟨hg1,hg2⟩:=hg.flag
 grind [aB]
def Ku {x:Src}{fx:Bool}{α:Type} [Inhabited α]{n k i o:Nat}{ag:Bool}{q:α->D}{xs:List α}(v:D)(h:aB Y draw r env (⟨f,v⟩::rs) nx m K)(hg:GF rs g f:=by exact cW)(hx:cq env rs x=⟨fx,.ref k (xs.map q) i o⟩:=by exact rfl)(kx:f=true->fx=true:=by exact bR)(hi:f=true->i<xs.length:=by exact sf)(hv:f=true->mT (q xs[i]!) k n o ag=v:=by exact fun _=>rfl)(ho:o+n<=k:=by omega):aB Y draw (⟨.ldU n ag x,g⟩::r) env rs nx m K:=
 fS rfl hg _ (fun hf=>by simp only[aC.dD,hx,Bf,bz];exact⟨kx hf,hi hf,ho⟩) (fun hf=>by simp only[aC.val,hx,yh];rw[getD_map (hi hf)];exact hv hf) m rfl (fun ha=>h)
def Kt {x:Src}{fx:Bool}{n l k o:Nat}{ag:Bool}{d:D}(v:D)(h:aB Y draw r env (⟨f,v⟩::rs) nx m K)(hg:GF rs g f:=by exact cW)(hx:cq env rs x=⟨fx,.ptr l k 0 o⟩:=by exact rfl)(kx:f=true->fx=true:=by exact bR)(hl:f=true->look m l=some (.buf k [d]):=by exact fun _=>rfl)(hv:f=true->mT d k n o ag=v:=by exact fun _=>rfl)(ho:o+n<=k:=by omega)(hd:f=true->d.aX=false:=by exact fun _=>rfl):aB Y draw (⟨.ldU n ag x,g⟩::r) env rs nx m K:=
 fS rfl hg _ (fun hf=>by simp only[aC.dD,hx,Bf,eZ,hl hf];exact⟨kx hf,⟨⟨trivial,aJ⟩,ho⟩,by simp only[aS,hl hf,aY,hd hf];rfl⟩) (fun hf=>by simp only[aC.val,hx,yh,aS,hl hf,fY];exact hv hf) m rfl (fun ha=>h)
end
end
end Go.Abs
section
namespace Go.Abs
def PV:List ak->D
 |[]=>.au
 |a::r=>.sl 1 ((a::r).map D.str)
def yq:∀l,(PV l).aX=true
 |[]=>rfl
 |a::r=>rfl
def sk.N (x:sk):Go.Abs.D:=.agg [.str x.name,.int .i64 x.v.major,.int .i64 x.v.minor,.int .i64 x.v.patch,.str x.v.pre,.str x.v.build,.str x.shelf,.int .u64 x.sum,PV x.feats]
def sk.nn (x:sk):x.N.aX=true:=by
 have:=yq x.feats;simp only[sk.N,D.aX,aY,this,kE]
end Go.Abs
namespace Go.Abs
def sk.F (name:ak)(v:gE)(shelf:ak)(sum:Int)(fs:Go.Abs.D):Go.Abs.D:=.agg [.str name,.int .i64 v.major,.int .i64 v.minor,.int .i64 v.patch,.str v.pre,.str v.build,.str shelf,.int .u64 sum,fs]
mutual
theorem PD (l k:Nat)(es:List D):∀d:D,d.aX=true->hZ l k es d=d
 | .agg a,h=>by simp only[hZ,qH l k es a (by simpa[D.aX]using h)]
 | .tup a,h=>by simp only[hZ,qH l k es a (by simpa[D.aX]using h)]
 | .fn n a,h=>by simp only[hZ,qH l k es a (by simpa[D.aX]using h)]
 | .own ..,h=>by simp[D.aX]at h
 | .ptr ..,h=>by simp[D.aX]at h
 | .it ..,h=>by simp[D.aX]at h
 | .any,_| .bool _,_| .int ..,_| .str _,_| .au,_| .sl ..,_| .ref ..,_| .nilp,_| .nilf,_=>rfl
theorem qH (l k:Nat)(es:List D):∀ds:List D,aY ds=true->jo l k es ds=ds
 |[],_=>rfl
 |d::r,h=>by
  simp only[aY,bt]at h;simp only[jo,PD l k es d h.1,qH l k es r h.2]
end
end Go.Abs
namespace Go.Abs
end Go.Abs
namespace Go.Abs
end Go.Abs
namespace Go.Abs
end Go.Abs
namespace Go.Abs
end Go.Abs
namespace Go.Abs
end Go.Abs
end
section
namespace Go.Abs
end Go.Abs
namespace Go.Abs
def Kp.eq (a b:Kp):gJ (Kp.D a).cells (Kp.D b).cells=decide (a=b):=by
 obtain⟨n1,⟨a1,a2,a3,a4,a5⟩⟩:=a;obtain⟨n2,⟨b1,b2,b3,b4,b5⟩⟩:=b
 grind [Kp.D,D.cells,gJ,nv,uy]
structure sk.ok (n:Nat)(x:sk):Prop where
 pre:x.v.pre.length<=3
 build:x.v.build.length<=2
 name:x.name.length<=16
 shelf:x.shelf.length<=16
 nf:x.feats.length<=n
 ft:∀t∈x.feats,t.length<=16
 sum:0<=x.sum/\x.sum<18446744073709551616
structure Ah.ok (n:Nat)(l:Ah):Prop where
 len:l.lines.length<=4
 lines:∀x∈l.lines,x.ok n
 env:∀i,(l.env.at i).length<=16
def Ah.ok.sm {n:Nat}{l:Ah}(h:l.ok n)(hn:n<=1000):l.sm:=by
 refine⟨by have:=h.len;omega,fun x hx=>?_,fun i=>by have:=h.env i;omega⟩;have k:=h.lines x hx;have k1:=k.pre;have k2:=k.build;have k3:=k.name;have k4:=k.shelf;have k5:=k.nf;exact⟨⟨ae,ae⟩,ae,ae,ae,fun t ht=>by have:=k.ft t ht;omega⟩
def sk.ok.mono {n m:Nat}{x:sk}(h:x.ok n)(hm:n<=m):x.ok m:=⟨h.pre,h.build,h.name,h.shelf,cC h.nf hm,h.ft,h.sum⟩
end Go.Abs
end
namespace Go.Abs
section
def lk {α:Type}:List (Nat×α)->Nat->α->α
 |[],_,d=>d
 |(a,b)::r,n,d=>bif Nat.beq a n then b else lk r n d
structure Row where
 key:Nat
 pre:List D->Prop
 val:List D->D
structure SJ where
 pre:D->List D->Prop
 val:D->List D->D
 new:D->List D->D
def Row.no:Row:=⟨0,fun _=>False,fun _=>.any⟩
def SJ.no:SJ:=⟨fun _ _=>False,fun _ _=>.any,fun _ _=>.any⟩
section
variable [cP] {P:Program} {ν:List (Nat×Nat)} {cj:List Nat} {Y:Ctx}
end
end
section
variable [cP]
section
variable {P:Program} {ν:List (Nat×Nat)} {cj:List Nat} {Y:Ctx}
def RD.re {x x':X}{σ:List (Nat×Nat)}(hw:x'.w=x.w)(hI:x'.I=x.I)(hβ:∀l l',lu 0 σ l=some l'->x'.β l'=x.β l){v:Value}{d d':D}(hv:RD ν x v d)(hd:Ix 0 σ d d'):RD ν x' v d':=by
 rcases hd with⟨rfl,hn⟩|hd|hd
 .exact hv.aX hn (fun _ h=>by rw[hI];exact h) (fun _ _=>by rw[hw])
 .grind [RD.rn]
 grind [RD.nl]
def mC.re {x x':X}{σ:List (Nat×Nat)}(hw:x'.w=x.w)(hI:x'.I=x.I)(hβ:∀l l',lu 0 σ l=some l'->x'.β l'=x.β l){b base tot:Nat}{b0 blk:bp}(o2:mC ν x b base tot b0)(q3:pZ 0 σ b0 blk):mC ν x' b base tot blk:=by
 cases b0 with
 |iter s p=>
  cases blk with
  |iter s' p'=>simp only[pZ]at q3;obtain⟨rfl,rfl⟩:=q3;simp only[mC,hw]at o2⊢;exact o2
  |_=>simp[pZ]at q3
 |row s=>
  cases blk with
  |row s'=>simp only[pZ]at q3;subst q3;simp only[mC,hw]at o2⊢;exact o2
  |_=>simp[pZ]at q3
 |bld o n u=>
  cases blk with
  |bld o' n' u'=>
   simp only[pZ]at q3;obtain⟨q3,rfl,rfl⟩:=q3;obtain⟨p1,v,p2,p3⟩:=o2;refine⟨p1,v,by rw[hw];exact p2, ?_⟩;cases o with
   |none=>simp only at q3;subst q3;exact p3
   |some l0=>
    obtain⟨l1,q4,rfl⟩:=q3;obtain⟨g,t,p4,p5,p6⟩:=p3;exact⟨g,t,p4,p5,by rw[hβ l0 l1 q4];exact p6⟩
  |_=>simp[pZ]at q3
 |buf k es=>
  cases blk with
  |iter s' p'=>simp[pZ]at q3
  |row s'=>simp[pZ]at q3
  |bld o' n' u'=>simp[pZ]at q3
  |buf k' es'=>
   simp only[pZ]at q3;obtain⟨rfl,q3⟩:=q3;obtain⟨p1,p2,cc,T,fr,p3,p4,p5,p6⟩:=o2;rw[<-hw]at p3;rcases q3 with⟨rfl,hn⟩|q3|q3
   .exact⟨p1,p2,cc,T,fr,p3,p4,p5,fun i hi=>⟨(p6 i hi).1,fun j hj=>⟨((p6 i hi).2 j hj).1,RD.re hw hI hβ ((p6 i hi).2 j hj).2 (.inl ⟨rfl,jM (cB hn i) j⟩)⟩⟩⟩
   .obtain⟨r1,r2⟩:=il q3;refine⟨p1,ae,cc,T,fr,p3,p4,p5,fun i hi=>?_⟩;have hi':i<es.length:=ae;obtain⟨s1,s2⟩:=yy (r2 i hi');exact⟨s1.trans (p6 i hi').1,fun j hj=>⟨((p6 i hi').2 j hj).1,RD.re hw hI hβ ((p6 i hi').2 j hj).2 (.inr (.inl (s2 j (by rw[(p6 i hi').1];exact hj))))⟩⟩
   .obtain⟨r1,r2⟩:=n9 q3;refine⟨p1,ae,cc,T,fr,p3,p4,p5,fun i hi=>?_⟩;have hi':i<es.length:=ae;obtain⟨s1,s2⟩:=xJ (r2 i hi');exact⟨s1.trans (p6 i hi').1,fun j hj=>⟨((p6 i hi').2 j hj).1,RD.re hw hI hβ ((p6 i hi').2 j hj).2 (.inr (.inr (s2 j (by rw[(p6 i hi').1];exact hj))))⟩⟩
def EL {lo c:Nat}{σ:List (Nat×Nat)}{l l':Nat}(h0:gN 0 c σ=true)(h:lu 0 σ l=some l'):l'<c/\(l,l')∈σ:=by
 obtain⟨h1,h2⟩:=r9 h0 h
 grind
def rW {c:Nat}:∀{σ:List (Nat×Nat)}{a b:Nat},gN 0 c σ=true->(a,b)∈σ->lu 0 σ a=some b
 |[],a,b,_,h=>by cases h
 |(a0,b0)::r,a,b,h0,h=>by
  unfold lu;simp only[gN,bt,List.all_eq_true,bP]at h0;obtain⟨_,_,p4,p5⟩:=h0;rcases cD.1 h with h|h
  .simp only[dn]at h;obtain⟨rfl,rfl⟩:=h;simp
  .have:=(p4 _ h).1;simp only at this;have hne:Nat.beq a0 a=false:=by
    cases hb:Nat.beq a0 a with
    |false=>rfl
    |true=>obtain rfl:=Nat.eq_of_beq_eq_true hb;simp at this
   rw[hne];exact rW p5 h
structure Fr (σi σo:List (Nat×Nat))(q q1:Nat)(m0 m1:List (Nat×bp))(st st':St):Prop where
 oki:gN 0 q σi=true
 oko:gN 0 st'.nx σo=true
 nx:st.nx<=st'.nx
 lt:∀l i,(l,i)∈σi->look st.m l≠none
 io:∀i l,(i,l)∈σo->(l,i)∈σi\/st.nx<=l
 m0:∀i b,look m0 i=some b->∃l b',(l,i)∈σi/\look st.m l=some b'/\pZ 0 σi b' b
 m1:∀l b,look st'.m l=some b->(∃i b1,(i,l)∈σo/\look m1 i=some b1/\pZ 0 σo b1 b)\/(kT σo l=none/\(∀i,(l,i)∉σi)/\look st.m l=some b)
def Me {fid:Nat}{fn:Func}{af:aN}{K:D->St->Prop}(hΓ:Ok P ν cj Y)(hmix:P.follows .mixedOrders=true)(hf:P.funcs[fid]? =some fn)(hc:compile P ν cj fn=some af)
  {x:X} {args:Array Value} {ds cs:List D} {st:St} {σi:List (Nat×Nat)} {q:Nat} {m0:List (Nat×bp)} (hl:args.size=ds.length) (hargs:∀i,i<ds.length->RD ν x (args.getD i undef) (ds.getD i .any))
  (hs:eR ν x (look st.m)) (hfr:eP st x) (hlen:cs.length=ds.length) (hds:∀i,i<ds.length->Ix 0 σi (ds.getD i .any) (cs.getD i .any)) (hnp:cs.length=af.np)
  (oki:gN 0 q σi=true) (hlt:∀l i,(l,i)∈σi->look st.m l≠none) (hm0:∀i b,look m0 i=some b->∃l b',(l,i)∈σi/\look st.m l=some b'/\pZ 0 σi b' b)
  (hw:ca (Y.at q) af.body (fun e env st1=>e.home/\n4 st1.m env af.res/\∃(σo:List (Nat×Nat)) (q1:Nat) (m1:List (Nat×bp)) (st':St) (vd':D),Fr σi σo q q1 m0 m1 st st'/\Ix 0 σo (jQ af env st1) vd'/\K vd' st'/\∀i,look st1.m i=look m1 i) (gh af cs) ⟨q,m0⟩):
  Calls P fid args x.w fun
   | .returned v,w'=>∃x' d st',K d st'/\x'.w=w'/\Step x x'/\RD ν x' v d/\eR ν x' (look st'.m)/\eP st' x'
   |_,_=>False:=by
 obtain⟨body,c1,c2,c3,c4,c5,c6⟩:=gX hc
 let x0:X:=⟨x.w,x.I,fun i=>(kT σi i).bind x.β⟩
 have hx0:∀l i,(l,i)∈σi->x0.β i=x.β l:=fun l i h=>by simp only[x0,uG oki h,Option.bind_some]
 have hβ0:∀l i,lu 0 σi l=some i->x0.β i=x.β l:=fun l i h=>hx0 l i (EL (lo:=0) oki h).2
 have hx0':∀i p,x0.β i=some p->∃l,(l,i)∈σi/\x.β l=some p/\i<q:=by
  intro i p h;obtain⟨l,h1,h2⟩:=Option.bind_eq_some_iff.1 (show(kT σi i).bind x.β=some p from h);exact⟨l,j5 h1,h2,pw oki (j5 h1)⟩
 have hs0:eR ν x0 (look m0):=by
  refine⟨fun i blk b base tot e1 e2=>?_,fun i j b base tot base' tot' e1 e2 e3 e4=>?_,hs.imm,fun i b base tot e=>?_,cP.le x _ (fun _ h=>h) (fun _ _=>rfl) hs.gd⟩
  .obtain⟨l,b',h1,h2,h3⟩:=hm0 i blk e1;rw[hx0 l i h1]at e2;obtain⟨o1,o2⟩:=hs.own l b' b base tot h2 e2;exact⟨o1,mC.re (x:=x) (x':=x0) rfl rfl hβ0 o2 h3⟩
  .obtain⟨l,h1,h2,_⟩:=hx0' i _ e3;obtain⟨l',h1',h2',_⟩:=hx0' j _ e4;have:=hs.inj l l' b base tot base' tot' (hlt _ _ h1) (hlt _ _ h1') h2 h2';subst this;have:=rW oki h1;rw[rW oki h1']at this;exact(br this).symm
  .obtain⟨l,_,h2,_⟩:=hx0' i _ e;exact hs.dS l b base tot h2
 have hf0:eP ⟨q,m0⟩ x0:=by
  refine⟨fun i hi=>?_,fun i hi=>?_⟩
  .cases h:x0.β i with
   |none=>rfl
   |some p=>obtain⟨_,_,_,h4⟩:=hx0' i p h;simp only at hi;omega
  .cases h:look m0 i with
   |none=>exact absurd h hi
   |some b=>obtain⟨l,b',h1,_⟩:=hm0 i b h;exact pw oki h1
 have hi:=td (P:=P) (ν:=ν) (cj:=cj) (x:=x0) (ds:=cs) (st:=⟨q,m0⟩) c4 c5 c6 (args:=args) ae hnp (fun i hi=>RD.re (x:=x) (x':=x0) rfl rfl hβ0 (hargs i ae) (hds i ae)) hs0 hf0;have hcs:=qA (C:={P,ν,cj,slots:=slotsOf fn,ntmps:=fn.ntmps,vm:=H3 P fn}) (hΓ.at q) (mq fn).1 hmix x0 (fun l h=>hf0.β l h) body af.body c2 _ _ _ _ x0 hw hi (.refl _);refine calls_of_wp hf c1 (wp_mono hcs fun e a w' hp=>?_);obtain⟨e',x',env',st1,he,hxw,hst,hi',hh,hro,σo,q1,m1,st',vd',hfm,hvd,hK,hlk⟩:=hp;subst hxw;obtain⟨v,r1,r2,r3⟩:=oW hΓ.small hi' c3 hro
 let x2:X:=⟨x'.w,x'.I,fun l=>match kT σo l with|some i=>x'.β i|none=>x.β l⟩
 have hx2:∀i l,(i,l)∈σo->x2.β l=x'.β i:=fun i l h=>by simp only[x2,uG hfm.oko h]
 have hx2n:∀l,kT σo l=none->x2.β l=x.β l:=fun l h=>by simp only[x2,h]
 have hβ2:∀i l,lu 0 σo i=some l->x2.β l=x'.β i:=fun i l h=>hx2 i l (EL (lo:=0) hfm.oko h).2
 have hx0s:∀l i p,(l,i)∈σi->x.β l=some p->x'.β i=some p:=fun l i p h e=>hst.β _ _ (by rw[hx0 l i h];exact e)

 have hnew:∀i p,x'.β i=some p->(∃l,(l,i)∈σi/\x.β l=some p)\/x.w.heap.size<=p.1\/∃l p',(∃j,(l,j)∈σi)/\x.β l=some p'/\p'.1=p.1:=by
  intro i p e;rcases hst.newβ i p e with h|h|⟨j,p',h1,h2⟩
  .obtain⟨l,h3,h4,_⟩:=hx0' i p h;exact .inl ⟨l,h3,h4⟩
  .exact .inr (.inl h)
  .obtain⟨l,h3,h4,_⟩:=hx0' j p' h1;exact .inr (.inr ⟨l,p',⟨j,h3⟩,h4,h2⟩)
 have hstep:Step x x2:=by
  refine⟨hst.os,hst.tape,hst.output,hst.size,hst.I,hst.lE,fun l p hp=>?_,fun b hb hn=>hst.old b hb fun i p h e=>?_,fun b h=>?_,fun l p h=>?_⟩
  .cases h:kT σo l with
   |none=>rw[hx2n l h];exact hp
   |some i=>
    have hm:=j5 h;rw[hx2 i l hm];rcases hfm.io i l hm with h2|h2
    .exact hx0s l i p h2 hp
    .rw[hfr.β l h2]at hp;cases hp
  .obtain⟨l,_,h2,_⟩:=hx0' i p h;exact hn l p h2 e
  .rcases hst.newI b h with h|h|⟨i,p,h1,h2⟩
   .exact .inl h
   .exact .inr (.inl h)
   .obtain⟨l,_,h3,_⟩:=hx0' i p h1;exact .inr (.inr ⟨l,p,h3,h2⟩)
  .cases h1:kT σo l with
   |none=>rw[hx2n l h1]at h;exact .inl h
   |some i=>
    have hm:=j5 h1;rw[hx2 i l hm]at h;rcases hnew i p h with⟨l',h2,h3⟩|h2|⟨l',p',_,h3,h4⟩
    .exact .inr (.inr ⟨l',p,h3,rfl⟩)
    .exact .inr (.inl h2)
    .exact .inr (.inr ⟨l',p',h3,h4⟩)
 have hsim:eR ν x2 (look st'.m):=by
  refine⟨fun l blk b base tot e1 e2=>?_,fun l1 l2 b base tot base' tot' e1 e2 e3 e4=>?_,hi'.lW.imm,fun l b base tot e=>?_,cP.le x' _ (fun _ h=>h) (fun _ _=>rfl) hi'.lW.gd⟩
  .rcases hfm.m1 l blk e1 with⟨i,b1,h1,h2,h3⟩|⟨h1,h2,h3⟩
   .rw[hx2 i l h1]at e2;obtain⟨o1,o2⟩:=hi'.lW.own i b1 b base tot (by rw[hlk];exact h2) e2;exact⟨o1,mC.re (x:=x') (x':=x2) rfl rfl hβ2 o2 h3⟩
   .rw[hx2n l h1]at e2;obtain⟨o1,o2⟩:=hs.own l blk b base tot h3 e2;have hlt:=hs.dS l b base tot e2;have hno:∀i p,x0.β i=some p->p.1≠b:=by
     rintro i ⟨b',base',tot'⟩ h e;simp only at e;subst e;obtain⟨l',h4,h5,_⟩:=hx0' i _ h;have:=hs.inj l' l b' base' tot' base tot (hfm.lt _ _ h4) (by rw[h3];simp) h5 e2;subst this;exact h2 _ h4
    refine⟨fun h=>?_,o2.mono hstep.le (hst.old b hlt hno)⟩;rcases hst.newI b h with h|h|⟨i,p,h4,h5⟩
    .exact o1 h
    .exact absurd hlt (Nat.not_lt.2 h)
    .exact hno i p h4 h5
  .have mix:∀l1 l2 base tot base' tot',(∃i b1,(i,l1)∈σo/\look m1 i=some b1)->kT σo l2=none->(∀i,(l2,i)∉σi)->look st.m l2≠none->x2.β l1=some (b,base,tot)->x2.β l2=some (b,base',tot')->False:=by
    rintro l1 l2 base tot base' tot' ⟨i,b1,h1,h2⟩ h3 h4 h5 e3 e4;rw[hx2 i l1 h1]at e3;rw[hx2n l2 h3]at e4;rcases hnew i _ e3 with⟨l',h6,h7⟩|h6|⟨l',⟨pb,pt,pq⟩,⟨j,h6⟩,h7,h8⟩
    .have:=hs.inj l' l2 b base tot base' tot' (hfm.lt _ _ h6) h5 h7 e4;subst this;exact h4 _ h6
    .have:=hs.dS l2 b base' tot' e4;simp only at h6;omega
    .simp only at h8;subst h8;have:=hs.inj l' l2 pb pt pq base' tot' (hfm.lt _ _ h6) h5 h7 e4;subst this;exact h4 _ h6
   cases f1:look st'.m l1 with
   |none=>exact absurd f1 e1
   |some b1=>
    cases f2:look st'.m l2 with
    |none=>exact absurd f2 e2
    |some b2=>
     rcases hfm.m1 l1 b1 f1 with⟨i,c1,h1,h2,_⟩|⟨h1,h2,h3⟩<;>rcases hfm.m1 l2 b2 f2 with⟨j,c2,k1,k2,_⟩|⟨k1,k2,k3⟩
     .rw[hx2 i l1 h1]at e3;rw[hx2 j l2 k1]at e4;have:=hi'.lW.inj i j b base tot base' tot' (by rw[hlk,h2];simp) (by rw[hlk,k2];simp) e3 e4;subst this;have:=rW hfm.oko h1;rw[rW hfm.oko k1]at this;exact(br this).symm
     .exact(mix l1 l2 base tot base' tot' ⟨i,c1,h1,h2⟩ k1 k2 (by rw[k3];simp) e3 e4).elim
     .exact(mix l2 l1 base' tot' base tot ⟨j,c2,k1,k2⟩ h1 h2 (by rw[h3];simp) e4 e3).elim
     .rw[hx2n l1 h1]at e3;rw[hx2n l2 k1]at e4;exact hs.inj l1 l2 b base tot base' tot' (by rw[h3];simp) (by rw[k3];simp) e3 e4
  .cases h1:kT σo l with
   |none=>rw[hx2n l h1]at e;exact eC (hs.dS l b base tot e) hst.size
   |some i=>
    rw[hx2 i l (j5 h1)]at e;exact hi'.lW.dS i b base tot e
 have hfr2:eP st' x2:=by
  refine⟨fun l hl=>?_,fun l hl=>?_⟩
  .cases h1:kT σo l with
   |none=>rw[hx2n l h1];exact hfr.β l (by have:=hfm.nx;omega)
   |some i=>have:=pw hfm.oko (j5 h1);omega
  .cases f1:look st'.m l with
   |none=>exact absurd f1 hl
   |some b1=>
    rcases hfm.m1 l b1 f1 with⟨i,c1,h1,_⟩|⟨_,_,h3⟩
    .exact pw hfm.oko h1
    .have:=hfr.m l (by rw[h3];simp);have:=hfm.nx;omega
 have hrd:=RD.re (ν:=ν) (x:=x') (x':=x2) rfl rfl hβ2 r2 hvd;rcases Ex.zH hh with h|h<;>rw[h]at he<;>subst he<;>exact⟨hi'.defers,v,r1,x2,vd',st',hK,rfl,hstep,hrd,hsim,hfr2⟩
end
end
section
structure SK where
 tr:List D->St->(D->St->Prop)->Prop
 mu:List D->St->Nat
 mono:∀(ds:List D) (st:St) (K K':D->St->Prop),(∀d st',K d st'->K' d st')->tr ds st K->tr ds st K'
def SK.no:SK:=⟨fun _ _ _=>False,fun _ _=>0,fun _ _ _ _ _ h=>h⟩
def nU (af:aN)(Q:D->List (Nat×bp)->Prop):Ex->List bE->St->Prop:=fun e env st=>e.home/\n4 st.m env af.res/\∃m1,(∀i,look st.m i=look m1 i)/\Q (jQ af env st) m1
def ff {af:aN}{Q:D->List (Nat×bp)->Prop}{vd:D}{m1:List (Nat×bp)}{e:Ex}{env:List bE}{st:St}(h1:e.home)(h2:n4 st.m env af.res)(h3:jQ af env st=vd)(h4:st.m=m1)(h5:Q vd m1):nU af Q e env st:=⟨h1,h2,m1,fun i=>by rw[h4],by rw[h3];exact h5⟩
def One (vd:D)(m1:List (Nat×bp)):D->List (Nat×bp)->Prop:=fun d m=>d=vd/\m=m1
def oneq (vd:D)(m1:List (Nat×bp)):One vd m1 vd m1:=⟨rfl,rfl⟩
section
variable [cP] {P:Program} {ν:List (Nat×Nat)} {cj:List Nat} {Y:Ctx}
def Iw (P:Program)(ν:List (Nat×Nat))(Γ':Ctx)(cj:List Nat)(tr:List D->St->(D->St->Prop)->Prop)(fid:Nat):Prop:=
 ∀(ds:List D) (st:St) (K:D->St->Prop),tr ds st K->Ok P ν cj Γ'->∀(x:X) (args:Array Value),args.size=ds.length->(∀i,i<ds.length->RD ν x (args.getD i undef) (ds.getD i .any))->eR ν x (look st.m)->eP st x->
  ie P x (fun v x'=>∃d st',K d st'/\Step x x'/\RD ν x' v d/\eR ν x' (look st'.m)/\eP st' x') ((callFunc fid args).run P x.w)
end
end
section
abbrev RT:=List D->D->Prop
abbrev FT:=D->List D->D->D->Prop
abbrev TT:=List D->St->(D->St->Prop)->Prop
def Ap (T:TT):Prop:=∀ds st K K',(∀d st',K d st'->K' d st')->T ds st K->T ds st K'
def zD (A:RT->Prop):RT:=fun ds d=>∀T,A T->T ds d
def mH (A:FT->Prop):FT:=fun d ds v s=>∀T,A T->T d ds v s
def KV (T:TT):Ctx:=⟨fun _ _=>False,fun _ _=>.any,fun _=>T,fun _ _ _=>False,fun _ _ _=>.any,fun _ _ _=>.any,0⟩
def C9 (C:Ctx->Prop):TT:=fun ds st K=>∀T,Ap T->C (KV T)->T ds st K
def tG (C:Ctx->Prop):Ap (C9 C):=fun _ _ _ _ h h1 T hT hC=>hT _ _ _ _ h (h1 T hT hC)
def noR:RT:=fun _ _=>False
def S8:FT:=fun _ _ _ _=>False
def noT:TT:=fun _ _ _=>False
def vZ:Ap noT:=fun _ _ _ _ _ h=>h.elim
structure nV where
 key:Nat
 rel:RT
 mu:List D->Nat
 relF:FT
 tr:TT
 muE:List D->St->Nat
 mono:Ap tr
def S7:List D->Nat:=fun _=>0
def JE:List D->St->Nat:=fun _ _=>0
def lM:nV:=⟨0,noR,S7,S8,noT,JE,vZ⟩
def rP (k:Nat)(A:RT->Prop)(mu:List D->Nat:=S7):nV:=⟨k,zD A,mu,S8,noT,JE,vZ⟩
def rF (k:Nat)(A:FT->Prop):nV:=⟨k,noR,S7,mH A,noT,JE,vZ⟩
def rG (k:Nat)(C:Ctx->Prop)(mu:List D->St->Nat:=JE):nV:=⟨k,noR,S7,S8,C9 C,mu,tG C⟩
def rFG (k:Nat)(A:FT->Prop)(C:Ctx->Prop):nV:=⟨k,noR,S7,mH A,C9 C,JE,tG C⟩
noncomputable def pick (r:D->Prop):D:=Classical.epsilon r
def jN {r:D->Prop}(h:∃d,r d):r (pick r):=Classical.epsilon_spec h
def R8 (R:RT):Prop:=∀ds d d',R ds d->R ds d'->d=d'
def vc (R:FT):Prop:=∀d ds v s v' s',R d ds v s->R d ds v' s'->v=v'/\s=s'
def Py {A:RT->Prop}(h:A fun ds d=>A fun ds' d'=>ds'=ds->d=d'):R8 (zD A):=fun ds d d' h1 h2=>h2 _ (h1 _ h) rfl
def L7 {A:FT->Prop}(h:A fun d ds v s=>A fun d' ds' v' s'=>d'=d->ds'=ds->v=v'/\s=s'):vc (mH A):=fun d ds v s v' s' h1 h2=>h2 _ (h1 _ h) rfl rfl
noncomputable def xi (t:List (Nat×nV)):Ctx where
 pre n ds:=∃d,(lk t n lM).rel ds d
 val n ds:=pick ((lk t n lM).rel ds)
 tr n:=(lk t n lM).tr
 fp n d ds:=∃v s,(lk t n lM).relF d ds v s
 fv n d ds:=pick fun v=>∃s,(lk t n lM).relF d ds v s
 fs n d ds:=pick fun s=>∃v,(lk t n lM).relF d ds v s
 lo:=0
def Kz (t:List (Nat×nV)):Pk:=⟨fun n=>(lk t n lM).key,fun n=>(lk t n lM).mu,fun n=>(lk t n lM).muE⟩
noncomputable abbrev under (t:List (Nat×nV))(k u:Nat):Ctx:=(xi t).under (Kz t) k u
def wT (t:List (Nat×nV))(k u n:Nat):(((xi t).under (Kz t) k u).at n).cQ:=
 fun f ds st K K' h hh=>⟨hh.1,(lk t f lM).mono ds st K K' h hh.2⟩
section
variable {t:List (Nat×nV)} {n k u:Nat} {ds:List D} {d v s:D} {st:St} {K:D->St->Prop}
def Ta (hD:R8 (lk t n lM).rel)(hk:(lk t n lM).key<k\/(lk t n lM).key=k/\(lk t n lM).mu ds<u)(h:(lk t n lM).rel ds d):(under t k u).pre n ds/\(under t k u).val n ds=d:=
 ⟨⟨hk,d,h⟩,hD _ _ _ (jN ⟨d,h⟩) h⟩
def okf (hD:vc (lk t n lM).relF)(hk:(lk t n lM).key<k)(h:(lk t n lM).relF d ds v s):(under t k u).fp n d ds/\(under t k u).fv n d ds=v/\(under t k u).fs n d ds=s:=by
 refine⟨⟨.inl hk,v,s,h⟩, ?_, ?_⟩
 .obtain⟨s',h'⟩:=jN (r:=fun v=>∃s,(lk t n lM).relF d ds v s) ⟨v,s,h⟩;exact(hD _ _ _ _ _ _ h' h).1
 .obtain⟨v',h'⟩:=jN (r:=fun s=>∃v,(lk t n lM).relF d ds v s) ⟨s,v,h⟩;exact(hD _ _ _ _ _ _ h' h).2
def Am (hk:(lk t n lM).key<k\/(lk t n lM).key=k/\(lk t n lM).muE ds st<u)(h:(lk t n lM).tr ds st K):(under t k u).tr n ds st K:=⟨hk,h⟩
end
section
variable [cP] {P:Program} {ν:List (Nat×Nat)} {cj:List Nat} {Y:Ctx} {t:List (Nat×nV)} {fid n key:Nat}
def D0 (P:Program)(ν:List (Nat×Nat))(cj:List Nat)(Y:Ctx)(fid:Nat)(ds:List D)(d:D):Prop:=Ok P ν cj Y->∀(x:X) (args:Array Value),args.size=ds.length->(∀i,i<ds.length->RD ν x (args.getD i undef) (ds.getD i .any))->aY ds=true->
  (∀b,x.I b->b<x.w.heap.size)->cP.gd x->ie P x (fun v x'=>kF x x'/\RD ν x' v d) ((callFunc fid args).run P x.w)
def xG (P:Program)(ν:List (Nat×Nat))(cj:List Nat)(Y:Ctx)(fid:Nat)(d:D)(ds:List D)(vd new:D):Prop:=Ok P ν cj Y->∀(x:X) (f:Nat->Option bp) (args:Array Value) (l k:Nat),args.size=ds.length+1->
   RD ν x (args.getD 0 undef) (.ptr l k 0 0)->(∀i,i<ds.length->RD ν x (args.getD (i+1) undef) (ds.getD i .any))->eR ν x f->f l=some (.buf k [d])->d.aX=true->aY ds=true->
   ie P x (fun v x'=>Step x x'/\RD ν x' v vd/\eR ν x' (fun l'=>if l'=l then some (.buf k [new])else f l')/\x'.β=x.β) ((callFunc fid args).run P x.w)
def nL (P:Program)(ν:List (Nat×Nat))(cj:List Nat)(Y:Ctx)(fid:Nat)(ds:List D)(st:St)(K:D->St->Prop):Prop:=Ok P ν cj Y->∀(x:X) (args:Array Value),args.size=ds.length->(∀i,i<ds.length->RD ν x (args.getD i undef) (ds.getD i .any))->eR ν x (look st.m)->eP st x->
  ie P x (fun v x'=>∃d st',K d st'/\Step x x'/\RD ν x' v d/\eR ν x' (look st'.m)/\eP st' x') ((callFunc fid args).run P x.w)
structure QK (P:Program)(ν:List (Nat×Nat))(cj:List Nat)(t:List (Nat×nV))(fid n:Nat):Prop where
 p:∀ds d,(lk t n lM).rel ds d->D0 P ν cj (under t (lk t n lM).key ((lk t n lM).mu ds)) fid ds d
 f:vc (lk t n lM).relF/\∀d ds v s,(lk t n lM).relF d ds v s->xG P ν cj (under t (lk t n lM).key ((lk t n lM).mu (d::ds))) fid d ds v s
 g:∀ds st K,(lk t n lM).tr ds st K->nL P ν cj (under t (lk t n lM).key ((lk t n lM).muE ds st)) fid ds st K
def okA (hsm:∀fid n,dH ν fid=some n->n<1000000)(hB:∀t,cj.contains (1000000000+t)=true->t=cP.tB)(h:∀fid n,dH ν fid=some n->QK P ν cj t fid n):Ok P ν cj (xi t):=by
 refine S9 (Kz t) hsm hB (fun fid n hn ds hp hok=>(h fid n hn).p ds _ (jN hp) hok) (fun fid n hn _ d ds hp hok=>?_) (fun fid n hn ds st K htr hok=>(h fid n hn).g ds st K htr hok);obtain⟨v,s,hr⟩:=hp;obtain⟨hD,hf⟩:=(h fid n hn).f;have h2:(xi t).fv n d ds=v/\(xi t).fs n d ds=s:=by
  constructor
  .obtain⟨s',h'⟩:=jN (r:=fun v=>∃s,(lk t n lM).relF d ds v s) ⟨v,s,hr⟩;exact(hD _ _ _ _ _ _ h' hr).1
  .obtain⟨v',h'⟩:=jN (r:=fun s=>∃v,(lk t n lM).relF d ds v s) ⟨s,v,hr⟩;exact(hD _ _ _ _ _ _ h' hr).2
 rw[h2.1,h2.2];exact hf d ds v s hr hok
def Ev {Y:D->List D->Ctx}:vc S8/\∀d ds v s,S8 d ds v s->xG P ν cj (Y d ds) fid d ds v s:=⟨fun _ _ _ _ _ _ h=>h.elim,fun _ _ _ _ h=>h.elim⟩
def cg {A:RT->Prop}{mu:List D->Nat}(hr:lk t n lM=rP key A mu)(h:A fun ds d=>D0 P ν cj (under t key (mu ds)) fid ds d):QK P ν cj t fid n:=by
 refine⟨?_, ?_, ?_⟩<;>rw[hr]
 .exact fun ds d hd=>hd (fun ds d=>D0 P ν cj (under t key (mu ds)) fid ds d) h
 .exact Ev
 .exact fun _ _ _ h=>h.elim
def P7 {A:FT->Prop}(hr:lk t n lM=rF key A)(hD:vc (mH A))(h:A fun d ds v s=>xG P ν cj (under t key 0) fid d ds v s):QK P ν cj t fid n:=by
 refine⟨?_, ?_, ?_⟩<;>rw[hr]
 .exact fun _ _ h=>h.elim
 .exact⟨hD,fun d ds v s hd=>hd _ h⟩
 .exact fun _ _ _ h=>h.elim
def x9 {Y:List D->St->Ctx}:Ap fun ds st K=>nL P ν cj (Y ds st) fid ds st K:=fun ds st K K' h hg hok x args hl ha hs hf=>(hg hok x args hl ha hs hf).mono fun v x' ⟨d,st',h1,h2⟩=>⟨d,st',h _ _ h1,h2⟩
def qQ {C:Ctx->Prop}{mu:List D->St->Nat}(hr:lk t n lM=rG key C mu)(h:C (KV fun ds st K=>nL P ν cj (under t key (mu ds st)) fid ds st K)):QK P ν cj t fid n:=by
 refine⟨?_, ?_, ?_⟩<;>rw[hr]
 .exact fun _ _ h=>h.elim
 .exact Ev
 .exact fun ds st K hd=>hd (fun ds st K=>nL P ν cj (under t key (mu ds st)) fid ds st K) x9 h
def Tb {A:FT->Prop}{C:Ctx->Prop}(hr:lk t n lM=rFG key A C)(hD:vc (mH A))(h:A fun d ds v s=>xG P ν cj (under t key 0) fid d ds v s)(h2:C (KV fun ds st K=>nL P ν cj (under t key 0) fid ds st K)):QK P ν cj t fid n:=by
 refine⟨?_, ?_, ?_⟩<;>rw[hr]
 .exact fun _ _ h=>h.elim
 .exact⟨hD,fun d ds v s hd=>hd _ h⟩
 .exact fun ds st K hd=>hd _ x9 h2
def Ie (P:Program)(ν:List (Nat×Nat))(cj:List Nat)(fid:Nat)(af:aN):Prop:=(P.funcs[fid]?).map (fun f=>(compile P ν cj f,f.name== "runtime.NumGoroutine"))=some (some af,false)
def Ie.split {af:aN}(h:Ie P ν cj fid af):∃fn,P.funcs[fid]? =some fn/\compile P ν cj fn=some af/\(fn.name== "runtime.NumGoroutine")=false:=by
 grind [Ie]
def bw {af:aN}{ds:List D}{d:D}(hmix:P.follows .mixedOrders=true)(hC:Ie P ν cj fid af)(h1:ds.length=af.np)(h2:ca (Y.at 0) af.body (Pl af d) (gh af ds) ⟨0,[]⟩):D0 P ν cj Y fid ds d:=by
 intro hok x args hl hargs hnl himm hgd;obtain⟨fn,hf,hc,hn⟩:=hC.split;obtain⟨body,c1,_⟩:=gX hc;exact .inr ⟨fid,args,gQ hf hn (by rw[c1];rfl) args x.w,Mf hok hmix hf hc hl hargs hnl himm hgd h1 h2⟩
def A4 {af:aN}{d:D}{ds:List D}{vd new:D}(k0:Nat)(hmix:P.follows .mixedOrders=true)(hC:Ie P ν cj fid af)(h1:ds.length+1=af.np)(hk:d.cells.length=k0)
  (h2:ca (Y.at 1) af.body (Gl af k0 vd new) (gh af (.ptr 0 k0 0 0::ds)) ⟨1,[(0,.buf k0 [d])]⟩):xG P ν cj Y fid d ds vd new:=by
 intro hok x f args l k hl h0 hargs hs hfl hd hnl;obtain⟨fn,hf,hc,hn⟩:=hC.split;obtain⟨body,c1,_⟩:=gX hc;have hkk:k=k0:=by
  generalize args.getD 0 undef=v0 at h0;cases h0 with
  |ptr _ _ _ _ b base tot at_ hβ hat=>
   obtain⟨p1,p2,c,T,fr,p3,p4,p5,p6⟩:=(hs.own l _ b base tot hfl hβ).2;have:=(p6 0 aJ).1
   grind
 subst hkk;exact .inr ⟨fid,args,gQ hf hn (by rw[c1];rfl) args x.w,Md hok hmix hf hc hl h0 hargs hs hfl hd hnl h1 h2⟩
def Mn {k l:Nat}{d:D}{ds:List D}{vd new:D}{st:St}{K:D->St->Prop}(h:xG P ν cj Y fid d ds vd new)(hl:look st.m l=some (.buf k [d]))(hd:d.aX=true)(hnl:aY ds=true)(hK:K vd ⟨st.nx,cM st.m l (.buf k [new])⟩):
  nL P ν cj Y fid (.ptr l k 0 0::ds) st K:=by
 intro hok x args hl2 hargs hs hf;refine(h hok x (look st.m) args l k (by simpa using hl2) (hargs 0 aJ) (fun i hi=>hargs (i+1) (by simpa using hi)) hs hl hd hnl).mono ?_;rintro v x' ⟨h1,h2,h3,h4⟩;have e:(fun l'=>if l'=l then some (.buf k [new])else look st.m l')=look (cM st.m l (.buf k [new])):=by
  funext l';rw[bU]
 refine⟨vd,_,hK,h1,h2,e▸h3,fun l' hl'=>by rw[h4];exact hf.β l' hl',fun l' hl'=>?_⟩;rw[bU]at hl';split at hl'
 .rename_i e;subst e;exact hf.m _ (by rw[hl];simp)
 .exact hf.m _ hl'
def x7 {af:aN}{ds:List D}{st:St}{K:D->St->Prop}{σi:List (Nat×Nat)}{q:Nat}{m0:List (Nat×bp)}{cs:List D}{Q:D->List (Nat×bp)->Prop}(hmono:∀q,(Y.at q).cQ)(hmix:P.follows .mixedOrders=true)(hC:Ie P ν cj fid af)
  (h1:cs.length=ds.length) (h2:∀i,i<ds.length->Ix 0 σi (ds.getD i .any) (cs.getD i .any)) (h3:cs.length=af.np)
  (h4:gN 0 q σi=true) (h5:∀l i,(l,i)∈σi->look st.m l≠none) (h6:∀i b,look m0 i=some b->∃l b',(l,i)∈σi/\look st.m l=some b'/\pZ 0 σi b' b)
  (h7:ca (Y.at q) af.body (nU af Q) (gh af cs) ⟨q,m0⟩) (h8:∀d m1,Q d m1->∃(σo:List (Nat×Nat)) (q1:Nat) (st':St) (vd':D),Fr σi σo q q1 m0 m1 st st'/\Ix 0 σo d vd'/\K vd' st'):nL P ν cj Y fid ds st K:=by
 intro hok x args hl hargs hs hfr;obtain⟨fn,hf,hc,hn⟩:=hC.split;obtain⟨body,c1,_⟩:=gX hc;refine .inr ⟨fid,args,gQ hf hn (by rw[c1];rfl) args x.w, ?_⟩;refine Calls.mono (Me (K:=K) hok hmix hf hc hl hargs hs hfr h1 h2 h3 h4 h5 h6 (fG (hmono q) _ _ _ _ _ (fun e env st1 h=>?_) h7)) fun e w' he=>?_
 .obtain⟨g1,g2,m1,g3,g4⟩:=h
  grind
 grind
end
end
end Go.Abs
