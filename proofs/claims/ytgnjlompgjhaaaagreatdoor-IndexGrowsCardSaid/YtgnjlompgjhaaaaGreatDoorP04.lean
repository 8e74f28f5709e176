/- A part of the proofs. -/
import Derived.IntWalk
import Derived.KernelRfl
import Derived.Lib.TrimUEq
import Derived.Test.YtgnjlompgjhaaaaGreatDoorP03
set_option linter.all false
set_option maxRecDepth 4000
namespace Go.Abs
section
section
variable {Y:Ctx} {Q Q':Ex->List bL->St->Prop} {env:List bL} {st:St}
def Ctx.bU (Y:Ctx):Prop:=∀f ds st (K K':D->St->Prop),(∀d st,K d st->K' d st)->Y.tr f ds st K->Y.tr f ds st K'
def jC {draw:Bool}{K K':List bL->St->Prop}(h:∀vs st,K vs st->K' vs st)(htr:Y.bU):∀(l:List GI) (env vs:List bL) (st:St),gB Y draw l env vs st K->gB Y draw l env vs st K'
 |[],env,vs,st,hh=>h _ _ hh
 |⟨i,g⟩::r,env,vs,st,hh=>by
  cases hcm:i.cY with
  |true=>
   cases i<;>simp only[aM.cY]at hcm<;>try(cases hcm;done)
   .exact⟨hh.1,fun hf=>⟨(hh.2.1 hf).1,htr _ _ _ _ _ (fun d st' ⟨h1,h2⟩=>⟨h1,jC h htr r _ _ _ h2⟩) (hh.2.1 hf).2⟩,fun hf=>jC h htr r _ _ _ (hh.2.2 hf)⟩
   .rename_i fv args;simp only[gB]at hh⊢;refine⟨hh.1,hh.2.1,hh.2.2.1, ?_⟩;have h3:=hh.2.2.2;cases hd:(Src.ev env vs fv).d<;>simp only[hd]at h3⊢;exact⟨h3.1,htr _ _ _ _ _ (fun d st' ⟨h1,h2⟩=>⟨h1,jC h htr r _ _ _ h2⟩) h3.2⟩
   .exact⟨hh.1,hh.2.1,hh.2.2.1,fun b hb=>jC h htr r _ _ _ (hh.2.2.2 b hb)⟩
  |false=>
   cases hf:i.tC draw g with
   |true=>
    rw[Ba hcm hf]at hh⊢;exact⟨hh.1,fun e=>⟨(hh.2.1 e).1,jC h htr r _ _ _ (hh.2.1 e).2⟩,fun e=>jC h htr r _ _ _ (hh.2.2 e)⟩
   |false=>
    rw[mR hcm hf]at hh⊢;exact⟨hh.1,hh.2.1,fun ha=>(hh.2.2 ha).imp fun _ h2=>⟨h2.1,jC h htr r _ _ _ h2.2⟩⟩
def Gh.mono {lo:Nat}{p q:List bL->St->Prop}(h:∀env st,p env st->q env st):Gh lo p env st->Gh lo q env st
 |⟨e,s,h1,h2⟩=>⟨e,s,h1,h _ _ h2⟩
def Gh.intro {lo:Nat}{p:List bL->St->Prop}(h:p env st):Gh lo p env st:=⟨env,st,.refl _ _,h⟩
def gy (htr:Y.bU):∀(a:AC) (Q Q':Ex->List bL->St->Prop) (env:List bL) (st:St),(∀e env st,Q e env st->Q' e env st)->bB Y a Q env st->bB Y a Q' env st
 | .reg draw ins cm,Q,Q',env,st,h,hh=>Gh.mono (fun env st h2=>jC (fun vs st=>h _ _ _) htr _ _ _ _ h2) hh
 | .seq a b,Q,Q',env,st,h,hh=>Gh.mono (fun env st h2=>gy htr a _ _ env st (fun e env st h2=>by
   cases e with
   |normal=>exact gy htr b Q Q' env st h h2
   |exit id=>exact h _ _ _ h2
   |ret=>exact h _ _ _ h2) h2) hh
 | .cond c a b,Q,Q',env,st,h,hh=>Gh.mono (fun env st h2=>by
  refine⟨h2.1, ?_⟩;have:=h2.2;cases hd:(c.ev env []).d<;>simp only[hd]at this⊢;exact⟨fun ht=>gy htr a Q Q' env st h (this.1 ht),fun ht=>gy htr b Q Q' env st h (this.2 ht)⟩) hh
 | .block id a,Q,Q',env,st,h,hh=>Gh.mono (fun env st h2=>gy htr a _ _ env st (fun e env st h2=>by
   cases e with
   |normal=>exact h _ _ _ h2
   |exit j=>simp only at h2⊢;split<;>rename_i hj<;>simp only[hj,bo,br]at h2<;>exact h _ _ _ h2
   |ret=>exact h _ _ _ h2) h2) hh
 | .loop a,Q,Q',env,st,h,hh=>Gh.mono (fun env st h2=>by
  obtain⟨I,μ,h1,h2⟩:=h2;refine⟨I,μ,h1,fun env st hi=>gy htr a _ _ env st (fun e env' st' h3=>?_) (h2 env st hi)⟩;cases e with
  |normal=>exact h3
  |exit id=>exact h _ _ _ h3
  |ret=>exact h _ _ _ h3) hh
 | .exit id,Q,Q',env,st,h,hh=>Gh.mono (fun _ _=>h _ _ _) hh
 | .ret,Q,Q',env,st,h,hh=>Gh.mono (fun _ _=>h _ _ _) hh
 | .skip,Q,Q',env,st,h,hh=>Gh.mono (fun _ _=>h _ _ _) hh
def eX {a:AC}{env':List bL}{st':St}(g:aU Y.lo env st env' st')(h:bB Y a Q env' st'):bB Y a Q env st:=by
 cases a<;>(obtain⟨e2,s2,g2,h2⟩:=h;exact⟨e2,s2,.trans _ _ _ _ _ _ g g2,h2⟩)
def BQ (Y:Ctx)(id:Nat)(r:AC)(Q:Ex->List bL->St->Prop):Ex->List bL->St->Prop:=fun e env st=>match e with
 | .normal=>bB Y r Q env st
 | .exit j=>if j=id then bB Y r Q env st else Q (.exit j) env st
 | .ret=>Q .ret env st
def LQ (Y:Ctx)(id:Nat)(r:AC)(next:List bL->St->Prop)(Q:Ex->List bL->St->Prop):Ex->List bL->St->Prop:=fun e env st=>match e with
 | .normal=>next env st
 | .exit j=>if j=id then bB Y r Q env st else Q (.exit j) env st
 | .ret=>Q .ret env st
def BQ.normal {id:Nat}{r:AC}(h:bB Y r Q env st):BQ Y id r Q .normal env st:=h
def BQ.out {id:Nat}{r:AC}(h:bB Y r Q env st):BQ Y id r Q (.exit id) env st:=by simp only[BQ,bo];exact h
def BQ.other {id j:Nat}{r:AC}(hj:(j==id)=false)(h:Q (.exit j) env st):BQ Y id r Q (.exit j) env st:=by simp only[BQ,ai (by simpa using hj)];exact h
def BQ.ret {id:Nat}{r:AC}(h:Q .ret env st):BQ Y id r Q .ret env st:=h
def LQ.normal {id:Nat}{r:AC}{next:List bL->St->Prop}(h:next env st):LQ Y id r next Q .normal env st:=h
def LQ.out {id:Nat}{r:AC}{next:List bL->St->Prop}(h:bB Y r Q env st):LQ Y id r next Q (.exit id) env st:=by simp only[LQ,bo];exact h
def LQ.other {id j:Nat}{r:AC}{next:List bL->St->Prop}(hj:(j==id)=false)(h:Q (.exit j) env st):LQ Y id r next Q (.exit j) env st:=by simp only[LQ,ai (by simpa using hj)];exact h
def LQ.ret {id:Nat}{r:AC}{next:List bL->St->Prop}(h:Q .ret env st):LQ Y id r next Q .ret env st:=h
def Qg {a b c:AC}(h:bB Y (.seq a (.seq b c)) Q env st):bB Y (.seq (.seq a b) c) Q env st:=by
 obtain⟨e1,s1,g1,h1⟩:=h;refine⟨e1,s1,g1,e1,s1,.refl _ _, ?_⟩;have:∀(Q1 Q2:Ex->List bL->St->Prop),Q1=Q2->bB Y a Q1 e1 s1->bB Y a Q2 e1 s1:=fun _ _ e h=>e▸h
 refine this _ _ ?_ h1;funext e env st;cases e with
 |normal=>exact propext ⟨fun⟨e2,s2,g2,h2⟩=>eX g2 h2,fun h=>⟨_,_,.refl _ _,h⟩⟩
 |exit id=>rfl
 |ret=>rfl
def HA {b:AC}(h:bB Y b Q env st):bB Y (.seq .skip b) Q env st:=.intro (.intro h)
def wp_skip (h:Q .normal env st):bB Y .skip Q env st:=.intro h
def MJ {b:AC}(h:Q .ret env st):bB Y (.seq .ret b) Q env st:=.intro (.intro h)
def wp_ret (h:Q .ret env st):bB Y .ret Q env st:=.intro h
def Hz {id:Nat}{b:AC}(h:Q (.exit id) env st):bB Y (.seq (.exit id) b) Q env st:=.intro (.intro h)
def wp_exit {id:Nat}(h:Q (.exit id) env st):bB Y (.exit id) Q env st:=.intro h
def Fl {id:Nat}{a r:AC}(h:bB Y a (BQ Y id r Q) env st)(htr:Y.bU):bB Y (.seq (.block id a) r) Q env st:=by
 refine .intro (.intro (gy htr a _ _ _ _ (fun e env st h=>?_) h));cases e with
 |normal=>exact h
 |exit j=>simp only[BQ]at h⊢;split<;>rename_i hj<;>simp only[hj,bo,br]at h<;>exact h
 |ret=>exact h
def wp_block {id:Nat}{a:AC}(h:bB Y a (BQ Y id .skip Q) env st)(htr:Y.bU)(hQ:∀e env env' st st',aU Y.lo env st env' st'->Q e env' st'->Q e env st):bB Y (.block id a) Q env st:=by
 refine .intro (gy htr a _ _ _ _ (fun e env st h=>?_) h);have hs:∀env st,bB Y .skip Q env st->Q .normal env st:=fun env st ⟨e2,s2,g2,h2⟩=>hQ _ _ _ _ _ g2 h2
 cases e with
 |normal=>exact hs _ _ h
 |exit j=>simp only[BQ]at h⊢;split<;>rename_i hj<;>simp only[hj,bo,br]at h<;>first|exact hs _ _ h|exact h
 |ret=>exact h
def CQ (next:List bL->St->Prop)(Q:Ex->List bL->St->Prop):Ex->List bL->St->Prop:=fun e env st=>match e with
 | .normal=>next env st
 | .exit j=>Q (.exit j) env st
 | .ret=>Q .ret env st
def CQ.normal {next:List bL->St->Prop}(h:next env st):CQ next Q .normal env st:=h
def CQ.other {next:List bL->St->Prop}{j:Nat}(h:Q (.exit j) env st):CQ next Q (.exit j) env st:=h
def CQ.ret {next:List bL->St->Prop}(h:Q .ret env st):CQ next Q .ret env st:=h
def FC (id:Nat)(Q:Ex->List bL->St->Prop):Ex->List bL->St->Prop:=fun e env st=>match e with
 | .normal=>Q .normal env st
 | .exit j=>if j=id then Q .normal env st else Q (.exit j) env st
 | .ret=>Q .ret env st
def FC.normal {id:Nat}(h:Q .normal env st):FC id Q .normal env st:=h
def FC.out {id:Nat}(h:Q .normal env st):FC id Q (.exit id) env st:=by simp only[FC,bo];exact h
def FC.other {id j:Nat}(hj:(j==id)=false)(h:Q (.exit j) env st):FC id Q (.exit j) env st:=by grind [FC]
def FC.ret {id:Nat}(h:Q .ret env st):FC id Q .ret env st:=h
def MI {id:Nat}{a:AC}(h:bB Y a (FC id Q) env st)(htr:Y.bU):bB Y (.block id a) Q env st:=by
 refine .intro (gy htr a _ _ _ _ (fun e env st h=>?_) h);cases e with
 |normal=>exact h
 |exit j=>simp only[FC]at h⊢;split<;>rename_i hj<;>simp only[hj,bo,br]at h<;>exact h
 |ret=>exact h
def qL (htr:Y.bU){a b:AC}{ι:Type}(F:ι->List bL)(G:ι->List (Nat×bG))(c:Nat)(P:ι->Prop)
  (h1:bB Y a (CQ (fun env' st'=>∃j,P j/\aU Y.lo env' st' (F j) ⟨c,G j⟩) Q) env st)
  (h2:∀i,P i->bB Y b Q (F i) ⟨c,G i⟩):bB Y (.seq a b) Q env st:=by
 refine .intro (gy htr a _ _ _ _ (fun e env st h=>?_) h1);cases e with
 |normal=>obtain⟨j,hj,g⟩:=h;exact eX g (h2 j hj)
 |exit j=>exact h
 |ret=>exact h
def bc (htr:Y.bU){a r:AC}{id:Nat}{ι:Type}(F:ι->List bL)(G:ι->List (Nat×bG))(c:Nat)(P:ι->Prop)(μ:ι->Nat)(i0:ι)
  (hP:P i0) (h0:aU Y.lo env st (F i0) ⟨c,G i0⟩)
  (hr:∀i,P i->bB Y a (LQ Y id r (fun env' st'=>∃j,P j/\μ j<μ i/\aU Y.lo env' st' (F j) ⟨c,G j⟩) Q) (F i) ⟨c,G i⟩):bB Y (.seq (.block id (.loop a)) r) Q env st:=by
 let W:List bL->St->Nat->Prop:=fun env st k=>∃i,env=F i/\st=⟨c,G i⟩/\P i/\μ i=k
 have least:∀env st,(∃k,W env st k)->∃k,W env st k/\∀k',W env st k'->k<=k':=by
  intro env st ⟨k,hk⟩;induction k using Nat.strongRecOn with
  |_ k ih=>
   by_cases h:∃k',k'<k/\W env st k'
   .obtain⟨k',h1,h2⟩:=h;exact ih k' h1 h2
   .exact⟨k,hk,fun k' hk'=>by
     rcases gz k' k with h1|h1
     .exact absurd ⟨k',h1,hk'⟩ h
     .exact h1⟩
 open Classical in
 refine .intro (.intro ⟨_,_,h0,fun env st=>∃k,W env st k,fun env st=>if h:∃k,W env st k then Classical.choose (least env st h)else 0,⟨_,i0,rfl,rfl,hP,rfl⟩,fun env st hk=>?_⟩);obtain⟨⟨i,e1,e2,e3,e5⟩,hmin⟩:=Classical.choose_spec (least env st hk);have:=hr i e3;rw[<-e1,<-e2]at this;refine gy htr a _ _ env st ?_ this
 .intro e env' st' h;cases e with
  |normal=>
   obtain⟨j,b3,b5,g⟩:=h;have hW:W (F j) ⟨c,G j⟩ (μ j):=⟨j,rfl,rfl,b3,rfl⟩;refine⟨F j,⟨c,G j⟩,g,⟨_,hW⟩, ?_⟩;show(if h:∃k,W (F j) ⟨c,G j⟩ k then Classical.choose (least _ _ h)else 0)<(if h:∃k,W env st k then Classical.choose (least env st h)else 0);rw[dif_pos ⟨_,hW⟩,dif_pos hk,<-e5];exact Nat.lt_of_le_of_lt ((Classical.choose_spec (least _ _ ⟨_,hW⟩)).2 _ hW) b5
  |exit j=>simp only[LQ]at h⊢;split<;>rename_i hj<;>simp only[hj,bo,br]at h<;>exact h
  |ret=>exact h
def FE (id:Nat)(next:List bL->St->Prop)(Q:Ex->List bL->St->Prop):Ex->List bL->St->Prop:=fun e env st=>match e with
 | .normal=>next env st
 | .exit j=>if j=id then Q .normal env st else Q (.exit j) env st
 | .ret=>Q .ret env st
def FE.normal {id:Nat}{next:List bL->St->Prop}(h:next env st):FE id next Q .normal env st:=h
def FE.out {id:Nat}{next:List bL->St->Prop}(h:Q .normal env st):FE id next Q (.exit id) env st:=by simp only[FE,bo];exact h
def FE.other {id j:Nat}{next:List bL->St->Prop}(hj:(j==id)=false)(h:Q (.exit j) env st):FE id next Q (.exit j) env st:=by grind [FE]
def FE.ret {id:Nat}{next:List bL->St->Prop}(h:Q .ret env st):FE id next Q .ret env st:=h
def nK (htr:Y.bU){a:AC}{id:Nat}{ι:Type}(F:ι->List bL)(G:ι->List (Nat×bG))(c:Nat)(P:ι->Prop)(μ:ι->Nat)(i0:ι)
  (hP:P i0) (h0:aU Y.lo env st (F i0) ⟨c,G i0⟩)
  (hr:∀i,P i->bB Y a (FE id (fun env' st'=>∃j,P j/\μ j<μ i/\aU Y.lo env' st' (F j) ⟨c,G j⟩) Q) (F i) ⟨c,G i⟩):bB Y (.block id (.loop a)) Q env st:=by
 let W:List bL->St->Nat->Prop:=fun env st k=>∃i,env=F i/\st=⟨c,G i⟩/\P i/\μ i=k
 have least:∀env st,(∃k,W env st k)->∃k,W env st k/\∀k',W env st k'->k<=k':=by
  intro env st ⟨k,hk⟩;induction k using Nat.strongRecOn with
  |_ k ih=>
   by_cases h:∃k',k'<k/\W env st k'
   .obtain⟨k',h1,h2⟩:=h;exact ih k' h1 h2
   .exact⟨k,hk,fun k' hk'=>by
     rcases gz k' k with h1|h1
     .exact absurd ⟨k',h1,hk'⟩ h
     .exact h1⟩
 open Classical in
 refine .intro ⟨_,_,h0,fun env st=>∃k,W env st k,fun env st=>if h:∃k,W env st k then Classical.choose (least env st h)else 0,⟨_,i0,rfl,rfl,hP,rfl⟩,fun env st hk=>?_⟩;obtain⟨⟨i,e1,e2,e3,e5⟩,hmin⟩:=Classical.choose_spec (least env st hk);have:=hr i e3;rw[<-e1,<-e2]at this;refine gy htr a _ _ env st ?_ this
 .intro e env' st' h;cases e with
  |normal=>
   obtain⟨j,b3,b5,g⟩:=h;have hW:W (F j) ⟨c,G j⟩ (μ j):=⟨j,rfl,rfl,b3,rfl⟩;refine⟨F j,⟨c,G j⟩,g,⟨_,hW⟩, ?_⟩;show(if h:∃k,W (F j) ⟨c,G j⟩ k then Classical.choose (least _ _ h)else 0)<(if h:∃k,W env st k then Classical.choose (least env st h)else 0);rw[dif_pos ⟨_,hW⟩,dif_pos hk,<-e5];exact Nat.lt_of_le_of_lt ((Classical.choose_spec (least _ _ ⟨_,hW⟩)).2 _ hW) b5
  |exit j=>simp only[FE]at h⊢;split<;>rename_i hj<;>simp only[hj,bo,br]at h<;>exact h
  |ret=>exact h
def nth:List bL->Nat->bL
 |[],_=>.un
 |a::_,0=>a
 |_::r,n+1=>nth r n
def yT:∀(l:List bL) (n:Nat),l.getD n .un=nth l n
 |[],n=>by simp[nth]
 |a::_,0=>by simp[nth]
 |_::r,n+1=>by simpa[nth]using yT r n
def cx (env rs:List bL):Src->bL
 | .s n=>nth env n
 | .l p=>bif Nat.blt p rs.length then nth rs (rs.length-1-p)else .un
 | .c d=>⟨true,d⟩
theorem kY (env rs:List bL):Src.ev env rs.reverse=cx env rs:=by
 funext s;cases s with
 |s n=>exact yT env n
 |l p=>
  simp only[Src.ev,cx];cases h:Nat.blt p rs.length with
  |true=>
   have:p<rs.length:=by simp[Nat.blt]at h;omega
   rw[cond_true,<-yT]
   grind
  |false=>
   have:¬p<rs.length:=by intro e;have:Nat.blt p rs.length=true:=by {simp[Nat.blt];omega};rw[this]at h;cases h
   grind
 |c d=>rfl
def aK (Y:Ctx)(draw:Bool)(l:List GI)(env rs:List bL)(nx:Nat)(m:List (Nat×bG))(K:List bL->St->Prop):Prop:=gB Y draw l env rs.reverse ⟨nx,m⟩ K
def Ny (env rs:List bL):List (Nat×Nat)->List bL
 |[]=>env
 |(s,p)::r=>Ny (env.set s (cx [] rs (.l p))) rs r
theorem F4 (rs:List bL):∀(cm:List (Nat×Nat)) (env:List bL),ie env rs.reverse cm=Ny env rs cm
 |[],env=>rfl
 |(s,p)::r,env=>by
  simp only[ie,Ny];rw[F4 rs r,<-congrFun (kY [] rs) (.l p)];rfl
def ak {draw:Bool}{ins:List GI}{cm:List (Nat×Nat)}{b:AC}{nx:Nat}{m:List (Nat×bG)}
  (h:aK Y draw ins env [] nx m (fun vs st'=>bB Y b Q (ie env vs cm) st')):bB Y (.seq (.reg draw ins cm) b) Q env ⟨nx,m⟩:=.intro (.intro h)
def VM {draw:Bool}{ins:List GI}{cm:List (Nat×Nat)}{nx:Nat}{m:List (Nat×bG)}
  (h:aK Y draw ins env [] nx m (fun vs st'=>Q .normal (ie env vs cm) st')):bB Y (.reg draw ins cm) Q env ⟨nx,m⟩:=.intro h
def RZ {draw:Bool}{cm:List (Nat×Nat)}{b:AC}{nx nx':Nat}{m:List (Nat×bG)}{rs fM env':List bL}(h:bB Y b Q env' ⟨nx',m⟩)
  (he:Ny env rs cm=env':=by exact rfl) (hn:nx+rs.length=nx':=by exact vz):aK Y draw [] fM rs nx m (fun vs st'=>bB Y b Q (ie env vs cm) st'):=by
 grind [aK,gB,F4]
def R0 {draw:Bool}{cm:List (Nat×Nat)}{nx nx':Nat}{m:List (Nat×bG)}{rs fM env':List bL}(h:Q .normal env' ⟨nx',m⟩)
  (he:Ny env rs cm=env':=by exact rfl) (hn:nx+rs.length=nx':=by exact vz):aK Y draw [] fM rs nx m (fun vs st'=>Q .normal (ie env vs cm) st'):=by
 grind [aK,gB,F4]
def aw {c:Src}{a b r:AC}{t:Bool}(h1:t=true->bB Y (.seq a r) Q env st)(h2:t=false->bB Y (.seq b r) Q env st)(hc:cx env [] c=⟨true,.bool t⟩:=by exact rfl):bB Y (.seq (.cond c a b) r) Q env st:=by
 have hc':c.ev env []=⟨true,.bool t⟩:=by rw[<-hc,<-kY];rfl
 refine .intro (.intro ?_);simp only[hc'];refine⟨trivial,fun ht=>?_,fun ht=>?_⟩
 .obtain⟨e,s,g,h⟩:=h1 ht;exact eX g h
 .obtain⟨e,s,g,h⟩:=h2 ht;exact eX g h
def wp_cond {c:Src}{a b:AC}{t:Bool}(h1:t=true->bB Y a Q env st)(h2:t=false->bB Y b Q env st)(hc:cx env [] c=⟨true,.bool t⟩:=by exact rfl):bB Y (.cond c a b) Q env st:=by
 have hc':c.ev env []=⟨true,.bool t⟩:=by rw[<-hc,<-kY];rfl
 refine .intro ?_
 grind
def aU.to {lo c nx nx':Nat}{env env':List bL}{m m':List (Nat×bG)}(σ:List (Nat×Nat))(hc:nx'=c)(h:ix lo c σ=true)(he:dn lo σ env env')(hm:bh lo c σ m m'):aU lo env ⟨nx,m⟩ env' ⟨nx',m'⟩:=by
 subst hc;exact .ren σ nx' env env' nx m m' h he hm
theorem bX {α β:Type}(q:α->β)(xs:List α):(xs.map q).take xs.length=xs.map q:=dM aQ
def bH {α:Type}{q:α->D}(h:∀x,(q x).bF=true):∀xs:List α,bx (xs.map q)=true
 |[]=>rfl
 |a::r=>by simp only[List.map_cons,bx,h a,bH h r,qO]
def aU.fz {lo:Nat}{env env' env2:List bL}{nx k:Nat}{m m':List (Nat×bG)}{es:List D}{st2:St}(l:Nat)(hl:look m l=some (.buf k es))(hn:bx es=true)(he:sX l k es env=env')(hm:uy l k es (dy m l)=m')(h:aU lo env' ⟨nx,m'⟩ env2 st2):aU lo env ⟨nx,m⟩ env2 st2:=by
 have:=aU.MN (lo:=lo) l env ⟨nx,m⟩;simp only[Abs.MN,hl,hn,cond_true,he,hm]at this;exact .trans _ _ _ _ _ _ this h
def fV {a:AC}{nx k:Nat}{m m':List (Nat×bG)}{es:List D}{env env':List bL}(l:Nat)(h:bB Y a Q env' ⟨nx,m'⟩)(hl:look m l=some (.buf k es):=by exact rfl)(hn:bx es=true:=by first|exact rfl|exact bH (fun _=>rfl) _)
  (he:sX l k es env=env':=by simp only[sX,mJ,oe,uy,yu,dy,Nat.reduceEqDiff,bo,br,fR,dS,dT,fP,fQ,cd,cb,aS,de,bX,reduceCtorEq,az,aC,Nat.reduceAdd,Nat.reduceLeDiff];exact rfl)
  (hm:uy l k es (dy m l)=m':=by simp only[sX,mJ,oe,uy,yu,dy,Nat.reduceEqDiff,bo,br,fR,dS,dT,fP,fQ,cd,cb,aS,de,bX,reduceCtorEq,az,aC,Nat.reduceAdd,Nat.reduceLeDiff];exact rfl):bB Y a Q env ⟨nx,m⟩:=
 eX (aU.fz l hl hn he hm (.refl _ _)) h
def SI.rf:∀e:List bL,SI e e
 |[]=>trivial
 |_::r=>⟨⟨rfl,.refl _⟩,SI.rf r⟩
def HG.nil:HG [] []:=⟨rfl,fun _=>.refl _⟩
def HG.cons {x y:D}{a b:List D}(h:xZ x y)(h2:HG a b):HG (x::a) (y::b):=⟨by simp[h2.1],fun i=>by cases i with
 |zero=>exact h
 |succ i=>simpa using h2.2 i⟩
def HG.rf (a:List D):HG a a:=⟨rfl,fun _=>.refl _⟩
def HG.map {α:Type}{q p:α->D}:∀{xs:List α},(∀x∈xs,xZ (q x) (p x))->HG (xs.map q) (xs.map p)
 |[],_=>.nil
 |x::r,h=>.cons (h x (.head _)) (HG.map fun y hy=>h y (.tail _ hy))
def xZ.ag {a b:List D}(h:HG a b):xZ (.agg a) (.agg b):=.agg _ _ h.1 h.2
def xZ.ss {k:Nat}{a b:List D}(h:HG a b):xZ (.sl k a) (.sl k b):=.sl _ _ _ h.1 h.2
def Kz.nil {m:List (Nat×bG)}:Kz m []:=trivial
def Kz.id {m r:List (Nat×bG)}{l:Nat}{b:bG}(h:look m l=some b)(h2:Kz m r):Kz m ((l,b)::r):=⟨⟨b,h,by cases b<;>first|exact⟨rfl,.rf _⟩|exact rfl⟩,h2⟩
def Kz.bf {m r:List (Nat×bG)}{l k:Nat}{es es':List D}(h:look m l=some (.buf k es))(hw:HG es es')(h2:Kz m r):Kz m ((l,.buf k es')::r):=⟨⟨_,h,rfl,hw⟩,h2⟩
def Jd {a:AC}{nx:Nat}{m:List (Nat×bG)}{env:List bL}(m':List (Nat×bG))(hm:Kz m m')(h:bB Y a Q env ⟨nx,m'⟩):bB Y a Q env ⟨nx,m⟩:=eX (.nz _ _ _ _ _ (SI.rf _) hm) h
def dn.nil {lo:Nat}{σ:List (Nat×Nat)}:dn lo σ [] []:=trivial
def dn.un {lo:Nat}{σ:List (Nat×Nat)}{a:bL}{r s:List bL}(h:dn lo σ r s):dn lo σ (a::r) (.un::s):=⟨.inr rfl,h⟩
def dn.eq {lo:Nat}{σ:List (Nat×Nat)}{ok:Bool}{d d':D}{r s:List bL}(hd:qA lo σ d=some d')(h:dn lo σ r s):dn lo σ (⟨ok,d⟩::r) (⟨ok,d'⟩::s):=⟨.inl ⟨rfl,.inr (.inl hd)⟩,h⟩
theorem dn.nl {lo:Nat}{σ:List (Nat×Nat)}{ok:Bool}{d d':D}{r s:List bL}(hd:d'=d)(hn:d.bF=true)(h:dn lo σ r s):dn lo σ (⟨ok,d⟩::r) (⟨ok,d'⟩::s):=⟨.inl ⟨rfl,.inl ⟨hd,hn⟩⟩,h⟩
def dn.ni {lo:Nat}{σ:List (Nat×Nat)}{ok:Bool}{d d':D}{r s:List bL}(hd:ub d d')(h:dn lo σ r s):dn lo σ (⟨ok,d⟩::r) (⟨ok,d'⟩::s):=⟨.inl ⟨rfl,.inr (.inr hd)⟩,h⟩
section
variable {lo c:Nat} {σ:List (Nat×Nat)} {m r:List (Nat×bG)}
def bh.nil:bh lo c σ m []:=trivial
theorem bh.nl {k l':Nat}{es es':List D}(l:Nat)(hl:mC lo σ l=some l')(hm:look m l=some (.buf k es))(he:es'=es)(hn:bx es=true)(h:bh lo c σ m r):bh lo c σ m ((l',.buf k es')::r):=
 ⟨.inl ⟨l,_,hl,hm,rfl,.inl ⟨he,hn⟩⟩,h⟩
def bh.eq {k l':Nat}{es es':List D}(l:Nat)(hl:mC lo σ l=some l')(hm:look m l=some (.buf k es))(he:nu lo σ es=some es')(h:bh lo c σ m r):bh lo c σ m ((l',.buf k es')::r):=
 ⟨.inl ⟨l,_,hl,hm,rfl,.inr (.inl he)⟩,h⟩
def bh.ni {k l':Nat}{es es':List D}(l:Nat)(hl:mC lo σ l=some l')(hm:look m l=some (.buf k es))(he:FQ es es')(h:bh lo c σ m r):bh lo c σ m ((l',.buf k es')::r):=
 ⟨.inl ⟨l,_,hl,hm,rfl,.inr (.inr he)⟩,h⟩
def bh.gE {k l':Nat}{es':List D}(hl:mC lo σ l'=some l')(hm:look m l'=some (.buf k es'))(hn:bx es'=true)(h:bh lo c σ m r):bh lo c σ m ((l',.buf k es')::r):=.nl l' hl hm rfl hn h
def bh.C9 {k l':Nat}{es' es:List D}(hl:mC lo σ l'=some l')(hm:look m l'=some (.buf k es))(he:nu lo σ es=some es')(h:bh lo c σ m r):bh lo c σ m ((l',.buf k es')::r):=.eq l' hl hm he h
def bh.mt {k l':Nat}{es':List D}(h1:Nat.ble lo l'=true)(h2:Nat.blt l' c=true)(h3:σ.all (fun p=>!Nat.beq p.2 l')=true)(he:es'=[])(h:bh lo c σ m r):bh lo c σ m ((l',.buf k es')::r):=
 ⟨.inr ⟨h1,h2,h3,k,by rw[he]⟩,h⟩
def bh.it {l' p p':Nat}{s s':List UInt8}(l:Nat)(hl:mC lo σ l=some l')(hm:look m l=some (.iter s p))(hs:s'=s)(hp:p'=p)(h:bh lo c σ m r):bh lo c σ m ((l',.iter s' p')::r):=
 ⟨.inl ⟨l,_,hl,hm,hs,hp⟩,h⟩
def bh.idi {l' p p':Nat}{s s':List UInt8}(hl:mC lo σ l'=some l')(hm:look m l'=some (.iter s p))(hs:s'=s)(hp:p'=p)(h:bh lo c σ m r):bh lo c σ m ((l',.iter s' p')::r):=.it l' hl hm hs hp h
def bh.rw {l':Nat}{s s':List UInt8}(l:Nat)(hl:mC lo σ l=some l')(hm:look m l=some (.row s))(hs:s'=s)(h:bh lo c σ m r):bh lo c σ m ((l',.row s')::r):=
 ⟨.inl ⟨l,_,hl,hm,hs⟩,h⟩
def bh.bl {l' l1 l2 n n':Nat}{u u':Bool}(l:Nat)(hl:mC lo σ l=some l')(hm:look m l=some (.bld (some l1) n u))(h1:mC lo σ l1=some l2)(hn:n'=n)(hu:u'=u)(h:bh lo c σ m r):bh lo c σ m ((l',.bld (some l2) n' u')::r):=
 ⟨.inl ⟨l,_,hl,hm,⟨l2,h1,rfl⟩,hn,hu⟩,h⟩
def bh.b0 {l' n n':Nat}{u u':Bool}(l:Nat)(hl:mC lo σ l=some l')(hm:look m l=some (.bld none n u))(hn:n'=n)(hu:u'=u)(h:bh lo c σ m r):bh lo c σ m ((l',.bld none n' u')::r):=
 ⟨.inl ⟨l,_,hl,hm,rfl,hn,hu⟩,h⟩
end
mutual
def xC (m:List (Nat×bG)):Sh->D->D
 | .a,d=>match d with
  | .aA=>.sl 0 []
  |d=>d
 | .sl k cs,d=>match d with
  | .aA=>.sl k []
  | .own l k' i c=>.sl k' ((((bj m l).drop i).take c).map fun e=>match e with
   | .agg ds=>.agg (xL m cs ds)
   |e=>xH m cs e)
  |d=>d
 | .pt cs,d=>match d with
  | .ptr l k i o=>.ref k ((bj m l).map fun e=>match e with
   | .agg ds=>.agg (xL m cs ds)
   |e=>xH m cs e) i o
  |d=>d
def xH (m:List (Nat×bG)):List Sh->D->D
 |[],d=>d
 |s::_,d=>xC m s d
def xL (m:List (Nat×bG)):List Sh->List D->List D
 |[],ds=>ds
 |s::r,ds=>match ds with
  |[]=>[]
  |d::ds=>xC m s d::xL m r ds
end
def xV (m:List (Nat×bG))(cs:List Sh):D->D
 | .agg ds=>.agg (xL m cs ds)
 |e=>xH m cs e
mutual
def Ta (m:List (Nat×bG)):Sh->D->Prop
 | .a,d=>d.bF=true
 | .sl _ cs,d=>match d with
  | .own l k' i c=>fS m l k' (i+c)/\∀e∈((bj m l).drop i).take c,(match e with
   | .agg ds=>Qp m cs ds
   |e=>Tb m cs e)
  |d=>d.bF=true
 | .pt cs,d=>match d with
  | .ptr l k _ _=>fS m l k 0/\∀e∈bj m l,(match e with
   | .agg ds=>Qp m cs ds
   |e=>Tb m cs e)
  |d=>d.bF=true
def Tb (m:List (Nat×bG)):List Sh->D->Prop
 |[],d=>d.bF=true
 |s::_,d=>Ta m s d
def Qp (m:List (Nat×bG)):List Sh->List D->Prop
 |[],ds=>bx ds=true
 |s::r,ds=>match ds with
  |[]=>True
  |d::ds=>Ta m s d/\Qp m r ds
end
def Qq (m:List (Nat×bG))(cs:List Sh):D->Prop
 | .agg ds=>Qp m cs ds
 |e=>Tb m cs e
mutual
theorem Qh (m:List (Nat×bG)):∀(s:Sh) (d:D),oz m s d=xC m s d/\(lF m s d↔Ta m s d)
 | .a,d=>by cases d<;>simp only[oz,xC,lF,Ta]<;>exact⟨trivial,trivial⟩
 | .sl k cs,d=>by
  cases d<;>simp only[oz,xC,lF,Ta]<;>first
   |exact⟨trivial,trivial⟩
   |skip
  rename_i l k' i c;exact⟨ar (D.sl k') (List.map_congr_left fun e _=>(Fm m cs e).1),and_congr_right fun _=>forall_congr' fun e=>imp_congr_right fun _=>(Fm m cs e).2⟩
 | .pt cs,d=>by
  cases d<;>simp only[oz,xC,lF,Ta]<;>first
   |exact⟨trivial,trivial⟩
   |skip
  rename_i l k' i c;exact⟨ar (fun x=>D.ref k' x i c) (List.map_congr_left fun e _=>(Fm m cs e).1),and_congr_right fun _=>forall_congr' fun e=>imp_congr_right fun _=>(Fm m cs e).2⟩
theorem Fm (m:List (Nat×bG)):∀(cs:List Sh) (d:D),jM m cs d=(match d with
   | .agg ds=>.agg (xL m cs ds)
   |e=>xH m cs e)/\(iG m cs d↔(match d with
   | .agg ds=>Qp m cs ds
   |e=>Tb m cs e))
 |[],d=>by cases d<;>simp only[jM,xH,xL,iG,Tb,Qp,D.bF]<;>first|exact⟨trivial,Iff.rfl⟩|exact⟨trivial,trivial⟩
 |s::r,d=>by
  cases d<;>simp only[jM,xH,iG,Tb]<;>first
   |exact Qh m s _
   |skip
  rename_i ds;exact⟨ar D.agg (Je m (s::r) ds).1,(Je m (s::r) ds).2⟩
theorem Je (m:List (Nat×bG)):∀(cs:List Sh) (ds:List D),oA m cs ds=xL m cs ds/\(mh m cs ds↔Qp m cs ds)
 |[],ds=>by simp only[oA,xL,mh,Qp];exact⟨trivial,trivial⟩
 |s::r,[]=>by simp only[oA,xL,mh,Qp];exact⟨trivial,trivial⟩
 |s::r,d::ds=>by
  simp only[oA,xL,mh,Qp,(Qh m s d).1,(Je m r ds).1];exact⟨trivial,and_congr (Qh m s d).2 (Je m r ds).2⟩
end
theorem BG (m:List (Nat×bG))(cs:List Sh)(d:D):jM m cs d=xV m cs d/\(iG m cs d↔Qq m cs d):=by
 have:=Fm m cs d;cases d<;>exact this
def nX (m:List (Nat×bG)):List (List Sh)->List D->List D
 |_,[]=>[]
 |[],d::r=>xV m [.a] d::nX m [] r
 |s::ss,d::r=>xV m s d::nX m ss r
def j5 (m:List (Nat×bG)):List (List Sh)->List D->Prop
 |_,[]=>True
 |[],d::r=>Qq m [.a] d/\j5 m [] r
 |s::ss,d::r=>Qq m s d/\j5 m ss r
theorem eA (m:List (Nat×bG)):∀(ss:List (List Sh)) (ds:List D),iz m ss ds=nX m ss ds/\(jB m ss ds↔j5 m ss ds)
 |ss,[]=>by simp[iz,nX,jB,j5]
 |[],d::r=>by
  simp only[iz,nX,jB,j5,(BG m [.a] d).1,(eA m [] r).1];exact⟨trivial,and_congr (BG m _ d).2 (eA m [] r).2⟩
 |s::ss,d::r=>by
  simp only[iz,nX,jB,j5,(BG m s d).1,(eA m ss r).1];exact⟨trivial,and_congr (BG m _ d).2 (eA m ss r).2⟩
def Ul (a:aD)(d:D):Ex->List bL->St->Prop:=fun e env st=>e.home/\sK st.m env a.res/\IQ a env st/\R3 a env st=d
def MK (a:aD)(env:List bL)(m:List (Nat×bG)):D:=match a.res with
 |[r]=>xV m (a.rsh.getD 0 []) (EN m env r)
 |rs=>.tup (nX m a.rsh (pH m env rs))
def BH (a:aD)(env:List bL)(m:List (Nat×bG)):Prop:=match a.res with
 |[r]=>Qq m (a.rsh.getD 0 []) (EN m env r)
 |rs=>j5 m a.rsh (pH m env rs)
def Vz {a:aD}{d:D}{e:Ex}{nx:Nat}{m:List (Nat×bG)}(he:e.home)(h1:sK m env a.res)(h2:BH a env m)(h3:MK a env m=d):Ul a d e env ⟨nx,m⟩:=by
 refine⟨he,h1, ?_, ?_⟩
 .unfold IQ;unfold BH at h2;split<;>rename_i hr
  .rw[hr]at h2;exact(BG _ _ _).2.2 h2
  .split at h2
   .rename_i hr2;exact absurd hr2 (hr _)
   .exact(eA _ _ _).2.2 h2
 grind [R3,MK,BG,eA]
end
end
section
section
variable {Y:Ctx} {draw:Bool} {r:List GI} {env rs:List bL} {nx:Nat} {m:List (Nat×bG)} {K:List bL->St->Prop} {g:Option (Nat×Bool)} {f:Bool}
def at8 (s:List UInt8)(i:Nat):Int:=((s.getD i 0).toNat:Int)
def uh (s:List UInt8)(i:Nat):0<=at8 s i/\at8 s i<256:=by
 have:=(s.getD i 0).toNat_lt;unfold at8;omega
def D.UP:D->Bool
 | .str _=>true
 |_=>false
def wrap_i64 {a:Int}(h1:-9223372036854775808<=a)(h2:a<=9223372036854775807):IntKind.i64.wrap a=a:=IntWalk.i64_in _ ae
def oK (a b:List UInt8):(a==b)=decide (a=b):=by
 grind
def getD_map {α:Type} [Inhabited α]{q:α->D}{xs:List α}{i:Nat}(h:i<xs.length):(xs.map q).getD i .any=q xs[i]! :=by
 simp[List.getD,h]
def VJ (b:UInt8):(D.int .u8 b.toNat).u8=b:=by simp[D.u8]
def QN (s:List UInt8):D.str ((s.map fun b=>D.int .u8 b.toNat).map D.u8)=.str s:=by
 congr 1;rw[List.map_map]
 conv=>rhs;rw[<-List.map_id s]
 apply List.map_congr_left;intro b _;exact VJ b
def GF (rs:List bL):Option (Nat×Bool)->Bool->Prop
 |none,f=>f=true
 |some (j,w),f=>∃ok b,cx [] rs (.l j)=⟨ok,.bool b⟩/\(ok&&(b==w))=f
def GF.flag (h:GF rs g f):flag rs.reverse g=f/\zY rs.reverse g:=by
 cases g with
 |none=>exact⟨h.symm,trivial⟩
 |some jw=>
  obtain⟨j,w⟩:=jw;obtain⟨ok,b,h1,h2⟩:=h;have h3:rs.reverse.getD j .un=⟨ok,.bool b⟩:=by rw[<-h1,<-kY];rfl
  simp only[Abs.flag,zY,h3,h2,D.isBool];exact⟨trivial,fun _=>trivial⟩
def Pq {i:aM}(hM:i.cY=false)(hF:i.tC draw g=false)(hC:g.isSome=true->i.calm=true)(hg:GF rs g f)(d:D)(ho:f=true->i.dQ Y (cx env rs) m)
  (hv:f=true->i.val Y (cx env rs) m (nx+rs.length)=d) (m':List (Nat×bG)) (hm:i.cJ Y (cx env rs) m (nx+rs.length)=m')
  (h:(f=true->i.FG draw (cx env rs))->aK Y draw r env (⟨f,d⟩::rs) nx m' K):aK Y draw (⟨i,g⟩::r) env rs nx m K:=by
 obtain⟨hf,hb⟩:=hg.flag;unfold aK;rw[mR hM hF,kY,hf];refine⟨?_,ho,fun ha=>⟨d,by simpa using hv, ?_⟩⟩
 .cases g with
  |none=>trivial
  |some jw=>exact⟨hC rfl,hb⟩
 grind [aK]
def iH {i:aM}(hC:i.calm=true)(hg:GF rs g f)(d:D)(ho:f=true->i.dQ Y (cx env rs) m)
  (hv:f=true->i.val Y (cx env rs) m (nx+rs.length)=d) (m':List (Nat×bG)) (hm:i.cJ Y (cx env rs) m (nx+rs.length)=m')
  (h:(f=true->i.FG draw (cx env rs))->aK Y draw r env (⟨f,d⟩::rs) nx m' K):aK Y draw (⟨i,g⟩::r) env rs nx m K:=
 Pq (by cases i<;>first|rfl|cases hC) (by simp[aM.tC,hC]) (fun _=>hC) hg d ho hv m' hm h
def bO {i:aM}(hC:i.pure=true)(hg:GF rs g f)(d:D)(ho:f=true->i.dQ Y (cx env rs) m)
  (hv:f=true->i.val Y (cx env rs) m (nx+rs.length)=d) 
  (h:(f=true->i.FG draw (cx env rs))->aK Y draw r env (⟨f,d⟩::rs) nx m K):aK Y draw (⟨i,g⟩::r) env rs nx m K:=
 iH (LS hC) hg d ho hv m (Pj hC) h
def sG {i:aM}(hM:i.cY=false)(d:D)(ho:i.dQ Y (cx env rs) m)
  (hv:i.val Y (cx env rs) m (nx+rs.length)=d) (m':List (Nat×bG)) (hm:i.cJ Y (cx env rs) m (nx+rs.length)=m')
  (h:i.FG draw (cx env rs)->aK Y draw r env (⟨true,d⟩::rs) nx m' K):aK Y draw (⟨i,none⟩::r) env rs nx m K:=
 Pq hM (by simp[aM.tC]) (fun h=>by cases h) rfl d (fun _=>ho) (fun _=>hv) m' hm (fun ha=>h (ha rfl))
def r_mv {x:Src}{fx:Bool}{d:D}(h:aK Y draw r env (⟨f,d⟩::rs) nx m K)(hg:GF rs g f:=by exact c7)(hx:cx env rs x=⟨fx,d⟩:=by exact rfl)(kx:f=true->fx=true:=by exact b6):aK Y draw (⟨.mv x,g⟩::r) env rs nx m K:=
 bO rfl hg _ (fun hf=>by simp[aM.dQ,hx,kx hf]) (fun hf=>by simp[aM.val,hx]) (fun ha=>h)
def Zo {x:Src}{fx:Bool}{b:Bool}(h:aK Y draw r env (⟨f,.bool (!b)⟩::rs) nx m K)(hg:GF rs g f:=by exact c7)(hx:cx env rs x=⟨fx,.bool b⟩:=by exact rfl)(kx:f=true->fx=true:=by exact b6):aK Y draw (⟨.un .not x,g⟩::r) env rs nx m K:=
 bO rfl hg _ (fun hf=>by simp[aM.dQ,hx,kx hf]) (fun hf=>by simp[aM.val,hx]) (fun ha=>h)
def r_or {c b:Src}{fc fb t y:Bool}(h:aK Y draw r env (⟨f,.bool (t ||y)⟩::rs) nx m K)(hg:GF rs g f:=by exact c7)(hc:cx env rs c=⟨fc,.bool t⟩:=by exact rfl)(hb:cx env rs b=⟨fb,.bool y⟩:=by exact rfl)(kc:f=true->fc=true:=by exact b6)(kb:f=true->t=false->fb=true:=by intro h1 h2;first|(rw[h2];exact rfl)|(rw[h2,h1];rfl)|(rw[h1,h2];rfl)|simp_all):aK Y draw (⟨.pick c (.c (.bool true)) b,g⟩::r) env rs nx m K:=
 bO rfl hg _ (fun hf=>by simp only[aM.dQ,hc,hb];exact⟨kc hf,fun _=>rfl,fun e=>kb hf e⟩) (fun hf=>by simp only[aM.val,hc,hb];cases t<;>rfl) (fun _=>h)
def Zg {c a:Src}{fc fa t y:Bool}(h:aK Y draw r env (⟨f,.bool (t&&y)⟩::rs) nx m K)(hg:GF rs g f:=by exact c7)(hc:cx env rs c=⟨fc,.bool t⟩:=by exact rfl)(ha:cx env rs a=⟨fa,.bool y⟩:=by exact rfl)(kc:f=true->fc=true:=by exact b6)(ka:f=true->t=true->fa=true:=by intro h1 h2;first|(rw[h2];exact rfl)|(rw[h2,h1];rfl)|(rw[h1,h2];rfl)|simp_all):aK Y draw (⟨.pick c a (.c (.bool false)),g⟩::r) env rs nx m K:=
 bO rfl hg _ (fun hf=>by simp only[aM.dQ,hc,ha];exact⟨kc hf,fun e=>ka hf e,fun _=>rfl⟩) (fun hf=>by simp only[aM.val,hc,ha];cases t<;>rfl) (fun _=>h)
def IB {x y:Src}{fx fy:Bool}{a b:Int}(h:aK Y draw r env (⟨f,.int .i64 (a+b)⟩::rs) nx m K)(hg:GF rs g f:=by exact c7)(hx:cx env rs x=⟨fx,.int .i64 a⟩:=by exact rfl)(hy:cx env rs y=⟨fy,.int .i64 b⟩:=by exact rfl)(kx:f=true->fx=true:=by exact b6)(ky:f=true->fy=true:=by exact b6)(hb:f=true->-9223372036854775808<=a+b/\a+b<=9223372036854775807:=by exact HB):aK Y draw (⟨.bin .add x y,g⟩::r) env rs nx m K:=
 bO rfl hg _ (fun hf=>by simp[aM.dQ,hx,hy,kx hf,ky hf,iZ]) (fun hf=>by simp only[aM.val,hx,hy,jn];rw[wrap_i64 (hb hf).1 (hb hf).2]) (fun ha=>h)
def zh {x y:Src}{fx fy:Bool}{k:IntKind}{a b:Int}(v:Int)(h:aK Y draw r env (⟨f,.int k v⟩::rs) nx m K)(hg:GF rs g f:=by exact c7)(hx:cx env rs x=⟨fx,.int k a⟩:=by exact rfl)(hy:cx env rs y=⟨fy,.int k b⟩:=by exact rfl)(kx:f=true->fx=true:=by exact b6)(ky:f=true->fy=true:=by exact b6)(hb:f=true->k.wrap (a+b)=v):aK Y draw (⟨.bin .add x y,g⟩::r) env rs nx m K:=
 bO rfl hg _ (fun hf=>by simp[aM.dQ,hx,hy,kx hf,ky hf,iZ]) (fun hf=>by simp only[aM.val,hx,hy,jn];rw[hb hf]) (fun ha=>h)
def IK {x y:Src}{fx fy:Bool}{a b:Int}(h:aK Y draw r env (⟨f,.int .i64 (a-b)⟩::rs) nx m K)(hg:GF rs g f:=by exact c7)(hx:cx env rs x=⟨fx,.int .i64 a⟩:=by exact rfl)(hy:cx env rs y=⟨fy,.int .i64 b⟩:=by exact rfl)(kx:f=true->fx=true:=by exact b6)(ky:f=true->fy=true:=by exact b6)(hb:f=true->-9223372036854775808<=a-b/\a-b<=9223372036854775807:=by exact HB):aK Y draw (⟨.bin .sub x y,g⟩::r) env rs nx m K:=
 bO rfl hg _ (fun hf=>by simp[aM.dQ,hx,hy,kx hf,ky hf,iZ]) (fun hf=>by simp only[aM.val,hx,hy,jn];rw[wrap_i64 (hb hf).1 (hb hf).2]) (fun ha=>h)
def sH {x y:Src}{fx fy:Bool}{k:IntKind}{a b:Int}(v:Int)(h:aK Y draw r env (⟨f,.int k v⟩::rs) nx m K)(hg:GF rs g f:=by exact c7)(hx:cx env rs x=⟨fx,.int k a⟩:=by exact rfl)(hy:cx env rs y=⟨fy,.int k b⟩:=by exact rfl)(kx:f=true->fx=true:=by exact b6)(ky:f=true->fy=true:=by exact b6)(hb:f=true->k.wrap (a-b)=v):aK Y draw (⟨.bin .sub x y,g⟩::r) env rs nx m K:=
 bO rfl hg _ (fun hf=>by simp[aM.dQ,hx,hy,kx hf,ky hf,iZ]) (fun hf=>by simp only[aM.val,hx,hy,jn];rw[hb hf]) (fun ha=>h)
def nH {x y:Src}{fx fy:Bool}{a b:Int}(h:aK Y draw r env (⟨f,.int .i64 (a*b)⟩::rs) nx m K)(hg:GF rs g f:=by exact c7)(hx:cx env rs x=⟨fx,.int .i64 a⟩:=by exact rfl)(hy:cx env rs y=⟨fy,.int .i64 b⟩:=by exact rfl)(kx:f=true->fx=true:=by exact b6)(ky:f=true->fy=true:=by exact b6)(hb:f=true->-9223372036854775808<=a*b/\a*b<=9223372036854775807:=by exact HB):aK Y draw (⟨.bin .mul x y,g⟩::r) env rs nx m K:=
 bO rfl hg _ (fun hf=>by simp[aM.dQ,hx,hy,kx hf,ky hf,iZ]) (fun hf=>by simp only[aM.val,hx,hy,jn];rw[wrap_i64 (hb hf).1 (hb hf).2]) (fun ha=>h)
def Px {x y:Src}{fx fy:Bool}{k:IntKind}{a b:Int}(v:Int)(h:aK Y draw r env (⟨f,.int k v⟩::rs) nx m K)(hg:GF rs g f:=by exact c7)(hx:cx env rs x=⟨fx,.int k a⟩:=by exact rfl)(hy:cx env rs y=⟨fy,.int k b⟩:=by exact rfl)(kx:f=true->fx=true:=by exact b6)(ky:f=true->fy=true:=by exact b6)(hb:f=true->k.wrap (a*b)=v):aK Y draw (⟨.bin .mul x y,g⟩::r) env rs nx m K:=
 bO rfl hg _ (fun hf=>by simp[aM.dQ,hx,hy,kx hf,ky hf,iZ]) (fun hf=>by simp only[aM.val,hx,hy,jn];rw[hb hf]) (fun ha=>h)
def Zp {x y:Src}{fx fy:Bool}{k:IntKind}{a b:Int}(v:Int)(h:aK Y draw r env (⟨f,.int k v⟩::rs) nx m K)(hg:GF rs g f:=by exact c7)(hx:cx env rs x=⟨fx,.int k a⟩:=by exact rfl)(hy:cx env rs y=⟨fy,.int k b⟩:=by exact rfl)(kx:f=true->fx=true:=by exact b6)(ky:f=true->fy=true:=by exact b6)(hn:f=true->b≠0)(hb:f=true->k.wrap (a.tdiv b)=v):aK Y draw (⟨.bin .quo x y,g⟩::r) env rs nx m K:=
 bO rfl hg _ (fun hf=>by simp[aM.dQ,hx,hy,kx hf,ky hf,iZ,hn hf]) (fun hf=>by simp only[aM.val,hx,hy,jn];rw[hb hf]) (fun ha=>h)
def II {x y:Src}{fx fy:Bool}{k:IntKind}{a b:Int}(v:Int)(h:aK Y draw r env (⟨f,.int k v⟩::rs) nx m K)(hg:GF rs g f:=by exact c7)(hx:cx env rs x=⟨fx,.int k a⟩:=by exact rfl)(hy:cx env rs y=⟨fy,.int k b⟩:=by exact rfl)(kx:f=true->fx=true:=by exact b6)(ky:f=true->fy=true:=by exact b6)(hn:f=true->b≠0)(hb:f=true->a.tmod b=v):aK Y draw (⟨.bin .rem x y,g⟩::r) env rs nx m K:=
 bO rfl hg _ (fun hf=>by simp[aM.dQ,hx,hy,kx hf,ky hf,iZ,hn hf]) (fun hf=>by simp only[aM.val,hx,hy,jn];rw[hb hf]) (fun ha=>h)
def IJ {x y:Src}{fx fy:Bool}{k k2:IntKind}{a b:Int}(v:Int)(h:aK Y draw r env (⟨f,.int k v⟩::rs) nx m K)(hg:GF rs g f:=by exact c7)(hx:cx env rs x=⟨fx,.int k a⟩:=by exact rfl)(hy:cx env rs y=⟨fy,.int k2 b⟩:=by exact rfl)(kx:f=true->fx=true:=by exact b6)(ky:f=true->fy=true:=by exact b6)(hn:f=true->0<=b:=by exact tZ)(hb:f=true->k.wrap (a*2^(min b.toNat k.bits))=v):aK Y draw (⟨.bin .shl x y,g⟩::r) env rs nx m K:=
 bO rfl hg _ (fun hf=>by simp[aM.dQ,hx,hy,kx hf,ky hf,iZ,hn hf]) (fun hf=>by simp only[aM.val,hx,hy,jn];rw[hb hf]) (fun ha=>h)
def tM {x y:Src}{fx fy:Bool}{k k2:IntKind}{a b:Int}(v:Int)(h:aK Y draw r env (⟨f,.int k v⟩::rs) nx m K)(hg:GF rs g f:=by exact c7)(hx:cx env rs x=⟨fx,.int k a⟩:=by exact rfl)(hy:cx env rs y=⟨fy,.int k2 b⟩:=by exact rfl)(kx:f=true->fx=true:=by exact b6)(ky:f=true->fy=true:=by exact b6)(hn:f=true->0<=b:=by exact tZ)(hb:f=true->a.fdiv (2^(min b.toNat k.bits))=v):aK Y draw (⟨.bin .shr x y,g⟩::r) env rs nx m K:=
 bO rfl hg _ (fun hf=>by simp[aM.dQ,hx,hy,kx hf,ky hf,iZ,hn hf]) (fun hf=>by simp only[aM.val,hx,hy,jn];rw[hb hf]) (fun ha=>h)
def vb {x y:Src}{fx fy:Bool}{k:IntKind}{a b:Int}(v:Int)(h:aK Y draw r env (⟨f,.int k v⟩::rs) nx m K)(hg:GF rs g f:=by exact c7)(hx:cx env rs x=⟨fx,.int k a⟩:=by exact rfl)(hy:cx env rs y=⟨fy,.int k b⟩:=by exact rfl)(kx:f=true->fx=true:=by exact b6)(ky:f=true->fy=true:=by exact b6)(hb:f=true->k.wrap (((BitVec.ofInt k.bits a)&&&(BitVec.ofInt k.bits b)).toNat)=v):aK Y draw (⟨.bin .and x y,g⟩::r) env rs nx m K:=
 bO rfl hg _ (fun hf=>by simp[aM.dQ,hx,hy,kx hf,ky hf,iZ]) (fun hf=>by simp only[aM.val,hx,hy,jn];rw[hb hf]) (fun ha=>h)
def IE {x y:Src}{fx fy:Bool}{k:IntKind}{a b:Int}(v:Int)(h:aK Y draw r env (⟨f,.int k v⟩::rs) nx m K)(hg:GF rs g f:=by exact c7)(hx:cx env rs x=⟨fx,.int k a⟩:=by exact rfl)(hy:cx env rs y=⟨fy,.int k b⟩:=by exact rfl)(kx:f=true->fx=true:=by exact b6)(ky:f=true->fy=true:=by exact b6)(hb:f=true->k.wrap (((BitVec.ofInt k.bits a) |||(BitVec.ofInt k.bits b)).toNat)=v):aK Y draw (⟨.bin .or x y,g⟩::r) env rs nx m K:=
 bO rfl hg _ (fun hf=>by simp[aM.dQ,hx,hy,kx hf,ky hf,iZ]) (fun hf=>by simp only[aM.val,hx,hy,jn];rw[hb hf]) (fun ha=>h)
def Cv {x y:Src}{fx fy:Bool}{k:IntKind}{a b:Int}(v:Int)(h:aK Y draw r env (⟨f,.int k v⟩::rs) nx m K)(hg:GF rs g f:=by exact c7)(hx:cx env rs x=⟨fx,.int k a⟩:=by exact rfl)(hy:cx env rs y=⟨fy,.int k b⟩:=by exact rfl)(kx:f=true->fx=true:=by exact b6)(ky:f=true->fy=true:=by exact b6)(hb:f=true->k.wrap (((BitVec.ofInt k.bits a)^^^(BitVec.ofInt k.bits b)).toNat)=v):aK Y draw (⟨.bin .xor x y,g⟩::r) env rs nx m K:=
 bO rfl hg _ (fun hf=>by simp[aM.dQ,hx,hy,kx hf,ky hf,iZ]) (fun hf=>by simp only[aM.val,hx,hy,jn];rw[hb hf]) (fun ha=>h)
def Pv {x y:Src}{fx fy:Bool}{k:IntKind}{a b:Int}(h:aK Y draw r env (⟨f,.bool (decide (a<b))⟩::rs) nx m K)(hg:GF rs g f:=by exact c7)(hx:cx env rs x=⟨fx,.int k a⟩:=by exact rfl)(hy:cx env rs y=⟨fy,.int k b⟩:=by exact rfl)(kx:f=true->fx=true:=by exact b6)(ky:f=true->fy=true:=by exact b6):aK Y draw (⟨.bin .lss x y,g⟩::r) env rs nx m K:=
 bO rfl hg _ (fun hf=>by simp[aM.dQ,hx,hy,kx hf,ky hf,iZ]) (fun hf=>by simp only[aM.val,hx,hy,jn]<;>rfl) (fun ha=>h)
def Vq {x y:Src}{fx fy:Bool}{k:IntKind}{a b:Int}(h:aK Y draw r env (⟨f,.bool (decide (a<=b))⟩::rs) nx m K)(hg:GF rs g f:=by exact c7)(hx:cx env rs x=⟨fx,.int k a⟩:=by exact rfl)(hy:cx env rs y=⟨fy,.int k b⟩:=by exact rfl)(kx:f=true->fx=true:=by exact b6)(ky:f=true->fy=true:=by exact b6):aK Y draw (⟨.bin .leq x y,g⟩::r) env rs nx m K:=
 bO rfl hg _ (fun hf=>by simp[aM.dQ,hx,hy,kx hf,ky hf,iZ]) (fun hf=>by simp only[aM.val,hx,hy,jn]<;>rfl) (fun ha=>h)
def Vk {x y:Src}{fx fy:Bool}{k:IntKind}{a b:Int}(h:aK Y draw r env (⟨f,.bool (decide (b<a))⟩::rs) nx m K)(hg:GF rs g f:=by exact c7)(hx:cx env rs x=⟨fx,.int k a⟩:=by exact rfl)(hy:cx env rs y=⟨fy,.int k b⟩:=by exact rfl)(kx:f=true->fx=true:=by exact b6)(ky:f=true->fy=true:=by exact b6):aK Y draw (⟨.bin .gtr x y,g⟩::r) env rs nx m K:=
 bO rfl hg _ (fun hf=>by simp[aM.dQ,hx,hy,kx hf,ky hf,iZ]) (fun hf=>by simp only[aM.val,hx,hy,jn]<;>rfl) (fun ha=>h)
def Vi {x y:Src}{fx fy:Bool}{k:IntKind}{a b:Int}(h:aK Y draw r env (⟨f,.bool (decide (b<=a))⟩::rs) nx m K)(hg:GF rs g f:=by exact c7)(hx:cx env rs x=⟨fx,.int k a⟩:=by exact rfl)(hy:cx env rs y=⟨fy,.int k b⟩:=by exact rfl)(kx:f=true->fx=true:=by exact b6)(ky:f=true->fy=true:=by exact b6):aK Y draw (⟨.bin .geq x y,g⟩::r) env rs nx m K:=
 bO rfl hg _ (fun hf=>by simp[aM.dQ,hx,hy,kx hf,ky hf,iZ]) (fun hf=>by simp only[aM.val,hx,hy,jn]<;>rfl) (fun ha=>h)
def Vg {x y:Src}{fx fy:Bool}{k:IntKind}{a b:Int}(h:aK Y draw r env (⟨f,.bool (decide (a=b))⟩::rs) nx m K)(hg:GF rs g f:=by exact c7)(hx:cx env rs x=⟨fx,.int k a⟩:=by exact rfl)(hy:cx env rs y=⟨fy,.int k b⟩:=by exact rfl)(kx:f=true->fx=true:=by exact b6)(ky:f=true->fy=true:=by exact b6):aK Y draw (⟨.bin .eql x y,g⟩::r) env rs nx m K:=
 bO rfl hg _ (fun hf=>by simp[aM.dQ,hx,hy,kx hf,ky hf,iZ]) (fun hf=>by simp only[aM.val,hx,hy,jn]<;>rfl) (fun ha=>h)
def Vs {x y:Src}{fx fy:Bool}{k:IntKind}{a b:Int}(h:aK Y draw r env (⟨f,.bool (!decide (a=b))⟩::rs) nx m K)(hg:GF rs g f:=by exact c7)(hx:cx env rs x=⟨fx,.int k a⟩:=by exact rfl)(hy:cx env rs y=⟨fy,.int k b⟩:=by exact rfl)(kx:f=true->fx=true:=by exact b6)(ky:f=true->fy=true:=by exact b6):aK Y draw (⟨.bin .neq x y,g⟩::r) env rs nx m K:=
 bO rfl hg _ (fun hf=>by simp[aM.dQ,hx,hy,kx hf,ky hf,iZ]) (fun hf=>by simp only[aM.val,hx,hy,jn]<;>rfl) (fun ha=>h)
def Pw {x y:Src}{fx fy:Bool}{a b:List UInt8}(h:aK Y draw r env (⟨f,.bool (Op.bytesLess a b)⟩::rs) nx m K)(hg:GF rs g f:=by exact c7)(hx:cx env rs x=⟨fx,.str a⟩:=by exact rfl)(hy:cx env rs y=⟨fy,.str b⟩:=by exact rfl)(kx:f=true->fx=true:=by exact b6)(ky:f=true->fy=true:=by exact b6):aK Y draw (⟨.bin .lss x y,g⟩::r) env rs nx m K:=
 bO rfl hg _ (fun hf=>by simp[aM.dQ,hx,hy,kx hf,ky hf,iZ]) (fun hf=>by simp only[aM.val,hx,hy,jn,oK]) (fun ha=>h)
def Vr {x y:Src}{fx fy:Bool}{a b:List UInt8}(h:aK Y draw r env (⟨f,.bool (Op.bytesLess a b ||decide (a=b))⟩::rs) nx m K)(hg:GF rs g f:=by exact c7)(hx:cx env rs x=⟨fx,.str a⟩:=by exact rfl)(hy:cx env rs y=⟨fy,.str b⟩:=by exact rfl)(kx:f=true->fx=true:=by exact b6)(ky:f=true->fy=true:=by exact b6):aK Y draw (⟨.bin .leq x y,g⟩::r) env rs nx m K:=
 bO rfl hg _ (fun hf=>by simp[aM.dQ,hx,hy,kx hf,ky hf,iZ]) (fun hf=>by simp only[aM.val,hx,hy,jn,oK]) (fun ha=>h)
def Vl {x y:Src}{fx fy:Bool}{a b:List UInt8}(h:aK Y draw r env (⟨f,.bool (!(Op.bytesLess a b ||decide (a=b)))⟩::rs) nx m K)(hg:GF rs g f:=by exact c7)(hx:cx env rs x=⟨fx,.str a⟩:=by exact rfl)(hy:cx env rs y=⟨fy,.str b⟩:=by exact rfl)(kx:f=true->fx=true:=by exact b6)(ky:f=true->fy=true:=by exact b6):aK Y draw (⟨.bin .gtr x y,g⟩::r) env rs nx m K:=
 bO rfl hg _ (fun hf=>by simp[aM.dQ,hx,hy,kx hf,ky hf,iZ]) (fun hf=>by simp only[aM.val,hx,hy,jn,oK]) (fun ha=>h)
def Vj {x y:Src}{fx fy:Bool}{a b:List UInt8}(h:aK Y draw r env (⟨f,.bool (!Op.bytesLess a b)⟩::rs) nx m K)(hg:GF rs g f:=by exact c7)(hx:cx env rs x=⟨fx,.str a⟩:=by exact rfl)(hy:cx env rs y=⟨fy,.str b⟩:=by exact rfl)(kx:f=true->fx=true:=by exact b6)(ky:f=true->fy=true:=by exact b6):aK Y draw (⟨.bin .geq x y,g⟩::r) env rs nx m K:=
 bO rfl hg _ (fun hf=>by simp[aM.dQ,hx,hy,kx hf,ky hf,iZ]) (fun hf=>by simp only[aM.val,hx,hy,jn,oK]) (fun ha=>h)
def Vh {x y:Src}{fx fy:Bool}{a b:List UInt8}(h:aK Y draw r env (⟨f,.bool (decide (a=b))⟩::rs) nx m K)(hg:GF rs g f:=by exact c7)(hx:cx env rs x=⟨fx,.str a⟩:=by exact rfl)(hy:cx env rs y=⟨fy,.str b⟩:=by exact rfl)(kx:f=true->fx=true:=by exact b6)(ky:f=true->fy=true:=by exact b6):aK Y draw (⟨.bin .eql x y,g⟩::r) env rs nx m K:=
 bO rfl hg _ (fun hf=>by simp[aM.dQ,hx,hy,kx hf,ky hf,iZ]) (fun hf=>by simp only[aM.val,hx,hy,jn,oK]) (fun ha=>h)
def Vt {x y:Src}{fx fy:Bool}{a b:List UInt8}(h:aK Y draw r env (⟨f,.bool (!decide (a=b))⟩::rs) nx m K)(hg:GF rs g f:=by exact c7)(hx:cx env rs x=⟨fx,.str a⟩:=by exact rfl)(hy:cx env rs y=⟨fy,.str b⟩:=by exact rfl)(kx:f=true->fx=true:=by exact b6)(ky:f=true->fy=true:=by exact b6):aK Y draw (⟨.bin .neq x y,g⟩::r) env rs nx m K:=
 bO rfl hg _ (fun hf=>by simp[aM.dQ,hx,hy,kx hf,ky hf,iZ]) (fun hf=>by simp only[aM.val,hx,hy,jn,oK]) (fun ha=>h)
def cP {x y:Src}{fx fy:Bool}{a b:List UInt8}(h:aK Y draw r env (⟨f,.str (a++b)⟩::rs) nx m K)(hg:GF rs g f:=by exact c7)(hx:cx env rs x=⟨fx,.str a⟩:=by exact rfl)(hy:cx env rs y=⟨fy,.str b⟩:=by exact rfl)(kx:f=true->fx=true:=by exact b6)(ky:f=true->fy=true:=by exact b6)(hb:f=true->a.length+b.length<=9223372036854775807):aK Y draw (⟨.bin .add x y,g⟩::r) env rs nx m K:=
 bO rfl hg _ (fun hf=>by simp[aM.dQ,hx,hy,kx hf,ky hf,iZ,hb hf]) (fun hf=>by simp only[aM.val,hx,hy,jn]) (fun ha=>h)
def Zj {x y:Src}{fx fy:Bool}{ag:Bool}{ks:List CK}{a b:D}{v:Bool}(h:aK Y draw r env (⟨f,.bool (v)⟩::rs) nx m K)(hb:iC a.cells b.cells=v)(hg:GF rs g f:=by exact c7)(hx:cx env rs x=⟨fx,a⟩:=by exact rfl)(hy:cx env rs y=⟨fy,b⟩:=by exact rfl)(kx:f=true->fx=true:=by exact b6)(ky:f=true->fy=true:=by exact b6)(h1:f=true->a.isAgg=ag/\b.isAgg=ag/\fH ks a.cells/\fH ks b.cells:=by exact wJ):aK Y draw (⟨.eqA false ag ks x y,g⟩::r) env rs nx m K:=
 bO rfl hg _ (fun hf=>by simp only[aM.dQ,hx,hy];exact⟨kx hf,ky hf,h1 hf⟩) (fun hf=>by simp only[aM.val,hx,hy];rw[hb];rfl) (fun ha=>h)
def Zi {x y:Src}{fx fy:Bool}{ag:Bool}{ks:List CK}{a b:D}{v:Bool}(h:aK Y draw r env (⟨f,.bool (!v)⟩::rs) nx m K)(hb:iC a.cells b.cells=v)(hg:GF rs g f:=by exact c7)(hx:cx env rs x=⟨fx,a⟩:=by exact rfl)(hy:cx env rs y=⟨fy,b⟩:=by exact rfl)(kx:f=true->fx=true:=by exact b6)(ky:f=true->fy=true:=by exact b6)(h1:f=true->a.isAgg=ag/\b.isAgg=ag/\fH ks a.cells/\fH ks b.cells:=by exact wJ):aK Y draw (⟨.eqA true ag ks x y,g⟩::r) env rs nx m K:=
 bO rfl hg _ (fun hf=>by simp only[aM.dQ,hx,hy];exact⟨kx hf,ky hf,h1 hf⟩) (fun hf=>by simp only[aM.val,hx,hy];rw[hb];rfl) (fun ha=>h)
def nF {x:Src}{fx:Bool}{k k2:IntKind}{a:Int}(v:Int)(h:aK Y draw r env (⟨f,.int k v⟩::rs) nx m K)(hg:GF rs g f:=by exact c7)(hx:cx env rs x=⟨fx,.int k2 a⟩:=by exact rfl)(kx:f=true->fx=true:=by exact b6)(hb:f=true->k.wrap a=v):aK Y draw (⟨.cvi k x,g⟩::r) env rs nx m K:=
 bO rfl hg _ (fun hf=>by simp[aM.dQ,hx,kx hf]) (fun hf=>by simp only[aM.val,hx];rw[hb hf]) (fun ha=>h)
def Pu {x:Src}{fx:Bool}{s:List UInt8}(h:(f=true->draw=false->s.length<=9223372036854775807)->aK Y draw r env (⟨f,.int .i64 s.length⟩::rs) nx m K)(hg:GF rs g f:=by exact c7)(hx:cx env rs x=⟨fx,.str s⟩:=by exact rfl)(kx:f=true->fx=true:=by exact b6):aK Y draw (⟨.lenS x,g⟩::r) env rs nx m K:=
 bO rfl hg _ (fun hf=>by simp[aM.dQ,hx,kx hf]) (fun hf=>by simp[aM.val,hx]) (fun ha=>h (fun hf hd=>by have:=ha hf;subst hd;simpa[aM.FG,hx,kx hf]using this))
def Ps {x:Src}{fx:Bool}{α:Type}{k:Nat}{q:α->D}{xs:List α}(h:(f=true->draw=false->xs.length<=9223372036854775807)->aK Y draw r env (⟨f,.int .i64 xs.length⟩::rs) nx m K)(hg:GF rs g f:=by exact c7)(hx:cx env rs x=⟨fx,.sl k (xs.map q)⟩:=by exact rfl)(kx:f=true->fx=true:=by exact b6):aK Y draw (⟨.len x,g⟩::r) env rs nx m K:=
 bO rfl hg _ (fun hf=>by simp[aM.dQ,hx,kx hf]) (fun hf=>by simp[aM.val,hx]) (fun ha=>h (fun hf hd=>by have:=ha hf;subst hd;simpa[aM.FG,hx,kx hf]using this))
def Pt {x:Src}{fx:Bool}{l k i n:Nat}(h:(f=true->draw=false->n<=9223372036854775807)->aK Y draw r env (⟨f,.int .i64 n⟩::rs) nx m K)(hg:GF rs g f:=by exact c7)(hx:cx env rs x=⟨fx,.own l k i n⟩:=by exact rfl)(kx:f=true->fx=true:=by exact b6):aK Y draw (⟨.len x,g⟩::r) env rs nx m K:=
 bO rfl hg _ (fun hf=>by simp[aM.dQ,hx,kx hf]) (fun hf=>by simp[aM.val,hx]) (fun ha=>h (fun hf hd=>by have:=ha hf;subst hd;simpa[aM.FG,hx,kx hf]using this))
def Vp {x:Src}{fx:Bool}(h:aK Y draw r env (⟨f,.int .i64 0⟩::rs) nx m K)(hg:GF rs g f:=by exact c7)(hx:cx env rs x=⟨fx,.aA⟩:=by exact rfl)(kx:f=true->fx=true:=by exact b6):aK Y draw (⟨.len x,g⟩::r) env rs nx m K:=
 bO rfl hg _ (fun hf=>by simp[aM.dQ,hx,kx hf]) (fun hf=>by simp[aM.val,hx]) (fun ha=>h)
def Vu {x:Src}{fx:Bool}{l k i o:Nat}(h:aK Y draw r env (⟨f,.ptr l k i o⟩::rs) nx m K)(hg:GF rs g f:=by exact c7)(hx:cx env rs x=⟨fx,.ptr l k i o⟩:=by exact rfl)(kx:f=true->fx=true:=by exact b6):aK Y draw (⟨.nilck x,g⟩::r) env rs nx m K:=
 bO rfl hg _ (fun hf=>by simp[aM.dQ,hx,kx hf]) (fun hf=>by simp[aM.val,hx]) (fun ha=>h)
def Vv {x:Src}{fx:Bool}{k i o:Nat}{es:List D}(h:aK Y draw r env (⟨f,.ref k es i o⟩::rs) nx m K)(hg:GF rs g f:=by exact c7)(hx:cx env rs x=⟨fx,.ref k es i o⟩:=by exact rfl)(kx:f=true->fx=true:=by exact b6):aK Y draw (⟨.nilck x,g⟩::r) env rs nx m K:=
 bO rfl hg _ (fun hf=>by simp[aM.dQ,hx,kx hf]) (fun hf=>by simp[aM.val,hx]) (fun ha=>h)
def Zk {x:Src}{fx:Bool}{off l k i o:Nat}(h:aK Y draw r env (⟨f,.ptr l k i (o+off)⟩::rs) nx m K)(hg:GF rs g f:=by exact c7)(hx:cx env rs x=⟨fx,.ptr l k i o⟩:=by exact rfl)(kx:f=true->fx=true:=by exact b6):aK Y draw (⟨.fa off x,g⟩::r) env rs nx m K:=
 bO rfl hg _ (fun hf=>by simp[aM.dQ,hx,kx hf]) (fun hf=>by simp[aM.val,hx]) (fun ha=>h)
def Zl {x:Src}{fx:Bool}{off k i o:Nat}{es:List D}(h:aK Y draw r env (⟨f,.ref k es i (o+off)⟩::rs) nx m K)(hg:GF rs g f:=by exact c7)(hx:cx env rs x=⟨fx,.ref k es i o⟩:=by exact rfl)(kx:f=true->fx=true:=by exact b6):aK Y draw (⟨.fa off x,g⟩::r) env rs nx m K:=
 bO rfl hg _ (fun hf=>by simp[aM.dQ,hx,kx hf]) (fun hf=>by simp[aM.val,hx]) (fun ha=>h)
def cM {x y:Src}{fx fy:Bool}{α:Type}{k:Nat}{q:α->D}{xs:List α}{i:Int}{kk:IntKind}(j:Nat)(h:aK Y draw r env (⟨f,.ref k (xs.map q) j 0⟩::rs) nx m K)(hg:GF rs g f:=by exact c7)(hx:cx env rs x=⟨fx,.sl k (xs.map q)⟩:=by exact rfl)(hy:cx env rs y=⟨fy,.int kk i⟩:=by exact rfl)(kx:f=true->fx=true:=by exact b6)(ky:f=true->fy=true:=by exact b6)(hj:f=true->i=(j:Int):=by exact wI)(hb:f=true->j<xs.length:=by exact tZ):aK Y draw (⟨.ia k x y,g⟩::r) env rs nx m K:=
 bO rfl hg _ (fun hf=>by simp only[aM.dQ,hx,hy,cb];exact⟨kx hf,ky hf,trivial,by have:=hj hf;omega,by have:=hj hf;have:=hb hf;omega⟩) (fun hf=>by simp only[aM.val,hx,hy];rw[hj hf];rfl) (fun ha=>h)
def im {x y:Src}{fx fy:Bool}{l k i0 n:Nat}{i:Int}{kk:IntKind}(j:Nat)(h:aK Y draw r env (⟨f,.ptr l k (i0+j) 0⟩::rs) nx m K)(hg:GF rs g f:=by exact c7)(hx:cx env rs x=⟨fx,.own l k i0 n⟩:=by exact rfl)(hy:cx env rs y=⟨fy,.int kk i⟩:=by exact rfl)(kx:f=true->fx=true:=by exact b6)(ky:f=true->fy=true:=by exact b6)(hj:f=true->i=(j:Int):=by exact wI)(hb:f=true->j<n:=by exact tZ):aK Y draw (⟨.ia k x y,g⟩::r) env rs nx m K:=
 bO rfl hg _ (fun hf=>by simp only[aM.dQ,hx,hy];exact⟨kx hf,ky hf,trivial,by have:=hj hf;omega,by have:=hj hf;have:=hb hf;omega⟩) (fun hf=>by simp only[aM.val,hx,hy];rw[hj hf];rfl) (fun ha=>h)
def sF {x y:Src}{fx fy:Bool}{l k k2 n i0 o:Nat}{i:Int}{kk:IntKind}(j:Nat)(h:aK Y draw r env (⟨f,.ptr l k2 i0 (o+j*k)⟩::rs) nx m K)(hg:GF rs g f:=by exact c7)(hx:cx env rs x=⟨fx,.ptr l k2 i0 o⟩:=by exact rfl)(hy:cx env rs y=⟨fy,.int kk i⟩:=by exact rfl)(kx:f=true->fx=true:=by exact b6)(ky:f=true->fy=true:=by exact b6)(hj:f=true->i=(j:Int):=by exact wI)(hb:f=true->j<n:=by exact tZ):aK Y draw (⟨.iaP n k x y,g⟩::r) env rs nx m K:=
 bO rfl hg _ (fun hf=>by simp only[aM.dQ,hx,hy];exact⟨kx hf,ky hf,by have:=hj hf;omega,by have:=hj hf;have:=hb hf;omega⟩) (fun hf=>by simp only[aM.val,hx,hy];rw[hj hf];rfl) (fun ha=>h)
def oB {x y:Src}{fx fy:Bool}{s:List UInt8}{i:Int}{kk:IntKind}(j:Nat)(h:aK Y draw r env (⟨f,.int .u8 (at8 s j)⟩::rs) nx m K)(hg:GF rs g f:=by exact c7)(hx:cx env rs x=⟨fx,.str s⟩:=by exact rfl)(hy:cx env rs y=⟨fy,.int kk i⟩:=by exact rfl)(kx:f=true->fx=true:=by exact b6)(ky:f=true->fy=true:=by exact b6)(hj:f=true->i=(j:Int):=by exact wI)(hb:f=true->j<s.length:=by exact tZ):aK Y draw (⟨.ixS x y,g⟩::r) env rs nx m K:=
 bO rfl hg _ (fun hf=>by simp only[aM.dQ,hx,hy];exact⟨kx hf,ky hf,by have:=hj hf;omega,by have:=hj hf;have:=hb hf;omega⟩) (fun hf=>by simp only[aM.val,hx,hy];rw[hj hf];rfl) (fun ha=>h)
def IG {x y:Src}{fx fy:Bool}{n k:Nat}{ag:Bool}{cs:List D}{i:Int}{kk:IntKind}(j:Nat)(v:D)(h:aK Y draw r env (⟨f,v⟩::rs) nx m K)(hg:GF rs g f:=by exact c7)(hx:cx env rs x=⟨fx,.agg cs⟩:=by exact rfl)(hy:cx env rs y=⟨fy,.int kk i⟩:=by exact rfl)(kx:f=true->fx=true:=by exact b6)(ky:f=true->fy=true:=by exact b6)(hj:f=true->i=(j:Int):=by exact wI)(hb:f=true->j<n:=by exact tZ)(hl:cs.length=n*k:=by exact rfl)(h1:ag=false->k=1:=by intro h;first|exact rfl|cases h)(hv:f=true->cut cs (j*k) k ag=v):aK Y draw (⟨.ixA n k ag x y,g⟩::r) env rs nx m K:=
 bO rfl hg _ (fun hf=>by simp only[aM.dQ,hx,hy];exact⟨kx hf,ky hf,h1,by have:=hj hf;omega,by have:=hj hf;have:=hb hf;omega,hl⟩) (fun hf=>by simp only[aM.val,hx,hy];rw[<-hv hf,hj hf];rfl) (fun ha=>h)
def Pr {x y:Src}{fx fy:Bool}{α:Type}{k:Nat}{q:α->D}{xs:List α}{i:Int}{kk:IntKind}(h:aK Y draw r env (⟨f,.ref k (xs.map q) i.toNat 0⟩::rs) nx m K)(hg:GF rs g f:=by exact c7)(hx:cx env rs x=⟨fx,.sl k (xs.map q)⟩:=by exact rfl)(hy:cx env rs y=⟨fy,.int kk i⟩:=by exact rfl)(kx:f=true->fx=true:=by exact b6)(ky:f=true->fy=true:=by exact b6)(hb:f=true->0<=i/\i<(xs.length:Nat):=by exact HB):aK Y draw (⟨.ia k x y,g⟩::r) env rs nx m K:=
 bO rfl hg _ (fun hf=>by simp only[aM.dQ,hx,hy,cb];exact⟨kx hf,ky hf,trivial,(hb hf).1,(hb hf).2⟩) (fun hf=>by simp only[aM.val,hx,hy]<;>rfl) (fun ha=>h)
def Vm {x y:Src}{fx fy:Bool}{l k i0 n:Nat}{i:Int}{kk:IntKind}(h:aK Y draw r env (⟨f,.ptr l k (i0+i.toNat) 0⟩::rs) nx m K)(hg:GF rs g f:=by exact c7)(hx:cx env rs x=⟨fx,.own l k i0 n⟩:=by exact rfl)(hy:cx env rs y=⟨fy,.int kk i⟩:=by exact rfl)(kx:f=true->fx=true:=by exact b6)(ky:f=true->fy=true:=by exact b6)(hb:f=true->0<=i/\i<(n:Nat):=by exact HB):aK Y draw (⟨.ia k x y,g⟩::r) env rs nx m K:=
 bO rfl hg _ (fun hf=>by simp only[aM.dQ,hx,hy,cb];exact⟨kx hf,ky hf,trivial,(hb hf).1,(hb hf).2⟩) (fun hf=>by simp only[aM.val,hx,hy]<;>rfl) (fun ha=>h)
def Vn {x y:Src}{fx fy:Bool}{s:List UInt8}{i:Int}{kk:IntKind}(h:aK Y draw r env (⟨f,.int .u8 (at8 s i.toNat)⟩::rs) nx m K)(hg:GF rs g f:=by exact c7)(hx:cx env rs x=⟨fx,.str s⟩:=by exact rfl)(hy:cx env rs y=⟨fy,.int kk i⟩:=by exact rfl)(kx:f=true->fx=true:=by exact b6)(ky:f=true->fy=true:=by exact b6)(hb:f=true->0<=i/\i<(s.length:Nat):=by exact HB):aK Y draw (⟨.ixS x y,g⟩::r) env rs nx m K:=
 bO rfl hg _ (fun hf=>by simp only[aM.dQ,hx,hy,cb];exact⟨kx hf,ky hf,(hb hf).1,(hb hf).2⟩) (fun hf=>by simp only[aM.val,hx,hy]<;>rfl) (fun ha=>h)
def jj {x y:Src}{fx fy:Bool}{s:List UInt8}{k2:IntKind}{a:Int}(i:Nat)(h:aK Y draw r env (⟨f,.str (s.drop i)⟩::rs) nx m K)(hg:GF rs g f:=by exact c7)(hx:cx env rs x=⟨fx,.str s⟩:=by exact rfl)(hy:cx env rs y=⟨fy,.int k2 a⟩:=by exact rfl)(kx:f=true->fx=true:=by exact b6)(ky:f=true->fy=true:=by exact b6)(hi:f=true->a=(i:Int):=by exact wI)(hb:f=true->i<=s.length:=by exact tZ):aK Y draw (⟨.slS x (some y) none,g⟩::r) env rs nx m K:=
 bO rfl hg _ (fun hf=>by simp only[aM.dQ,MQ,dO,hx,hy];have:=hb hf;have:=hi hf;refine⟨kx hf,ky hf,trivial, ?_⟩;simp only[oL,eC,dS,dT,Int.ofNat_eq_natCast];omega) (fun hf=>by simp only[aM.val,dO,eC,hx,hy];rw[hi hf];simp) (fun ha=>h)
def En {x y:Src}{fx fy:Bool}{α:Type}{k:Nat}{q:α->D}{s:List α}{k2:IntKind}{a:Int}(i:Nat)(h:aK Y draw r env (⟨f,.sl k ((s.drop i).map q)⟩::rs) nx m K)(hg:GF rs g f:=by exact c7)(hx:cx env rs x=⟨fx,.sl k (s.map q)⟩:=by exact rfl)(hy:cx env rs y=⟨fy,.int k2 a⟩:=by exact rfl)(kx:f=true->fx=true:=by exact b6)(ky:f=true->fy=true:=by exact b6)(hi:f=true->a=(i:Int):=by exact wI)(hb:f=true->i<=s.length:=by exact tZ):aK Y draw (⟨.slA k x (some y) none,g⟩::r) env rs nx m K:=
 bO rfl hg _ (fun hf=>by simp only[aM.dQ,MQ,dO,hx,hy,cb];have:=hb hf;have:=hi hf;refine⟨kx hf,ky hf,trivial,trivial, ?_⟩;simp only[oL,eC,dS,dT,Int.ofNat_eq_natCast];omega) (fun hf=>by simp only[aM.val,dO,eC,hx,hy];rw[hi hf];first|(simp only[List.take_length,Int.toNat_natCast,List.map_drop];done)|simp[List.map_drop,List.map_take]) (fun ha=>h)
def oC {x z:Src}{fx fz:Bool}{s:List UInt8}{k3:IntKind}{c:Int}(j:Nat)(h:aK Y draw r env (⟨f,.str (s.take j)⟩::rs) nx m K)(hg:GF rs g f:=by exact c7)(hx:cx env rs x=⟨fx,.str s⟩:=by exact rfl)(hz:cx env rs z=⟨fz,.int k3 c⟩:=by exact rfl)(kx:f=true->fx=true:=by exact b6)(kz:f=true->fz=true:=by exact b6)(hj:f=true->c=(j:Int):=by exact wI)(hb:f=true->j<=s.length:=by exact tZ):aK Y draw (⟨.slS x none (some z),g⟩::r) env rs nx m K:=
 bO rfl hg _ (fun hf=>by simp only[aM.dQ,MQ,dO,hx,hz];have:=hb hf;have:=hj hf;refine⟨kx hf,trivial,kz hf, ?_⟩;simp only[oL,eC,dS,dT,Int.ofNat_eq_natCast];omega) (fun hf=>by simp only[aM.val,dO,eC,hx,hz];rw[hj hf];simp) (fun ha=>h)
def tN {x z:Src}{fx fz:Bool}{α:Type}{k:Nat}{q:α->D}{s:List α}{k3:IntKind}{c:Int}(j:Nat)(h:aK Y draw r env (⟨f,.sl k ((s.take j).map q)⟩::rs) nx m K)(hg:GF rs g f:=by exact c7)(hx:cx env rs x=⟨fx,.sl k (s.map q)⟩:=by exact rfl)(hz:cx env rs z=⟨fz,.int k3 c⟩:=by exact rfl)(kx:f=true->fx=true:=by exact b6)(kz:f=true->fz=true:=by exact b6)(hj:f=true->c=(j:Int):=by exact wI)(hb:f=true->j<=s.length:=by exact tZ):aK Y draw (⟨.slA k x none (some z),g⟩::r) env rs nx m K:=
 bO rfl hg _ (fun hf=>by simp only[aM.dQ,MQ,dO,hx,hz,cb];have:=hb hf;have:=hj hf;refine⟨kx hf,trivial,kz hf,trivial, ?_⟩;simp only[oL,eC,dS,dT,Int.ofNat_eq_natCast];omega) (fun hf=>by simp only[aM.val,dO,eC,hx,hz];rw[hj hf];first|(simp only[List.take_length,Int.toNat_natCast,List.map_drop];done)|simp[List.map_drop,List.map_take]) (fun ha=>h)
def tO {x z:Src}{fx fz:Bool}{l k i0 n:Nat}{k3:IntKind}{c:Int}(j:Nat)(h:aK Y draw r env (⟨f,.own l k i0 j⟩::rs) nx m K)(hg:GF rs g f:=by exact c7)(hx:cx env rs x=⟨fx,.own l k i0 n⟩:=by exact rfl)(hz:cx env rs z=⟨fz,.int k3 c⟩:=by exact rfl)(kx:f=true->fx=true:=by exact b6)(kz:f=true->fz=true:=by exact b6)(hj:f=true->c=(j:Int):=by exact wI)(hb:f=true->j<=n:=by exact tZ):aK Y draw (⟨.slA k x none (some z),g⟩::r) env rs nx m K:=
 bO rfl hg _ (fun hf=>by simp only[aM.dQ,MQ,dO,hx,hz];have:=hb hf;have:=hj hf;refine⟨kx hf,trivial,kz hf,trivial, ?_⟩;simp only[oL,eC,dS,dT,Int.ofNat_eq_natCast];omega) (fun hf=>by simp only[aM.val,dO,eC,hx,hz];rw[hj hf];simp) (fun ha=>h)
def tP {x y z:Src}{fx fy fz:Bool}{s:List UInt8}{k2:IntKind}{a:Int}(i:Nat){k3:IntKind}{c:Int}(j:Nat)(h:aK Y draw r env (⟨f,.str ((s.take j).drop i)⟩::rs) nx m K)(hg:GF rs g f:=by exact c7)(hx:cx env rs x=⟨fx,.str s⟩:=by exact rfl)(hy:cx env rs y=⟨fy,.int k2 a⟩:=by exact rfl)(hz:cx env rs z=⟨fz,.int k3 c⟩:=by exact rfl)(kx:f=true->fx=true:=by exact b6)(ky:f=true->fy=true:=by exact b6)(kz:f=true->fz=true:=by exact b6)(hi:f=true->a=(i:Int):=by exact wI)(hj:f=true->c=(j:Int):=by exact wI)(hb:f=true->i<=j/\j<=s.length:=by exact HB):aK Y draw (⟨.slS x (some y) (some z),g⟩::r) env rs nx m K:=
 bO rfl hg _ (fun hf=>by simp only[aM.dQ,MQ,dO,hx,hy,hz];have:=hb hf;have:=hi hf;have:=hj hf;refine⟨kx hf,ky hf,kz hf, ?_⟩;simp only[oL,eC,dS,dT,Int.ofNat_eq_natCast];omega) (fun hf=>by simp only[aM.val,dO,eC,hx,hy,hz];rw[hi hf,hj hf];simp) (fun ha=>h)
def kG {x:Src}{fx:Bool}{i:Nat}{ds:List D}(v:D)(h:aK Y draw r env (⟨f,v⟩::rs) nx m K)(hg:GF rs g f:=by exact c7)(hx:cx env rs x=⟨fx,.tup ds⟩:=by exact rfl)(kx:f=true->fx=true:=by exact b6)(hv:f=true->ds.getD i .any=v:=by exact fun _=>rfl)(hb:f=true->i<ds.length:=by intro _;simp only[az,aC];omega):aK Y draw (⟨.ext x i,g⟩::r) env rs nx m K:=
 bO rfl hg _ (fun hf=>by simp only[aM.dQ,hx];exact⟨kx hf,hb hf⟩) (fun hf=>by simp only[aM.val,hx];exact hv hf) (fun ha=>h)
def cW {z:List D}{ps:List (Nat×Nat×Src)}(v:List D)(h:aK Y draw r env (⟨f,.agg v⟩::rs) nx m K)(hg:GF rs g f:=by exact c7)(hv:f=true->yp (cx env rs) z ps=v:=by exact fun _=>rfl)(ho:f=true->AG (cx env rs) z.length ps:=by exact wJ):aK Y draw (⟨.build z ps,g⟩::r) env rs nx m K:=
 bO rfl hg _ (fun hf=>ho hf) (fun hf=>by simp only[aM.val];rw[hv hf]) (fun _=>h)
def bI {z:List D}{ps:List (Nat×Nat×Src)}(d:D)(h:aK Y draw r env (⟨f,d⟩::rs) nx m K)(hg:GF rs g f:=by exact c7)(hv:f=true->D.agg (yp (cx env rs) z ps)=d:=by exact fun _=>rfl)(ho:f=true->AG (cx env rs) z.length ps:=by exact wJ):aK Y draw (⟨.build z ps,g⟩::r) env rs nx m K:=
 bO rfl hg _ (fun hf=>ho hf) (fun hf=>by simp only[aM.val];exact hv hf) (fun _=>h)
def US {e:D}{n o:Nat}{ag:Bool}(h:e.isAgg=ag):nU e n n o ag=e:=by simp[nU,h]
def cH {x:Src}{fx:Bool}{n l:Nat}{ag:Bool}{d:D}(h:aK Y draw r env (⟨f,d⟩::rs) nx m K)(hg:GF rs g f:=by exact c7)(hx:cx env rs x=⟨fx,.ptr l n 0 0⟩:=by exact rfl)(kx:f=true->fx=true:=by exact b6)(hl:f=true->look m l=some (.buf n [d]):=by exact fun _=>rfl)(ha:f=true->d.isAgg=ag:=by exact fun _=>rfl):aK Y draw (⟨.ld n ag x,g⟩::r) env rs nx m K:=
 iH rfl hg _ (fun hf=>by simp only[aM.dQ,hx,GA,fS,hl hf];exact⟨kx hf,⟨trivial,aQ⟩,ae⟩) (fun hf=>by simp only[aM.val,hx,FH,bj,hl hf,lX];exact US (ha hf)) m rfl (fun ha=>h)
def bD {x:Src}{fx:Bool}{n l k o:Nat}{ag:Bool}{d:D}(v:D)(h:aK Y draw r env (⟨f,v⟩::rs) nx m K)(hg:GF rs g f:=by exact c7)(hx:cx env rs x=⟨fx,.ptr l k 0 o⟩:=by exact rfl)(kx:f=true->fx=true:=by exact b6)(hl:f=true->look m l=some (.buf k [d]):=by exact fun _=>rfl)(hv:f=true->nU d k n o ag=v:=by exact fun _=>rfl)(ho:o+n<=k:=by omega):aK Y draw (⟨.ld n ag x,g⟩::r) env rs nx m K:=
 iH rfl hg _ (fun hf=>by simp only[aM.dQ,hx,GA,fS,hl hf];exact⟨kx hf,⟨trivial,aQ⟩,ho⟩) (fun hf=>by simp only[aM.val,hx,FH,bj,hl hf,lX];exact hv hf) m rfl (fun ha=>h)
def IH {x:Src}{fx:Bool}{n l k i o:Nat}{ag:Bool}{es:List D}(v:D)(h:aK Y draw r env (⟨f,v⟩::rs) nx m K)(hg:GF rs g f:=by exact c7)(hx:cx env rs x=⟨fx,.ptr l k i o⟩:=by exact rfl)(kx:f=true->fx=true:=by exact b6)(hl:f=true->look m l=some (.buf k es):=by exact fun _=>rfl)(hi:f=true->i<es.length)(hv:f=true->nU (es.getD i .any) k n o ag=v)(ho:o+n<=k:=by omega):aK Y draw (⟨.ld n ag x,g⟩::r) env rs nx m K:=
 iH rfl hg _ (fun hf=>by simp only[aM.dQ,hx,GA,fS,hl hf];exact⟨kx hf,⟨trivial,by have:=hi hf;omega⟩,ho⟩) (fun hf=>by simp only[aM.val,hx,FH,bj,hl hf];exact hv hf) m rfl (fun ha=>h)
def nG {x:Src}{fx:Bool}{α:Type} [Inhabited α]{n l k i o:Nat}{ag:Bool}{q:α->D}{xs:List α}(v:D)(h:aK Y draw r env (⟨f,v⟩::rs) nx m K)(hg:GF rs g f:=by exact c7)(hx:cx env rs x=⟨fx,.ptr l k i o⟩:=by exact rfl)(kx:f=true->fx=true:=by exact b6)(hl:f=true->look m l=some (.buf k (xs.map q)):=by exact fun _=>rfl)(hi:f=true->i<xs.length:=by exact tZ)(hv:f=true->nU (q xs[i]!) k n o ag=v:=by exact fun _=>rfl)(ho:o+n<=k:=by omega):aK Y draw (⟨.ld n ag x,g⟩::r) env rs nx m K:=
 iH rfl hg _ (fun hf=>by simp only[aM.dQ,hx,GA,fS,hl hf,cb];exact⟨kx hf,⟨trivial,by have:=hi hf;omega⟩,ho⟩) (fun hf=>by simp only[aM.val,hx,FH,bj,hl hf];rw[getD_map (hi hf)];exact hv hf) m rfl (fun ha=>h)
def cE {x:Src}{fx:Bool}{α:Type} [Inhabited α]{n k i o:Nat}{ag:Bool}{q:α->D}{xs:List α}(v:D)(h:aK Y draw r env (⟨f,v⟩::rs) nx m K)(hg:GF rs g f:=by exact c7)(hx:cx env rs x=⟨fx,.ref k (xs.map q) i o⟩:=by exact rfl)(kx:f=true->fx=true:=by exact b6)(hi:f=true->i<xs.length:=by exact tZ)(hv:f=true->nU (q xs[i]!) k n o ag=v:=by exact fun _=>rfl)(ho:o+n<=k:=by omega):aK Y draw (⟨.ld n ag x,g⟩::r) env rs nx m K:=
 iH rfl hg _ (fun hf=>by simp only[aM.dQ,hx,GA,cb];exact⟨kx hf,hi hf,ho⟩) (fun hf=>by simp only[aM.val,hx,FH];rw[getD_map (hi hf)];exact hv hf) m rfl (fun ha=>h)
def fe {x:Src}{fx:Bool}{n k i o:Nat}{ag:Bool}{es:List D}(v:D)(h:aK Y draw r env (⟨f,v⟩::rs) nx m K)(hg:GF rs g f:=by exact c7)(hx:cx env rs x=⟨fx,.ref k es i o⟩:=by exact rfl)(kx:f=true->fx=true:=by exact b6)(hi:f=true->i<es.length:=by intro _;simp only[az,aC];omega)(hv:f=true->nU (es.getD i .any) k n o ag=v:=by exact fun _=>rfl)(ho:o+n<=k:=by omega):aK Y draw (⟨.ld n ag x,g⟩::r) env rs nx m K:=
 iH rfl hg _ (fun hf=>by simp only[aM.dQ,hx,GA];exact⟨kx hf,hi hf,ho⟩) (fun hf=>by simp only[aM.val,hx,FH];exact hv hf) m rfl (fun ha=>h)
def Vo {x:Src}{fx:Bool}{n k i o:Nat}{ag:Bool}{es:List D}(v:D)(h:aK Y draw r env (⟨f,v⟩::rs) nx m K)(hg:GF rs g f:=by exact c7)(hx:cx env rs x=⟨fx,.ref k es i o⟩:=by exact rfl)(kx:f=true->fx=true:=by exact b6)(hi:f=true->i<es.length:=by intro _;simp only[az,aC];omega)(hv:f=true->nU (es.getD i .any) k n o ag=v:=by exact fun _=>rfl)(ho:o+n<=k:=by omega):aK Y draw (⟨.ldI n ag x,g⟩::r) env rs nx m K:=
 bO rfl hg _ (fun hf=>by simp only[aM.dQ,hx,GA];exact⟨kx hf,hi hf,ho⟩) (fun hf=>by simp only[aM.val,hx,FH];exact hv hf) (fun ha=>h)
def Zh {x:Src}{fx:Bool}{k:Nat}{d:D}{L:Nat}{m2:List (Nat×bG)}(h:aK Y draw r env (⟨f,.ptr L k 0 0⟩::rs) nx m2 K)(hg:GF rs g f:=by exact c7)(hx:cx env rs x=⟨fx,d⟩:=by exact rfl)(kx:f=true->fx=true:=by exact b6)(hc:d.cells.length=k:=by exact rfl)(hL:nx+rs.length=L:=by exact vz)(hm:dE m L (.buf k [d])=m2:=by simp only[dE,dy,Nat.reduceEqDiff,bo,br,Nat.reduceAdd,reduceCtorEq];exact rfl):aK Y draw (⟨.box k x,g⟩::r) env rs nx m K:=
 iH rfl hg _ (fun hf=>by simp only[aM.dQ,hx];exact⟨kx hf,hc⟩) (fun hf=>by simp only[aM.val,hx,hL]) _ (by simp only[aM.cJ,hx,hL];exact hm) (fun _=>h)
def Zm {L:Nat}{m2:List (Nat×bG)}(h:aK Y draw r env (⟨f,.ptr L 2 0 0⟩::rs) nx m2 K)(hg:GF rs g f:=by exact c7)(hL:nx+rs.length=L:=by exact vz)(hm:dE m L (.bld none 0 false)=m2:=by simp only[dE,dy,Nat.reduceEqDiff,bo,br,Nat.reduceAdd,reduceCtorEq];exact rfl):aK Y draw (⟨.mkB,g⟩::r) env rs nx m K:=
 iH rfl hg _ (fun _=>trivial) (fun hf=>by simp only[aM.val,hL]) _ (by simp only[aM.cJ,hL];exact hm) (fun _=>h)
def Zr {x:Src}{fx:Bool}{s:List UInt8}{L:Nat}{m2:List (Nat×bG)}(h:aK Y draw r env (⟨f,.own L 1 0 s.length⟩::rs) nx m2 K)(hg:GF rs g f:=by exact c7)(hx:cx env rs x=⟨fx,.str s⟩:=by exact rfl)(kx:f=true->fx=true:=by exact b6)(hL:nx+rs.length=L:=by exact vz)(hm:dE m L (.buf 1 (s.map fun b=>.int .u8 b.toNat))=m2:=by simp only[dE,dy,Nat.reduceEqDiff,bo,br,Nat.reduceAdd,reduceCtorEq];exact rfl):aK Y draw (⟨.s2b x,g⟩::r) env rs nx m K:=
 iH rfl hg _ (fun hf=>by simp only[aM.dQ,hx];exact⟨kx hf,trivial⟩) (fun hf=>by simp only[aM.val,hx,hL]) _ (by simp only[aM.cJ,hx,hL];exact hm) (fun _=>h)
def Zq {x:Src}{fx:Bool}{s:List UInt8}{L:Nat}{m2:List (Nat×bG)}(h:aK Y draw r env (⟨f,.it L⟩::rs) nx m2 K)(hg:GF rs g f:=by exact c7)(hx:cx env rs x=⟨fx,.str s⟩:=by exact rfl)(kx:f=true->fx=true:=by exact b6)(hL:nx+rs.length=L:=by exact vz)(hm:dE m L (.iter s 0)=m2:=by simp only[dE,dy,Nat.reduceEqDiff,bo,br,Nat.reduceAdd,reduceCtorEq];exact rfl):aK Y draw (⟨.sZ x,g⟩::r) env rs nx m K:=
 iH rfl hg _ (fun hf=>by simp only[aM.dQ,hx];exact⟨kx hf,trivial⟩) (fun hf=>by simp only[aM.val,hx,hL]) _ (by simp only[aM.cJ,hx,hL];exact hm) (fun _=>h)
def cS {k n:Nat}{z:D}{ps:List (Nat×Src)}{L:Nat}{m2:List (Nat×bG)}(es:List D)(h:aK Y draw r env (⟨f,.own L k 0 n⟩::rs) nx m2 K)(hg:GF rs g f:=by exact c7)(he:mc (cx env rs) (List.replicate n z) ps=es:=by exact rfl)(ho:f=true->si (cx env rs) k n ps:=by exact wJ)(hz:z.cells.length=k:=by exact rfl)(hL:nx+rs.length=L:=by exact vz)(hm:dE m L (.buf k es)=m2:=by simp only[dE,dy,Nat.reduceEqDiff,bo,br,Nat.reduceAdd,reduceCtorEq];exact rfl):aK Y draw (⟨.bsl k z n ps,g⟩::r) env rs nx m K:=
 iH rfl hg _ (fun hf=>⟨hz,ho hf⟩) (fun hf=>by simp only[aM.val,hL]) _ (by simp only[aM.cJ,he,hL];exact hm) (fun _=>h)
def S4 {k:Nat}{z:D}{x y:Src}{k1 k2:IntKind}{a c:Int}{L:Nat}{m2:List (Nat×bG)}(n:Nat)(h:aK Y draw r env (⟨true,.own L k 0 n⟩::rs) nx m2 K)(hx:cx env rs x=⟨true,.int k1 a⟩:=by exact rfl)(hy:cx env rs y=⟨true,.int k2 c⟩:=by exact rfl)(hn:a=(n:Int):=by first|exact rfl|omega)(hc:a<=c/\c<=1073741824:=by constructor<;>omega)(hz:z.cells.length=k:=by exact rfl)(hL:nx+rs.length=L:=by exact vz)(hm:dE m L (.buf k (List.replicate n z))=m2:=by simp only[dE,dy,Nat.reduceEqDiff,bo,br,Nat.reduceAdd,reduceCtorEq];exact rfl):aK Y draw (⟨.mks k z x y,none⟩::r) env rs nx m K:=
 sG rfl _ (by simp only[aM.dQ,hx,hy];exact⟨trivial,trivial,hz,ae,hc.1,hc.2⟩) (by simp only[aM.val,hx,hL,D.nat,hn];rfl) _ (by simp only[aM.cJ,hx,hL,D.nat,hn];exact hm) (fun _=>h)
def a7 {n l k o:Nat}{x y:Src}{d v:D}{m2:List (Nat×bG)}(e:D)(h:aK Y draw r env (⟨true,.any⟩::rs) nx m2 K)(hx:cx env rs x=⟨true,.ptr l k 0 o⟩:=by exact rfl)(hy:cx env rs y=⟨true,v⟩:=by exact rfl)(hl:look m l=some (.buf k [d]):=by exact rfl)(hc:v.cells.length=n:=by exact rfl)(he:qG d k n o v=e:=by exact rfl)(ho:o+n<=k:=by omega)(hm:dE m l (.buf k [e])=m2:=by simp only[dE,dy,Nat.reduceEqDiff,bo,br,Nat.reduceAdd,reduceCtorEq];exact rfl):aK Y draw (⟨.st n x y,none⟩::r) env rs nx m K:=
 sG rfl _ (by simp only[aM.dQ,hx,hy,fS,hl];exact⟨trivial,trivial,hc,⟨trivial,aQ⟩,ho⟩) rfl _ (by simp only[aM.cJ,hx,hy,bj,hl,lX,List.set_cons_zero,he];exact hm) (fun _=>h)
def tQ {n l k i o:Nat}{x y:Src}{v:D}{es:List D}{m2:List (Nat×bG)}(es2:List D)(h:aK Y draw r env (⟨true,.any⟩::rs) nx m2 K)(hx:cx env rs x=⟨true,.ptr l k i o⟩:=by exact rfl)(hy:cx env rs y=⟨true,v⟩:=by exact rfl)(hl:look m l=some (.buf k es):=by exact rfl)(hi:i<es.length)(hc:v.cells.length=n:=by exact rfl)(he:es.set i (qG (es.getD i .any) k n o v)=es2)(ho:o+n<=k:=by omega)(hm:dE m l (.buf k es2)=m2:=by simp only[dE,dy,Nat.reduceEqDiff,bo,br,Nat.reduceAdd,reduceCtorEq];exact rfl):aK Y draw (⟨.st n x y,none⟩::r) env rs nx m K:=
 sG rfl _ (by simp only[aM.dQ,hx,hy,fS,hl];exact⟨trivial,trivial,hc,⟨trivial,ae⟩,ho⟩) rfl _ (by simp only[aM.cJ,hx,hy,bj,hl,he];exact hm) (fun _=>h)
def pJ (m:List (Nat×bG))(k:Nat)(d:D)(ys:List D):Prop:=BZ m k d/\pE m d=ys
def pJ.sl {k:Nat}{es:List D}:pJ m k (.sl k es) es:=⟨rfl,rfl⟩
def pJ.aA {k:Nat}:pJ m k .aA []:=⟨trivial,rfl⟩
def pJ.own {l k i n:Nat}{es:List D}(hl:look m l=some (.buf k es))(hb:i+n<=es.length):pJ m k (.own l k i n) ((es.drop i).take n):=⟨⟨rfl,by simp only[fS,hl];exact⟨trivial,hb⟩⟩,by simp only[pE,bj,hl]⟩
def pJ.all {l k n:Nat}{es:List D}(hl:look m l=some (.buf k es))(hb:n=es.length):pJ m k (.own l k 0 n) es:=by
 have:=pJ.own (i:=0) (n:=n) hl ae;simpa[hb]using this
def pJ.str {s:List UInt8}:pJ m 1 (.str s) (s.map fun b=>.int .u8 b.toNat):=⟨rfl,rfl⟩
def Vf {k n:Nat}{x y:Src}{d:D}{ys:List D}{L:Nat}{m2:List (Nat×bG)}(h:aK Y draw r env (⟨true,.own L k 0 n⟩::rs) nx m2 K)(hx:cx env rs x=⟨true,.aA⟩:=by exact rfl)(hy:cx env rs y=⟨true,d⟩:=by exact rfl)(he:pJ m k d ys)(hn:ys.length=n)(hb:n<=1073741824:=by omega)(hL:nx+rs.length=L:=by exact vz)(hm:dE m L (.buf k ys)=m2:=by simp only[dE,dy,Nat.reduceEqDiff,bo,br,Nat.reduceAdd,reduceCtorEq];exact rfl):aK Y draw (⟨.app k x y,none⟩::r) env rs nx m K:=
 sG rfl _ (by simp only[aM.dQ,hx,hy,he.2,hn];exact⟨trivial,trivial,he.1,hb⟩) (by simp only[aM.val,hx,hy,he.2,hn,hL]) _ (by simp only[aM.cJ,hx,hy,he.2,hL];exact hm) (fun _=>h)
def IC {k n:Nat}{y:Src}{fy:Bool}{d:D}{ys:List D}{L:Nat}{m2:List (Nat×bG)}(h:aK Y draw r env (⟨f,.own L k 0 n⟩::rs) nx m2 K)(hg:GF rs g f:=by exact c7)(hy:cx env rs y=⟨fy,d⟩:=by exact rfl)(ky:f=true->fy=true:=by exact b6)(he:pJ m k d ys)(hn:ys.length=n)(hb:n<=1073741824:=by omega)(hL:nx+rs.length=L:=by exact vz)(hm:dE m L (.buf k ys)=m2:=by simp only[dE,dy,Nat.reduceEqDiff,bo,br,Nat.reduceAdd,reduceCtorEq];exact rfl):aK Y draw (⟨.appN k y,g⟩::r) env rs nx m K:=
 iH rfl hg _ (fun hf=>by simp only[aM.dQ,hy,he.2,hn];exact⟨ky hf,he.1,hb⟩) (fun hf=>by simp only[aM.val,hy,he.2,hn,hL]) _ (by simp only[aM.cJ,hy,he.2,hL];exact hm) (fun _=>h)
def qu {k l i a n:Nat}{x y:Src}{d:D}{xs ys:List D}{L:Nat}{m2:List (Nat×bG)}(zs:List D)(h:aK Y draw r env (⟨true,.own L k 0 n⟩::rs) nx m2 K)(hx:cx env rs x=⟨true,.own l k i a⟩:=by exact rfl)(hy:cx env rs y=⟨true,d⟩:=by exact rfl)(hl:look m l=some (.buf k xs):=by exact rfl)(ha:i+a<=xs.length)(he:pJ m k d ys)(hz:(xs.drop i).take a++ys=zs)(hn:a+ys.length=n)(hb:n<=1073741824:=by omega)(hL:nx+rs.length=L:=by exact vz)(hm:dE (dy m l) L (.buf k zs)=m2:=by simp only[dE,dy,Nat.reduceEqDiff,bo,br,Nat.reduceAdd,reduceCtorEq];exact rfl):aK Y draw (⟨.app k x y,none⟩::r) env rs nx m K:=
 sG rfl _ (by simp only[aM.dQ,hx,hy,he.2,fS,hl,hn];exact⟨trivial,trivial,he.1,trivial,⟨trivial,ha⟩,hb⟩) (by simp only[aM.val,hx,hy,he.2,hn,hL]) _ (by simp only[aM.cJ,hx,hy,he.2,bj,hl,hz,hL];exact hm) (fun _=>h)
def nb {α:Type}{q:α->D}{xs:List α}{e:α}{k l ly:Nat}{x y:Src}{L:Nat}{m2:List (Nat×bG)}(h:aK Y draw r env (⟨true,.own L k 0 (xs++[e]).length⟩::rs) nx m2 K)(hx:cx env rs x=⟨true,.own l k 0 xs.length⟩:=by exact rfl)(hy:cx env rs y=⟨true,.own ly k 0 1⟩:=by exact rfl)(hl:look m l=some (.buf k (xs.map q)):=by exact rfl)(he:look m ly=some (.buf k [q e]):=by exact rfl)(hb:xs.length+1<=1073741824:=by omega)(hL:nx+rs.length=L:=by exact vz)(hm:dE (dy m l) L (.buf k ((xs++[e]).map q))=m2:=by simp only[dE,dy,Nat.reduceEqDiff,bo,br,Nat.reduceAdd,reduceCtorEq];exact rfl):aK Y draw (⟨.app k x y,none⟩::r) env rs nx m K:=
 qu (zs:=(xs++[e]).map q) (hx:=hx) (hy:=hy) (hl:=hl) (ha:=aQ) (he:=pJ.all (es:=[q e]) he rfl) (hz:=by rw[de,dM aQ];simp) (hn:=aQ) (hb:=cA) (hL:=hL) (hm:=hm) (h:=h)
def Po {α:Type}{q:α->D}{xs ys:List α}{k l:Nat}{x y:Src}{d:D}{L:Nat}{m2:List (Nat×bG)}(h:aK Y draw r env (⟨true,.own L k 0 (xs++ys).length⟩::rs) nx m2 K)(hx:cx env rs x=⟨true,.own l k 0 xs.length⟩:=by exact rfl)(hy:cx env rs y=⟨true,d⟩:=by exact rfl)(hl:look m l=some (.buf k (xs.map q)):=by exact rfl)(he:pJ m k d (ys.map q))(hb:xs.length+ys.length<=1073741824:=by omega)(hL:nx+rs.length=L:=by exact vz)(hm:dE (dy m l) L (.buf k ((xs++ys).map q))=m2:=by simp only[dE,dy,Nat.reduceEqDiff,bo,br,Nat.reduceAdd,reduceCtorEq];exact rfl):aK Y draw (⟨.app k x y,none⟩::r) env rs nx m K:=
 qu (zs:=(xs++ys).map q) (hx:=hx) (hy:=hy) (hl:=hl) (ha:=aQ) (he:=he) (hz:=by rw[de,dM aQ];simp) (hn:=aQ) (hb:=cA) (hL:=hL) (hm:=hm) (h:=h)
def ID {x:Src}{fx:Bool}{d:D}{ys:List D}(s:List UInt8)(h:aK Y draw r env (⟨f,.str s⟩::rs) nx m K)(hg:GF rs g f:=by exact c7)(hx:cx env rs x=⟨fx,d⟩:=by exact rfl)(kx:f=true->fx=true:=by exact b6)(he:f=true->pJ m 1 d ys)(hs:f=true->ys=s.map fun b=>.int .u8 b.toNat)(hd:d.UP=false:=by exact rfl):aK Y draw (⟨.b2s x,g⟩::r) env rs nx m K:=
 iH rfl hg _ (fun hf=>by
  simp only[aM.dQ,hx,(he hf).2,hs hf];refine⟨kx hf,(by cases d<;>first|trivial|(cases hd)),(he hf).1,fun e hm=>?_⟩;obtain⟨b,_,rfl⟩:=dN.1 hm;have:=b.toNat_lt;exact⟨rfl,ae,ae⟩) (fun hf=>by simp only[aM.val,hx,(he hf).2,hs hf];rw[QN]) m rfl (fun _=>h)
def Cy {x:Src}{l pos:Nat}{s:List UInt8}{m2:List (Nat×bG)}(c w:Nat)(h:aK Y draw r env (⟨true,.tup [.bool true,.int .i64 pos,.int .i32 c]⟩::rs) nx m2 K)(hx:cx env rs x=⟨true,.it l⟩:=by exact rfl)(hl:look m l=some (.iter s pos):=by exact rfl)(hp:pos<s.length)(hc:um s pos=(c,w))(hm:dE m l (.iter s (pos+w))=m2:=by simp only[dE,dy,Nat.reduceEqDiff,bo,br,Nat.reduceAdd,reduceCtorEq];exact rfl):aK Y draw (⟨.zP x,none⟩::r) env rs nx m K:=
 sG rfl _ (by simp only[aM.dQ,hx,hl];exact⟨trivial,trivial⟩) (by simp only[aM.val,hx,hl,hc,hp,decide_true,cond_true]) _ (by simp only[aM.cJ,hx,hl,hc,hp,decide_true,cond_true];exact hm) (fun _=>h)
def Cx {x:Src}{l pos:Nat}{s:List UInt8}(h:aK Y draw r env (⟨true,.tup [.bool false]⟩::rs) nx m K)(hx:cx env rs x=⟨true,.it l⟩:=by exact rfl)(hl:look m l=some (.iter s pos):=by exact rfl)(hp:¬pos<s.length):aK Y draw (⟨.zP x,none⟩::r) env rs nx m K:=
 sG rfl _ (by simp only[aM.dQ,hx,hl];exact⟨trivial,trivial⟩) (by simp only[aM.val,hx,hl,hp,decide_false,cond_false]) _ (by simp only[aM.cJ,hx,hl,hp,decide_false,cond_false]) (fun _=>h)
def aj {n:Nat}{args:List Src}{sh:List (List Sh)}{ai9:List D}{v:D}(h:aK Y draw r env (⟨f,v⟩::rs) nx m K)(hg:GF rs g f:=by exact c7)(hc:Y.pre n ai9/\Y.val n ai9=v)(ha:f=true->nX m sh (iL (cx env rs) args)=ai9:=by exact fun _=>rfl)(ho:f=true->wD (cx env rs) args:=by exact wJ)(hp:f=true->j5 m sh (iL (cx env rs) args):=by exact wJ)(hk:f=true->sb (iL (cx env rs) args) v=true:=by exact fun _=>rfl):aK Y draw (⟨.call n args sh,g⟩::r) env rs nx m K:=
 iH rfl hg _ (fun hf=>by simp only[aM.dQ,(eA _ _ _).1,ha hf,hc.2];exact⟨ho hf,(eA _ _ _).2.2 (hp hf),hc.1,hk hf⟩) (fun hf=>by simp only[aM.val,(eA _ _ _).1,ha hf,hc.2]) m rfl (fun _=>h)
def df {n:Nat}{args:List Src}{sh:List (List Sh)}{ai9:List D}{v:D}(h:aK Y draw r env (⟨f,v⟩::rs) nx m K)(hg:GF rs g f:=by exact c7)(hc:f=true->Y.pre n ai9/\Y.val n ai9=v)(ha:f=true->nX m sh (iL (cx env rs) args)=ai9:=by exact fun _=>rfl)(ho:f=true->wD (cx env rs) args:=by exact wJ)(hp:f=true->j5 m sh (iL (cx env rs) args):=by exact wJ)(hk:f=true->sb (iL (cx env rs) args) v=true:=by exact fun _=>rfl):aK Y draw (⟨.call n args sh,g⟩::r) env rs nx m K:=
 iH rfl hg _ (fun hf=>by simp only[aM.dQ,(eA _ _ _).1,ha hf,(hc hf).2];exact⟨ho hf,(eA _ _ _).2.2 (hp hf),(hc hf).1,hk hf⟩) (fun hf=>by simp only[aM.val,(eA _ _ _).1,ha hf,(hc hf).2]) m rfl (fun _=>h)
def RU {n:Nat}{x:Src}{fx:Bool}{caps:List D}{args:List Src}{sh:List (List Sh)}{ai9:List D}{v:D}(h:aK Y draw r env (⟨f,v⟩::rs) nx m K)(hg:GF rs g f:=by exact c7)(hx:cx env rs x=⟨fx,.fn n caps⟩:=by exact rfl)(kx:f=true->fx=true:=by exact b6)(hb:n<1000000:=by decide)(hc:f=true->Y.pre n ai9/\Y.val n ai9=v)(ha:f=true->nX m sh (iL (cx env rs) args++caps)=ai9:=by exact fun _=>rfl)(ho:f=true->wD (cx env rs) args:=by exact wJ)(hp:f=true->j5 m sh (iL (cx env rs) args++caps):=by exact wJ)(hk:f=true->sb (iL (cx env rs) args++caps) v=true:=by exact fun _=>rfl):aK Y draw (⟨.callv x args sh,g⟩::r) env rs nx m K:=
 iH rfl hg _ (fun hf=>by simp only[aM.dQ,hx,(eA _ _ _).1,ha hf,(hc hf).2];exact⟨kx hf,ho hf,hb,(eA _ _ _).2.2 (hp hf),(hc hf).1,hk hf⟩) (fun hf=>by simp only[aM.val,hx,(eA _ _ _).1,ha hf,(hc hf).2]) m rfl (fun _=>h)
def Zn {n:Nat}{caps:List Src}(cs:List D)(h:aK Y draw r env (⟨f,.fn n cs⟩::rs) nx m K)(hg:GF rs g f:=by exact c7)(hc:f=true->iL (cx env rs) caps=cs:=by exact fun _=>rfl)(ho:f=true->wD (cx env rs) caps:=by exact wJ):aK Y draw (⟨.mkf n caps,g⟩::r) env rs nx m K:=
 bO rfl hg _ (fun hf=>ho hf) (fun hf=>by simp only[aM.val,hc hf]) (fun _=>h)
end
end
end Go.Abs
section
namespace Go.Abs
abbrev au:=List UInt8
structure c9 where
 major:Int
 minor:Int
 patch:Int
 pre:au
 build:au
 deriving Inhabited,DecidableEq
def c9.D (v:c9):D:=.agg [.int .i64 v.major,.int .i64 v.minor,.int .i64 v.patch,.str v.pre,.str v.build]
structure wK where
 name:au
 v:c9
 shelf:au
 sum:Int
 feats:List au
 deriving Inhabited,DecidableEq
def wK.D (x:wK):D:=.agg [.str x.name,.int .i64 x.v.major,.int .i64 x.v.minor,.int .i64 x.v.patch,.str x.v.pre,.str x.v.build,.str x.shelf,.int .u64 x.sum,.sl 1 (x.feats.map D.str)]
structure Env where
 e0:au
 e1:au
 e2:au
 deriving Inhabited,DecidableEq
def Env.D (e:Env):D:=.agg [.str e.e0,.str e.e1,.str e.e2]
structure C4 where
 env:Env
 lines:List wK
 deriving Inhabited,DecidableEq
def C4.D (l:C4):D:=.agg [.str l.env.e0,.str l.env.e1,.str l.env.e2,.sl 9 (l.lines.map wK.D)]
end Go.Abs
namespace Go.Abs
theorem tv (a b:List UInt8):UC (.str a) (.str b)=decide (a=b):=oK a b
theorem wP (k k2:IntKind)(a b:Int):UC (.int k a) (.int k2 b)=decide (a=b):=rfl
def c9.eq (a b:c9):iC (c9.D a).cells (c9.D b).cells=decide (a=b):=by
 obtain⟨a1,a2,a3,a4,a5⟩:=a;obtain⟨b1,b2,b3,b4,b5⟩:=b
 grind [c9.D,D.cells,iC,tv,wP]
def Env.eq (a b:Env):iC (Env.D a).cells (Env.D b).cells=decide (a=b):=by
 obtain⟨a1,a2,a3⟩:=a;obtain⟨b1,b2,b3⟩:=b
 grind [Env.D,D.cells,iC,tv,wP]
theorem c9.inj {a b:c9}(h:c9.D a=c9.D b):a=b:=by
 obtain⟨a1,a2,a3,a4,a5⟩:=a;obtain⟨b1,b2,b3,b4,b5⟩:=b
 grind [c9.D]
theorem Env.inj {a b:Env}(h:Env.D a=Env.D b):a=b:=by
 obtain⟨a1,a2,a3⟩:=a;obtain⟨b1,b2,b3⟩:=b
 grind [Env.D]
theorem map_inj {α:Type}{q:α->D}(hq:∀a b,q a=q b->a=b):∀{xs ys:List α},xs.map q=ys.map q->xs=ys
 |[],[],_=>rfl
 |[],_::_,h=>by simp at h
 |_::_,[],h=>by simp at h
 |a::r,b::s,h=>by
  simp only[List.map_cons,vA]at h;rw[hq a b h.1,map_inj hq h.2]
theorem str_inj (a b:List UInt8)(h:D.str a=D.str b):a=b:=by simpa using h
theorem wK.inj {a b:wK}(h:wK.D a=wK.D b):a=b:=by
 obtain⟨a1,⟨v1,v2,v3,v4,v5⟩,a2,a3,a4⟩:=a;obtain⟨b1,⟨w1,w2,w3,w4,w5⟩,b2,b3,b4⟩:=b
 grind [wK.D,map_inj,str_inj]
theorem C4.inj {a b:C4}(h:C4.D a=C4.D b):a=b:=by
 obtain⟨⟨a1,a2,a3⟩,a4⟩:=a;obtain⟨⟨b1,b2,b3⟩,b4⟩:=b
 grind [C4.D,map_inj,wK.inj]
end Go.Abs
end
section
namespace Go.Abs
def allI (p:Nat->Bool):Nat->Nat->Bool
 |_,0=>true
 |i,k+1=>p i&&allI p (i+1) k
def cI (p:Nat->Bool)(i n:Nat):Bool:=allI p i (n-i)
theorem aR {p:Nat->Bool}{i n:Nat}(h:i<n):cI p i n=(p i&&cI p (i+1) n):=by
 unfold cI;rw[show n-i=(n-(i+1))+1 by omega];rfl
def ch {p:Nat->Bool}{i n:Nat}(h:n<=i):cI p i n=true:=by
 unfold cI;rw[show n-i=0 by omega];rfl
theorem Dm {p:Nat->Bool}:∀{k i:Nat},allI p i k=true↔∀j,i<=j->j<i+k->p j=true
 |0,i=>by simp[allI];intro j h1 h2;omega
 |k+1,i=>by
  simp only[allI,bp,Dm (k:=k)]
  grind
theorem eo {p:Nat->Bool}{i n:Nat}:cI p i n=true↔∀j,i<=j->j<n->p j=true:=by
 grind [cI,Dm]
end Go.Abs
namespace Go.Abs
def aN {a a' b b':D}(h1:a=a')(h2:b=b'):D.tup [a,b]=D.tup [a',b']:=by rw[h1,h2]
def gW {a a' b b' c c':D}(h1:a=a')(h2:b=b')(h3:c=c'):D.tup [a,b,c]=D.tup [a',b',c']:=by rw[h1,h2,h3]
end Go.Abs
namespace Go.Abs
def ld8 (s:au)(i:Nat):nU (D.int .u8 (s[i]!).toNat) 1 1 0 false=.int .u8 (at8 s i):=by
 simp only[nU,D.isAgg,at8];simp;rfl
end Go.Abs
namespace Go.Abs
def tq (s:au)(pos:Nat)(h:pos<s.length):∃c w,um s pos=(c,w)/\1<=w/\((w=1/\(c:Int)=at8 s pos/\c<128)\/(128<=c/\128<=at8 s pos)):=by
 refine⟨(um s pos).1,(um s pos).2,rfl, ?_⟩;have e:um s pos=Lib.decodeN (s.length-pos) (s.getD pos 0).toNat (s.getD (pos+1) 0).toNat (s.getD (pos+2) 0).toNat (s.getD (pos+3) 0).toNat:=Lib.decode_N ⟨⟨s⟩⟩ pos;rw[e];unfold at8;generalize (s.getD pos 0).toNat=b0;generalize (s.getD (pos+1) 0).toNat=b1;generalize (s.getD (pos+2) 0).toNat=b2;generalize (s.getD (pos+3) 0).toNat=b3;generalize s.length-pos=n;by_cases hb:b0<128
 .unfold Lib.decodeN;rw[ax hb];exact⟨aS _,.inl ⟨rfl,rfl,hb⟩⟩
 .unfold Lib.decodeN
  grind
end Go.Abs
namespace Go.Abs
def nL {α:Type}{q:α->D}{xs:List α}{m:List (Nat×bG)}{l:Nat}(hq:∀x,xV m [.a] (q x)=q x)(hl:look m l=some (.buf 1 (xs.map q))):xV m [.sl 1 [.a]] (.own l 1 0 xs.length)=.sl 1 (xs.map q):=by
 show D.sl 1 _=_;simp only[bj,hl,de,bX,List.map_map];congr 1;apply List.map_congr_left;intro x _;have:=hq x;simp only[Function.comp];generalize q x=d at this;cases d<;>exact this
def lK {α:Type}{q:α->D}{xs:List α}{m:List (Nat×bG)}{l:Nat}(hq:∀x,Qq m [.a] (q x))(hl:look m l=some (.buf 1 (xs.map q))):Qq m [.sl 1 [.a]] (.own l 1 0 xs.length):=by
 grind [Qq,Tb,Ta,fS,bj,bX]
end Go.Abs
end
namespace Go.Abs
def gT (c:Int):Bool:=decide (97<=c)&&decide (c<=122)
def a8 (c:Int):Bool:=decide (48<=c)&&decide (c<=57)
def xe (c:Int):Bool:=gT c ||a8 c ||decide (c=95)
def cu (s:au):Bool:=decide (1<=s.length)&&decide (s.length<=12)&&cI (fun i=>xe (at8 s i)) 0 s.length
def UY (s:au)(i:Nat):Bool:=(gT (at8 s i) ||a8 (at8 s i) ||decide (at8 s i=45))&& !(decide (at8 s i=45)&&decide (at8 s (i-1)=45))
def du (s:au):Bool:=decide (1<=s.length)&&decide (s.length<=16)&&gT (at8 s 0)&& !decide (at8 s (s.length-1)=45)&&cI (UY s) 1 s.length
def nV (s:au)(i:Nat):Bool:=gT (at8 s i) ||(a8 (at8 s i)&& !decide (i=0)) ||(decide (at8 s i=45)&& !decide (i=0)&& !decide (i=s.length-1)&& !decide (at8 s (i-1)=45))
def RA (s:au)(h1:1<=s.length)(h2:s.length<=16):du s=cI (nV s) 0 s.length:=by
 rw[Bool.eq_iff_iff];simp only[du,cv h1,cv h2,fB,bp,bK,bA,eo];constructor
 .rintro⟨⟨h3,h4⟩,h5⟩ j _ hj;rcases Nat.eq_zero_or_pos j with rfl|hp
  .simp[nV,h3]
  .have:=h5 j hp hj;simp only[UY,bp,c8,bK,dI,aY,bA]at this;simp only[nV,bp,c8,bK,aY,bA];rcases this with⟨(h6|h6)|h6,h7⟩
   .exact Or.inl (Or.inl h6)
   .exact Or.inl (Or.inr ⟨h6,ae⟩)
   .refine Or.inr ⟨⟨⟨h6,ae⟩, ?_⟩, ?_⟩
    .rintro rfl;exact h4 h6
    .rcases h7 with h7|h7
     .exact absurd h6 h7
     .exact h7
 .intro h;have h0:=h 0 ae ae;have hlow:gT (at8 s 0)=true:=by simpa[nV]using h0
  refine⟨⟨hlow, ?_⟩,fun j hj1 hj2=>?_⟩
  .intro he;have hl:=h (s.length-1) ae ae;rcases Nat.eq_or_lt_of_le h1 with e|e
   .rw[<-e]at he;simp only[Nat.sub_self]at he;simp only[gT,bp,aY]at hlow;omega
   .simp only[nV,he,gT,a8]at hl;simp at hl
  .have:=h j ae hj2;simp only[nV,bp,c8,bK,aY,bA]at this;simp only[UY,bp,c8,bK,dI,aY,bA];rcases this with(h6|h6)|h6
   .refine⟨Or.inl (Or.inl h6),Or.inl ?_⟩;simp only[gT,bp,aY]at h6;omega
   .refine⟨Or.inl (Or.inr h6.1),Or.inl ?_⟩;have:=h6.1;simp only[a8,bp,aY]at this;omega
   .exact⟨Or.inr h6.1.1.1,Or.inr h6.2⟩
def dL (s:au):Nat:=s.foldl (fun n b=>n*10+(b.toNat-48)) 0
def iE (s:au):Bool:=decide (1<=s.length)&&decide (s.length<=9)&& !(decide (1<s.length)&&decide (at8 s 0=48))&&cI (fun i=>a8 (at8 s i)) 0 s.length&&decide (dL s<=9999)
def jL (s:au):Int:=if iE s=true then(dL s:Int)else 0
theorem kn (s:au)(i:Nat)(h:i<s.length):s.take (i+1)=s.take i++[s.getD i 0]:=by
 rw[List.take_succ];simp[h]
def vT (s:au)(i:Nat)(h:i<s.length):dL (s.take (i+1))=dL (s.take i)*10+((at8 s i).toNat-48):=by
 rw[kn s i h];simp[dL,List.foldl_append,at8]
def LI (s:au):dL s+23<=23*10^s.length:=by
 have:∀(s:au) (n k:Nat),n+23<=23*10^k->s.foldl (fun n b=>n*10+(b.toNat-48)) n+23<=23*10^(k+s.length):=by
  intro s;induction s with
  |nil=>intro n k h;simpa using h
  |cons b r ih=>
   intro n k h;have hb:=b.toNat_lt;have:=ih (n*10+(b.toNat-48)) (k+1) (by rw[Nat.pow_succ];omega);simp only[List.foldl_cons,az];rw[show k+(r.length+1)=k+1+r.length by omega];exact this
 have:=this s 0 0 aQ;simpa[dL]using this
def tK (s:au)(i:Nat)(h:i<=9):dL (s.take i)<=23000000000:=by
 have h1:=LI (s.take i);have h2:(s.take i).length<=9:=cA;have h3:10^(s.take i).length<=10^9:=Nat.pow_le_pow_right ae h2;omega
def Ed (s:au):∀n:Nat,s.foldl (fun n b=>n*10+(b.toNat-48)) n=n*10^s.length+dL s:=by
 unfold dL;induction s with
 |nil=>intro n;simp
 |cons b r ih=>
  intro n;simp only[List.foldl_cons,az];rw[ih,ih (0*10+(b.toNat-48)),Nat.pow_succ];simp only[Nat.zero_mul,cd,Nat.add_mul];rw[Nat.mul_assoc n 10,Nat.mul_comm 10];omega
def vS (b:UInt8)(r:au):dL (b::r)=(b.toNat-48)*10^r.length+dL r:=by
 have:=Ed r (0*10+(b.toNat-48));simp only[dL,List.foldl_cons]at this⊢;rw[this];simp
def vJ {b:UInt8}{r:au}(h:cI (fun i=>a8 (at8 (b::r) i)) 0 (b::r).length=true):a8 b.toNat=true/\cI (fun i=>a8 (at8 r i)) 0 r.length=true:=by
 rw[eo]at h;refine⟨by simpa[at8]using h 0 ae aQ, ?_⟩;rw[eo];intro j _ hj;simpa[at8]using h (j+1) ae cA
def A2:∀(s:au),cI (fun i=>a8 (at8 s i)) 0 s.length=true->dL s<10^s.length
 |[],_=>by simp[dL]
 |b::r,h=>by
  obtain⟨h1,h2⟩:=vJ h;have:=A2 r h2;rw[vS,az,Nat.pow_succ];simp only[a8,bp,aY]at h1;have h3:b.toNat-48<=9:=ae;have:=eM (10^r.length) h3;omega
def LH {b:UInt8}{r:au}(h:49<=b.toNat):10^r.length<=dL (b::r):=by
 rw[vS];have:=eM (10^r.length) (show 1<=b.toNat-48 by omega);omega
theorem Ck (s:au):iE s=(decide (1<=s.length)&&decide (s.length<=4)&& !(decide (1<s.length)&&decide (at8 s 0=48))&&cI (fun i=>a8 (at8 s i)) 0 s.length):=by
 unfold iE;cases hd:cI (fun i=>a8 (at8 s i)) 0 s.length with
 |false=>simp
 |true=>
  have hlt:=A2 s hd;by_cases h4:s.length<=4
  .have:10^s.length<=10^4:=Nat.pow_le_pow_right ae h4;rw[cv h4,cv (by omega:s.length<=9),cv (by omega:dL s<=9999)];simp
  .rw[dr h4]
   match s,hd,h4 with
   |b::r,hd,h4=>
    by_cases h0:at8 (b::r) 0=48
    .rw[cv h0,cv (by omega:1<(b::r).length)];simp
    .have h1:=(vJ hd).1;simp only[a8,bp,aY]at h1;have h2:49<=b.toNat:=by
      simp[at8]at h0;omega
     have h3:=LH (r:=r) h2;have:10^4<=10^r.length:=Nat.pow_le_pow_right ae (by simp at h4;omega);rw[dr (by omega:¬dL (b::r)<=9999)];simp
def dg (n:Nat):UInt8:=UInt8.ofNat (48+n)
def BW:Nat->Nat->au
 |0,n=>[dg n]
 |f+1,n=>if n<10 then [dg n]else BW f (n/10)++[dg (n%10)]
def dp (n:Nat):au:=BW n n
def HQ:∀(f g n:Nat),n<=f->n<=g->BW f n=BW g n
 |0,0,n,_,_=>rfl
 |0,g+1,n,h,_=>by
  obtain rfl:n=0:=ae;simp[BW]
 |f+1,0,n,_,h=>by
  obtain rfl:n=0:=ae;simp[BW]
 |f+1,g+1,n,h1,h2=>by
  simp only[BW];split
  .rfl
  .rw[HQ f g (n/10) ae ae]
theorem mw {n:Nat}(h:n<10):dp n=[dg n]:=by
 unfold dp;cases n<;>simp[BW,h]
theorem ny {n:Nat}(h:9<n):dp n=dp (n/10)++[dg (n%10)]:=by
 unfold dp;obtain⟨k,rfl⟩:∃k,n=k+1:=⟨n-1,ae⟩
 simp only[BW];rw[ai ae,HQ k ((k+1) /10) _ ae ae]
def dU:∀(k n:Nat),n<10^k->0<k->(dp n).length<=k:=by
 intro k;induction k with
 |zero=>intro n _ h;omega
 |succ k ih=>
  intro n h _;by_cases h10:n<10
  .rw[mw h10];simp
  .rw[ny ae];have hk:0<k:=by
    rcases Nat.eq_zero_or_pos k with rfl|h0
    .simp at h;omega
    .exact h0
   have:=ih (n/10) (by rw[Nat.pow_succ]at h;omega) hk;simp;omega
theorem AA {n:Nat}(h:n<10):((dg n).toNat:Int)=48+n:=by
 have:(48+n)%256=48+n:=Nat.mod_eq_of_lt ae;simp[dg,this]
def ca (b:Int):au->au->List au
 |[],cur=>[cur]
 |c::r,cur=>if(c.toNat:Int)=b then cur::ca b r []else ca b r (cur++[c])
def aq (s:au)(b:Int):List au:=ca b s []
def nA (s:au)(i:Nat)(h:i<s.length):s.drop i=s.getD i 0::s.drop (i+1):=by
 rw[kW h];simp[h]
def Bj {s:au}{b:Int}{i fr:Nat}(h:i<s.length)(he:at8 s i=b):ca b (s.drop i) ((s.take i).drop fr)=((s.take i).drop fr)::ca b (s.drop (i+1)) ((s.take (i+1)).drop (i+1)):=by
 rw[nA s i h];have h2:(s.take (i+1)).drop (i+1)=[]:=aQ;rw[h2];simp only[ca];rw[ax (by simpa[at8]using he)]
def Bk {s:au}{b:Int}{i fr:Nat}(h:i<s.length)(hf:fr<=i)(he:¬at8 s i=b):ca b (s.drop i) ((s.take i).drop fr)=ca b (s.drop (i+1)) ((s.take (i+1)).drop fr):=by
 rw[nA s i h,kn s i h,List.drop_append_of_le_length cA];simp only[ca];rw[ai (by simpa[at8]using he)]
def zw {s:au}{b:Int}{i fr:Nat}(h:s.length<=i):ca b (s.drop i) ((s.take i).drop fr)=[s.drop fr]:=by
 rw[nr h,dM h];rfl
def sN (b:Int):∀(s cur:au),(ca b s cur).length<=s.length+1
 |[],cur=>by simp[ca]
 |c::r,cur=>by
  simp only[ca];split
  .have:=sN b r [];simp;omega
  .have:=sN b r (cur++[c]);simp;omega
theorem eL (s:au)(b:Int):(aq s b).length<=s.length+1:=sN b s []
theorem ff (b:Int)(s cur:au):1<=(ca b s cur).length:=by
 induction s generalizing cur with
 |nil=>simp[ca]
 |cons c r ih=>
  simp only[ca];split
  .simp
  .exact ih _
def BN (s:au)(b:Int)(i:Nat):au×au:=match(s.drop i).findIdx? (fun c=>decide ((c.toNat:Int)=b))with
 |some k=>(s.drop (i+k+1),s.take (i+k))
 |none=>([],s)
def nw (s:au)(b:Int):au×au:=BN s b 0
def mF (c:Int):Bool:=gT c ||a8 c ||decide (c=45)
def qH (t:au):Bool:=decide (1<=t.length)&&decide (t.length<=8)&&cI (fun i=>mF (at8 t i)) 0 t.length
def cD (t:au):Bool:=cI (fun i=>a8 (at8 t i)) 0 t.length&&decide (0<t.length)
def hY (p:Bool)(t:au):Bool:=qH t&& !(p&&cD t&& !iE t)
def nI (s:au)(p:Bool):Bool:=decide ((aq s 46).length<=4)&&cI (fun i=>hY p (aq s 46)[i]!) 0 (aq s 46).length
def qI (s:au)(p:Bool):Bool:=decide (s=[]) ||nI s p
def oS (n:Int):Bool:=decide (0<=n)&&decide (n<=9999)
def eH (v:c9):Bool:=oS v.major&&oS v.minor&&oS v.patch&&qI v.pre true&&qI v.build false
def rM (v:c9):au:=dp v.major.toNat++[46]++dp v.minor.toNat++[46]++dp v.patch.toNat++(if v.pre=[]then []else 45::v.pre)++(if v.build=[]then []else 43::v.build)
def jN (v:c9):au:=if eH v=true then rM v else []
def c9.sm (v:c9):Prop:=v.pre.length<=1048576/\v.build.length<=1048576
def RJ (a b:Int):Int:=IntKind.u64.wrap ((BitVec.ofInt 64 a |||BitVec.ofInt 64 b).toNat)
def zI (a b:Int):Int:=IntKind.u64.wrap ((BitVec.ofInt 64 a^^^BitVec.ofInt 64 b).toNat)
def tW (a:Int)(k:Nat):Int:=IntKind.u64.wrap (a*2^k)
def r0 (a:Int)(k:Nat):Int:=a.fdiv (2^k)
def VA (h:Int)(k:Nat):Int:=RJ (tW h k) (r0 h (64-k))
def I2 (h:Int)(c:Int):Int:=IntKind.u64.wrap (VA (zI h c) 13*18397679294719823053)
def vn (s:au):Int:=s.foldl (fun h c=>I2 h c.toNat) 11400714819323198485
def E2 (s:au):Int:=zI (vn s) (r0 (vn s) 29)
def Bs (s:au)(i:Nat)(h:i<s.length):vn (s.take (i+1))=I2 (vn (s.take i)) (at8 s i):=by
 grind [kn,vn,at8]
def LG (n:Int)(i:Nat):Nat:=(BitVec.ofInt 64 (r0 n (4*i))&&&15#64).toNat
theorem yS (n:Int)(i:Nat):LG n i<16:=by
 unfold LG;rw[BitVec.toNat_and];exact Nat.lt_of_le_of_lt Nat.and_le_right aG
def OI (n:Int)(i:Nat):IntKind.u64.wrap ((BitVec.ofInt 64 (r0 n (4*i))&&&BitVec.ofInt 64 15).toNat)=(LG n i:Nat):=by
 have h:=yS n i;unfold LG at h⊢;have e:BitVec.ofInt 64 15=15#64:=aG;rw[e,IntKind.wrap_u64];omega
def rE (k:Nat):UInt8:=([48,49,50,51,52,53,54,55,56,57,97,98,99,100,101,102]:au).getD k 0
def fU (n:Int):au:=(List.range 16).map fun j=>rE (LG n (15-j))
theorem jF (n:Int):(fU n).length=16:=by simp[fU]
def Hu (n:Int)(k:Nat)(h:k<16):(fU n).take (k+1)=(fU n).take k++[([48,49,50,51,52,53,54,55,56,57,97,98,99,100,101,102]:au).getD (LG n (15-k)) 0]:=by
 grind [kn,jF,fU,rE]
def Rk (k:Nat)(h:k<10):((rE k).toNat:Int)=48+k:=by
 have:∀k:Fin 10,((rE k.1).toNat:Int)=48+k.1:=aG
 exact this ⟨k,h⟩
def Rj (k:Nat)(h:10<=k)(h2:k<16):((rE k).toNat:Int)=87+k:=by
 have:∀k:Fin 16,10<=k.1->((rE k.1).toNat:Int)=87+k.1:=aG
 exact this ⟨k,h2⟩ h
def tY (n:Int)(i:Nat):au:=List.replicate (16-i) 0++(fU n).drop (16-i)
theorem rv (n:Int)(i:Nat):(tY n i).length=16:=by simp[tY,jF]
def MB (n:Int):tY n 16=fU n:=by simp[tY]
def MC (n:Int)(i:Nat)(h:i<16):tY n (i+1)=(tY n i).set (15-i) (rE (LG n i)):=by
 apply List.ext_getElem
 .simp[rv]
 grind [rv,tY,fU]
def oq (c:Int):Bool:=a8 c ||(decide (97<=c)&&decide (c<=102))
def Gm (c:Int):Int:=if a8 c=true then c-48 else c-87
def qv (n c:Int):Int:=RJ (tW n 4) (Gm c)
def pA (s:au):Int:=s.foldl (fun n c=>qv n c.toNat) 0
def zk (s:au)(i:Nat)(h:i<s.length):pA (s.take (i+1))=qv (pA (s.take i)) (at8 s i):=by
 grind [kn,pA,at8]
def mi (s:au):Bool:=decide (s.length=16)&&cI (fun i=>oq (at8 s i)) 0 s.length
def tR (s:au):Int:=if mi s=true then pA s else 0
def Env.at (e:Env):Nat->au
 |0=>e.e0
 |1=>e.e1
 |_=>e.e2
def Env.ld (e:Env){i:Nat}(h:i<3):nU (Env.D e) 3 1 (0+i*1) false=.str (e.at i):=by
 match i,h with
 |0,_=>rfl
 |1,_=>rfl
 |2,_=>rfl
def C4.ld (l:C4){i:Nat}(h:i<3):nU (C4.D l) 4 1 (0+i*1) false=.str (l.env.at i):=by
 match i,h with
 |0,_=>rfl
 |1,_=>rfl
 |2,_=>rfl
def Env.cut (e:Env){i:Nat}(h:i<3):Abs.cut [.str e.e0,.str e.e1,.str e.e2] (i*1) 1 false=.str (e.at i):=by
 match i,h with
 |0,_=>rfl
 |1,_=>rfl
 |2,_=>rfl
def wK.sm (x:wK):Prop:=x.v.sm/\x.name.length<=1048576/\x.shelf.length<=1048576/\x.feats.length<=1048576/\∀t∈x.feats,t.length<=1048576
def C4.sm (l:C4):Prop:=l.lines.length<=1048576/\(∀x∈l.lines,x.sm)/\∀i,(l.env.at i).length<=1048576
theorem bw {α:Type} [Inhabited α]{l:List α}{i:Nat}(h:i<l.length):l[i]! ∈l:=by
 simp[h]
structure Kp where
 name:au
 v:c9
 deriving Inhabited,DecidableEq
def Kp.D (x:Kp):D:=.agg [.str x.name,.int .i64 x.v.major,.int .i64 x.v.minor,.int .i64 x.v.patch,.str x.v.pre,.str x.v.build]
def PU {α:Type} [Inhabited α] [DecidableEq α]{a b:List α}(h:a.length=b.length):decide (a=b)=cI (fun i=>decide (a[i]! =b[i]!)) 0 a.length:=by
 rw[Bool.eq_iff_iff,aY,eo];constructor
 .rintro rfl j _ _;simp
 .intro hj;apply List.ext_getElem h
  grind
def wK.same {a b:wK}(e1:a.name=b.name)(e2:a.v=b.v)(e3:a.shelf=b.shelf)(e4:a.sum=b.sum)(e5:a.feats.length=b.feats.length):decide (a=b)=cI (fun i=>decide (a.feats[i]! =b.feats[i]!)) 0 a.feats.length:=by
 rw[<-PU e5];obtain⟨a1,a2,a3,a4,a5⟩:=a;obtain⟨b1,b2,b3,b4,b5⟩:=b
 grind
def aT (b:au):List au->au
 |[]=>[]
 |[t]=>t
 |t::u::r=>t++b++aT b (u::r)
theorem gS (b t:au)(r:List au)(h:r≠[]):aT b (t::r)=t++b++aT b r:=by
 cases r with
 |nil=>exact absurd rfl h
 |cons u r=>rfl
def p0 {α:Type}(q:α->au)(B:Nat):∀l:List α,(∀x∈l,(q x).length<=B)->((l.map q).flatten).length<=l.length*B
 |[],_=>aQ
 |a::r,h=>by
  have h1:=h a (.head _);have h2:=p0 q B r fun x hx=>h x (.tail _ hx)
  simp only[List.map_cons,List.flatten_cons,bJ,az,Nat.succ_mul];omega
def zD (v:c9)(h:v.sm):(jN v).length<=2097200:=by
 unfold jN;split
 .rename_i hv;simp only[eH,bp]at hv;obtain⟨⟨⟨⟨hv1,hv2⟩,hv3⟩,_⟩,_⟩:=hv;simp only[oS,bp,aY]at hv1 hv2 hv3;have hl1:=dU 4 v.major.toNat ae ae;have hl2:=dU 4 v.minor.toNat ae ae;have hl3:=dU 4 v.patch.toNat ae ae;obtain⟨h1,h2⟩:=h
  grind [rM]
 .simp
def Env.sm (e:Env):Prop:=∀i,(e.at i).length<=1048576
end Go.Abs
section
namespace Go.Abs
def Vd (v n:Int):Int:=if n<1 then 0 else if v.tmod n<0 then v.tmod n+n else v.tmod n
def Hw (v n:Int)(h:1<=n):-n<v.tmod n/\v.tmod n<n:=⟨Int.lt_tmod_of_pos v ae,Int.tmod_lt_of_pos v ae⟩
def atI (l:List Int)(i:Int):Int:=if i<0\/(l.length:Int)<=i then i.tmod 3 else l[i.toNat]!
structure Gs where
 l:List Int
 i:Int
 deriving Inhabited
def Gs.D (g:Gs):D:=.agg [.sl 1 (g.l.map (D.int .i64)),.int .i64 g.i]
def Gs.val (g:Gs)(n:Int):Int:=Vd (atI g.l g.i) n
def Gs.zP (g:Gs):Gs:=⟨g.l,g.i+1⟩
def gO (s:au)(b:UInt8):au×au×Bool:=match s.findIdx? (fun c=>c==b)with
 |some k=>(s.take k,s.drop (k+1),true)
 |none=>(s,[],false)
def cQ (s p:au):au×Bool:=if p.isPrefixOf s=true then(s.drop p.length,true)else(s,false)
def NF (s:au)(b:UInt8):(gO s b).1.length<=s.length/\((gO s b).2.2=true->(gO s b).1.length+1<=s.length):=by
 unfold gO;split
 .rename_i k h;have:=List.findIdx?_eq_some_iff_findIdx_eq.1 h;simp only[fA];omega
 .simp
structure SG where
 s:au
 at':Nat
 n:Nat
def SG.D (r:SG):D:=.agg [.str r.s,.int .i64 (r.at':Nat),.int .i64 (r.n:Nat)]
def SG.ln (r:SG):au×au×Bool:=gO (r.s.drop r.at') 10
def SG.zP (r:SG):SG:=⟨r.s,if r.ln.2.2=true then r.at'+(r.ln.1.length+1)else r.at',r.n+1⟩
def rN:c9:=⟨0,0,0,[],[]⟩
def Sb (s:au):Option c9:=
 let a:=nw s 43
 let b:=nw a.2 45
 let l:=aq b.2 46
 if l.length=3/\iE l[0]! =true/\iE l[1]! =true/\iE l[2]! =true then
  let v:c9:=⟨jL l[0]!,jL l[1]!,jL l[2]!,b.1,a.1⟩
  if eH v=true/\jN v=s then some v else none
 else none
def Rz (l:List au)(i:Nat):D:=.agg [.int .i64 (if 0<i then jL l[0]! else 0),.int .i64 (if 1<i then jL l[1]! else 0),.int .i64 (if 2<i then jL l[2]! else 0)]
def OB (l:List au)(i:Nat)(h:i<3):qG (Rz l i) 3 1 (0+i*1) (.int .i64 (jL l[i]!))=Rz l (i+1):=by
 match i,h with
 |0,_=>rfl
 |1,_=>rfl
 |2,_=>rfl
def sO (b:Int):∀(s cur:au),∀t∈ca b s cur,t.length<=cur.length+s.length
 |[],cur,t,h=>by simp only[ca,cz]at h;subst h;simp
 |c::r,cur,t,h=>by
  simp only[ca]at h;split at h
  .rcases bZ.1 h with rfl|h
   .simp
   .have:=sO b r [] t h;simp at this⊢;omega
  .have:=sO b r (cur++[c]) t h;simp at this⊢;omega
def iI (s:au)(b:Int){t:au}(h:t∈aq s b):t.length<=s.length:=by
 have:=sO b s [] t h;simpa using this
theorem pg (s:au)(b:Int){i:Nat}(h:i<(aq s b).length):((aq s b)[i]!).length<=s.length:=iI s b (bw h)
end Go.Abs
namespace Go.Abs
end Go.Abs
namespace Go.Abs
end Go.Abs
namespace Go.Abs
end Go.Abs
namespace Go.Abs
def F7 (s p:au):(cQ s p).1.length<=s.length:=by
 unfold cQ;split<;>simp
end Go.Abs
namespace Go.Abs
variable {e:Env} {f:Nat} {r:SG} {ls:List wK}
end Go.Abs
namespace Go.Abs
end Go.Abs
end
namespace Go.Abs
section
section
variable {Y:Ctx} {draw:Bool} {r:List GI} {env rs:List bL} {nx:Nat} {m:List (Nat×bG)} {K:List bL->St->Prop} {g:Option (Nat×Bool)} {f:Bool}
def b8 {n:Nat}{args:List Src}{ai9:List D}{v:D}{nx':Nat}{m':List (Nat×bG)}(h:aK Y draw r env (⟨true,v⟩::rs) nx' m' K)
  (hc:∀K':D->St->Prop,K' v ⟨nx'+rs.length,m'⟩->Y.tr n ai9 ⟨nx+rs.length,m⟩ K') (hn:nx<=nx') (ha:iL (cx env rs) args=ai9:=by exact rfl)
  (ho:wD (cx env rs) args:=by repeat' first|exact trivial|exact rfl|refine And.intro ?_ ?_):aK Y draw (⟨.callM n args,none⟩::r) env rs nx m K:=by
 unfold aK;show True/\(true=true->wD (Src.ev env rs.reverse) args/\Y.tr n (iL (Src.ev env rs.reverse) args) {nx:=nx+rs.reverse.length,m:=m} _)/\(true=false->_)
 grind [kY,aK]
def Vx {l k i0 n:Nat}{x y z:Src}{fx fy fz:Bool}{kh km:IntKind}{h' m':Int}(j:Nat)(h:aK Y draw r env (⟨f,.own l k i0 j⟩::rs) nx m K)(hg:GF rs g f:=by exact c7)(hx:cx env rs x=⟨fx,.own l k i0 n⟩:=by exact rfl)(hy:cx env rs y=⟨fy,.int kh h'⟩:=by exact rfl)(hz:cx env rs z=⟨fz,.int km m'⟩:=by exact rfl)
  (kx:f=true->fx=true:=by exact b6) (ky:f=true->fy=true:=by exact b6) (kz:f=true->fz=true:=by exact b6)
  (hj:f=true->h'=(j:Int)) (hb:f=true->(j:Int)<=m'/\m'<=(n:Int)):aK Y draw (⟨.slX k x y z,g⟩::r) env rs nx m K:=
 bO rfl hg _ (fun hf=>by have h1:=hj hf;have h2:=hb hf;simp only[aM.dQ,hx,hy,hz];exact⟨kx hf,ky hf,kz hf,ae,ae,trivial,h2.2⟩) (fun hf=>by simp only[aM.val,hx,hy];rw[hj hf,Int.toNat_natCast]) (fun _=>h)
def Vw {α:Type}{q:α->D}{s:List α}{k:Nat}{x y z:Src}{fx fy fz:Bool}{kh km:IntKind}{h' m':Int}(j:Nat)(h:aK Y draw r env (⟨f,.sl k ((s.take j).map q)⟩::rs) nx m K)(hg:GF rs g f:=by exact c7)(hx:cx env rs x=⟨fx,.sl k (s.map q)⟩:=by exact rfl)(hy:cx env rs y=⟨fy,.int kh h'⟩:=by exact rfl)(hz:cx env rs z=⟨fz,.int km m'⟩:=by exact rfl)
  (kx:f=true->fx=true:=by exact b6) (ky:f=true->fy=true:=by exact b6) (kz:f=true->fz=true:=by exact b6)
  (hj:f=true->h'=(j:Int)) (hb:f=true->(j:Int)<=m'/\m'<=(s.length:Int)):aK Y draw (⟨.slX k x y z,g⟩::r) env rs nx m K:=
 bO rfl hg _ (fun hf=>by have h1:=hj hf;have h2:=hb hf;simp only[aM.dQ,hx,hy,hz,cb];exact⟨kx hf,ky hf,kz hf,ae,ae,trivial,h2.2⟩) (fun hf=>by simp only[aM.val,hx,hy];rw[hj hf,Int.toNat_natCast,List.map_take]) (fun _=>h)
def fK {n:Nat}{args:List Src}{ai9:List D}{ι:Type}(P:ι->Prop)(V:ι->D)(nx':Nat)(M:ι->List (Nat×bG))(h:∀i,P i->aK Y draw r env (⟨true,V i⟩::rs) nx' (M i) K)
  (hc:∀K':D->St->Prop,(∀i,P i->K' (V i) ⟨nx'+rs.length,M i⟩)->Y.tr n ai9 ⟨nx+rs.length,m⟩ K') (hn:nx<=nx') (ha:iL (cx env rs) args=ai9:=by exact rfl)
  (ho:wD (cx env rs) args:=by repeat' first|exact trivial|exact rfl|refine And.intro ?_ ?_):aK Y draw (⟨.callM n args,none⟩::r) env rs nx m K:=by
 unfold aK;show True/\(true=true->wD (Src.ev env rs.reverse) args/\Y.tr n (iL (Src.ev env rs.reverse) args) {nx:=nx+rs.reverse.length,m:=m} _)/\(true=false->_)
 grind [kY,aK]
def A8 {n j:Nat}{w:Bool}{args:List Src}{ai9:List D}{ι:Type}(P:ι->Prop)(V:ι->D)(nx':Nat)(M:ι->List (Nat×bG))(h:∀i,P i->aK Y draw r env (⟨true,V i⟩::rs) nx' (M i) K)(hg:GF rs (some (j,w)) true:=by exact⟨_,_,rfl,rfl⟩)
  (hc:∀K':D->St->Prop,(∀i,P i->K' (V i) ⟨nx'+rs.length,M i⟩)->Y.tr n ai9 ⟨nx+rs.length,m⟩ K') (hn:nx<=nx') (ha:iL (cx env rs) args=ai9:=by exact rfl)
  (ho:wD (cx env rs) args:=by repeat' first|exact trivial|exact rfl|refine And.intro ?_ ?_):aK Y draw (⟨.callM n args,some (j,w)⟩::r) env rs nx m K:=by
 unfold aK;show zY rs.reverse (some (j,w))/\(flag rs.reverse (some (j,w))=true->wD (Src.ev env rs.reverse) args/\Y.tr n (iL (Src.ev env rs.reverse) args) {nx:=nx+rs.reverse.length,m:=m} _)/\(flag rs.reverse (some (j,w))=false->_);obtain⟨hg1,hg2⟩:=hg.flag
 grind [kY,aK]
def IF {n j:Nat}{w:Bool}{args:List Src}(h:aK Y draw r env (⟨false,.any⟩::rs) nx m K)(hg:GF rs (some (j,w)) false:=by exact⟨_,_,rfl,rfl⟩):aK Y draw (⟨.callM n args,some (j,w)⟩::r) env rs nx m K:=by
 unfold aK;show zY rs.reverse (some (j,w))/\(flag rs.reverse (some (j,w))=true->_)/\(flag rs.reverse (some (j,w))=false->_);obtain⟨hg1,hg2⟩:=hg.flag
 grind [aK]
def Pn {c a:Src}{fc t:Bool}(h:aK Y draw r env (⟨f,.bool false⟩::rs) nx m K)(hg:GF rs g f:=by exact c7)(hc:cx env rs c=⟨fc,.bool t⟩:=by exact rfl)(kc:f=true->fc=true:=by exact fun _=>rfl)(ht:t=false:=by exact rfl):aK Y draw (⟨.pick c a (.c (.bool false)),g⟩::r) env rs nx m K:=by
 subst ht;refine bO rfl hg _ (fun hf=>?_) (fun hf=>?_) (fun _=>h)
 .simp only[aM.dQ,hc];exact⟨kc hf,⟨fun h=>absurd h aQ,fun _=>rfl⟩⟩
 .simp only[aM.val,hc];have:cx env rs (.c (.bool false))=⟨true,.bool false⟩:=rfl;rw[this];cases(cx env rs a).d<;>rfl
def A9 {n:Nat}{x:Src}{caps:List D}{args:List Src}{ai9:List D}{ι:Type}(P:ι->Prop)(V:ι->D)(nx':Nat)(M:ι->List (Nat×bG))(h:∀i,P i->aK Y draw r env (⟨true,V i⟩::rs) nx' (M i) K)
  (hc:∀K':D->St->Prop,(∀i,P i->K' (V i) ⟨nx'+rs.length,M i⟩)->Y.tr (BP n) ai9 ⟨nx+rs.length,m⟩ K') (hn:nx<=nx') (hn2:n<2000000:=by decide) (hx:cx env rs x=⟨true,.fn n caps⟩:=by exact rfl) (ha:zR n (iL (cx env rs) args) caps=ai9:=by exact rfl)
  (ho:wD (cx env rs) args:=by repeat' first|exact trivial|exact rfl|refine And.intro ?_ ?_):aK Y draw (⟨.callvM x args,none⟩::r) env rs nx m K:=by
 unfold aK;show N8 rs.reverse (.callvM x args) none/\(Src.ev env rs.reverse x).ok=true/\wD (Src.ev env rs.reverse) args/\match(Src.ev env rs.reverse x).d with
   | .fn n caps=>n<2000000/\Y.tr (BP n) (zR n (iL (Src.ev env rs.reverse) args) caps) {nx:=nx+rs.reverse.length,m:=m} _
   |_=>False
 rw[kY,List.length_reverse];simp only[hx,ha];refine⟨trivial,trivial,ho,hn2,hc _ fun i hi=>⟨by show nx+rs.length<=nx'+rs.length;omega, ?_⟩⟩
 grind [aK]
end
end
end Go.Abs
section
namespace Go.Abs
def nlS:List au->D
 |[]=>.aA
 |a::r=>.sl 1 ((a::r).map D.str)
def wK.N (x:wK):Go.Abs.D:=.agg [.str x.name,.int .i64 x.v.major,.int .i64 x.v.minor,.int .i64 x.v.patch,.str x.v.pre,.str x.v.build,.str x.shelf,.int .u64 x.sum,nlS x.feats]
end Go.Abs
namespace Go.Abs
def wK.F (name:au)(v:c9)(shelf:au)(sum:Int)(fs:Go.Abs.D):Go.Abs.D:=.agg [.str name,.int .i64 v.major,.int .i64 v.minor,.int .i64 v.patch,.str v.pre,.str v.build,.str shelf,.int .u64 sum,fs]
mutual
theorem UG (l k:Nat)(es:List D):∀d:D,d.bF=true->mJ l k es d=d
 | .agg a,h=>by simp only[mJ,yv l k es a (by simpa[D.bF]using h)]
 | .tup a,h=>by simp only[mJ,yv l k es a (by simpa[D.bF]using h)]
 | .fn n a,h=>by simp only[mJ,yv l k es a (by simpa[D.bF]using h)]
 | .own ..,h=>by simp[D.bF]at h
 | .ptr ..,h=>by simp[D.bF]at h
 | .it ..,h=>by simp[D.bF]at h
 | .any,_| .bool _,_| .int ..,_| .str _,_| .aA,_| .sl ..,_| .ref ..,_| .nilp,_| .nilf,_=>rfl
theorem yv (l k:Nat)(es:List D):∀ds:List D,bx ds=true->oe l k es ds=ds
 |[],_=>rfl
 |d::r,h=>by
  simp only[bx,bp]at h;simp only[oe,UG l k es d h.1,yv l k es r h.2]
end
end Go.Abs
namespace Go.Abs
end Go.Abs
namespace Go.Abs
end Go.Abs
namespace Go.Abs
end Go.Abs
namespace Go.Abs
end Go.Abs
namespace Go.Abs
end Go.Abs
end
section
namespace Go.Abs
end Go.Abs
namespace Go.Abs
def Kp.eq (a b:Kp):iC (Kp.D a).cells (Kp.D b).cells=decide (a=b):=by
 obtain⟨n1,⟨a1,a2,a3,a4,a5⟩⟩:=a;obtain⟨n2,⟨b1,b2,b3,b4,b5⟩⟩:=b
 grind [Kp.D,D.cells,iC,tv,wP]
structure wK.ok (n:Nat)(x:wK):Prop where
 pre:x.v.pre.length<=3
 build:x.v.build.length<=2
 name:x.name.length<=16
 shelf:x.shelf.length<=16
 nf:x.feats.length<=n
 ft:∀t∈x.feats,t.length<=16
 sum:0<=x.sum/\x.sum<18446744073709551616
structure C4.ok (n:Nat)(l:C4):Prop where
 len:l.lines.length<=4
 lines:∀x∈l.lines,x.ok n
 env:∀i,(l.env.at i).length<=16
def C4.ok.sm {n:Nat}{l:C4}(h:l.ok n)(hn:n<=1000):l.sm:=by
 refine⟨by have:=h.len;omega,fun x hx=>?_,fun i=>by have:=h.env i;omega⟩;have k:=h.lines x hx;have k1:=k.pre;have k2:=k.build;have k3:=k.name;have k4:=k.shelf;have k5:=k.nf;exact⟨⟨ae,ae⟩,ae,ae,ae,fun t ht=>by have:=k.ft t ht;omega⟩
def wK.ok.mono {n m:Nat}{x:wK}(h:x.ok n)(hm:n<=m):x.ok m:=⟨h.pre,h.build,h.name,h.shelf,cT h.nf hm,h.ft,h.sum⟩
end Go.Abs
end
namespace Go.Abs
section
def lk {α:Type}:List (Nat×α)->Nat->α->α
 |[],_,d=>d
 |(a,b)::r,n,d=>bif Nat.beq a n then b else lk r n d
structure Row where
 key:Nat
 pre:List D->Prop
 val:List D->D
structure YP where
 pre:D->List D->Prop
 val:D->List D->D
 new:D->List D->D
def Row.no:Row:=⟨0,fun _=>False,fun _=>.any⟩
def YP.no:YP:=⟨fun _ _=>False,fun _ _=>.any,fun _ _=>.any⟩
section
variable [dt] {P:Program} {ν:List (Nat×Nat)} {cJ:List Nat} {Y:Ctx}
end
end
section
variable [dt]
section
variable {P:Program} {ν:List (Nat×Nat)} {cJ:List Nat} {Y:Ctx}
def RD.re {x x':X}{σ:List (Nat×Nat)}(hw:x'.w=x.w)(hI:x'.I=x.I)(hβ:∀l l',mC 0 σ l=some l'->x'.β l'=x.β l){v:Value}{d d':D}(hv:RD ν x v d)(hd:Qm 0 σ d d'):RD ν x' v d':=by
 rcases hd with⟨rfl,hn⟩|hd|hd
 .exact hv.bF hn (fun _ h=>by rw[hI];exact h) (fun _ _=>by rw[hw])
 .grind [RD.rn]
 grind [RD.nl]
def nN.re {x x':X}{σ:List (Nat×Nat)}(hw:x'.w=x.w)(hI:x'.I=x.I)(hβ:∀l l',mC 0 σ l=some l'->x'.β l'=x.β l){b base tot:Nat}{b0 blk:bG}(o2:nN ν x b base tot b0)(q3:rQ 0 σ b0 blk):nN ν x' b base tot blk:=by
 cases b0 with
 |iter s p=>
  cases blk with
  |iter s' p'=>simp only[rQ]at q3;obtain⟨rfl,rfl⟩:=q3;simp only[nN,hw]at o2⊢;exact o2
  |_=>simp[rQ]at q3
 |row s=>
  cases blk with
  |row s'=>simp only[rQ]at q3;subst q3;simp only[nN,hw]at o2⊢;exact o2
  |_=>simp[rQ]at q3
 |bld o n u=>
  cases blk with
  |bld o' n' u'=>
   simp only[rQ]at q3;obtain⟨q3,rfl,rfl⟩:=q3;obtain⟨p1,v,p2,p3⟩:=o2;refine⟨p1,v,by rw[hw];exact p2, ?_⟩;cases o with
   |none=>simp only at q3;subst q3;exact p3
   |some l0=>
    obtain⟨l1,q4,rfl⟩:=q3;obtain⟨g,t,p4,p5,p6⟩:=p3;exact⟨g,t,p4,p5,by rw[hβ l0 l1 q4];exact p6⟩
  |_=>simp[rQ]at q3
 |buf k es=>
  cases blk with
  |iter s' p'=>simp[rQ]at q3
  |row s'=>simp[rQ]at q3
  |bld o' n' u'=>simp[rQ]at q3
  |buf k' es'=>
   simp only[rQ]at q3;obtain⟨rfl,q3⟩:=q3;obtain⟨p1,p2,cc,T,fr,p3,p4,p5,p6⟩:=o2;rw[<-hw]at p3;rcases q3 with⟨rfl,hn⟩|q3|q3
   .exact⟨p1,p2,cc,T,fr,p3,p4,p5,fun i hi=>⟨(p6 i hi).1,fun j hj=>⟨((p6 i hi).2 j hj).1,RD.re hw hI hβ ((p6 i hi).2 j hj).2 (.inl ⟨rfl,pd (di hn i) j⟩)⟩⟩⟩
   .obtain⟨r1,r2⟩:=ke q3;refine⟨p1,ae,cc,T,fr,p3,p4,p5,fun i hi=>?_⟩;have hi':i<es.length:=ae;obtain⟨s1,s2⟩:=Bd (r2 i hi');exact⟨s1.trans (p6 i hi').1,fun j hj=>⟨((p6 i hi').2 j hj).1,RD.re hw hI hβ ((p6 i hi').2 j hj).2 (.inr (.inl (s2 j (by rw[(p6 i hi').1];exact hj))))⟩⟩
   .obtain⟨r1,r2⟩:=pL q3;refine⟨p1,ae,cc,T,fr,p3,p4,p5,fun i hi=>?_⟩;have hi':i<es.length:=ae;obtain⟨s1,s2⟩:=Am (r2 i hi');exact⟨s1.trans (p6 i hi').1,fun j hj=>⟨((p6 i hi').2 j hj).1,RD.re hw hI hβ ((p6 i hi').2 j hj).2 (.inr (.inr (s2 j (by rw[(p6 i hi').1];exact hj))))⟩⟩
def IU {lo c:Nat}{σ:List (Nat×Nat)}{l l':Nat}(h0:ix 0 c σ=true)(h:mC 0 σ l=some l'):l'<c/\(l,l')∈σ:=by
 obtain⟨h1,h2⟩:=tT h0 h
 grind
def tJ {c:Nat}:∀{σ:List (Nat×Nat)}{a b:Nat},ix 0 c σ=true->(a,b)∈σ->mC 0 σ a=some b
 |[],a,b,_,h=>by cases h
 |(a0,b0)::r,a,b,h0,h=>by
  unfold mC;simp only[ix,bp,List.all_eq_true,bK]at h0;obtain⟨_,_,p4,p5⟩:=h0;rcases bZ.1 h with h|h
  .simp only[eB]at h;obtain⟨rfl,rfl⟩:=h;simp
  .have:=(p4 _ h).1;simp only at this;have hne:Nat.beq a0 a=false:=by
    cases hb:Nat.beq a0 a with
    |false=>rfl
    |true=>obtain rfl:=Nat.eq_of_beq_eq_true hb;simp at this
   rw[hne];exact tJ p5 h
structure Fr (σi σo:List (Nat×Nat))(q q1:Nat)(m0 m1:List (Nat×bG))(st st':St):Prop where
 oki:ix 0 q σi=true
 oko:ix 0 st'.nx σo=true
 nx:st.nx<=st'.nx
 lt:∀l i,(l,i)∈σi->look st.m l≠none
 io:∀i l,(i,l)∈σo->(l,i)∈σi\/st.nx<=l
 m0:∀i b,look m0 i=some b->∃l b',(l,i)∈σi/\look st.m l=some b'/\rQ 0 σi b' b
 m1:∀l b,look st'.m l=some b->(∃i b1,(i,l)∈σo/\look m1 i=some b1/\rQ 0 σo b1 b)\/(lR σo l=none/\(∀i,(l,i)∉σi)/\look st.m l=some b)
def Q4 {fid:Nat}{fn:Func}{af:aD}{K:D->St->Prop}(hΓ:Ok P ν cJ Y)(hmix:P.follows .mixedOrders=true)(hf:P.funcs[fid]? =some fn)(hc:compile P ν cJ fn=some af)
  {x:X} {args:Array Value} {ds cs:List D} {st:St} {σi:List (Nat×Nat)} {q:Nat} {m0:List (Nat×bG)} (hl:args.size=ds.length) (hargs:∀i,i<ds.length->RD ν x (args.getD i undef) (ds.getD i .any))
  (hs:fL ν x (look st.m)) (hfr:fE st x) (hlen:cs.length=ds.length) (hds:∀i,i<ds.length->Qm 0 σi (ds.getD i .any) (cs.getD i .any)) (hnp:cs.length=af.np)
  (oki:ix 0 q σi=true) (hlt:∀l i,(l,i)∈σi->look st.m l≠none) (hm0:∀i b,look m0 i=some b->∃l b',(l,i)∈σi/\look st.m l=some b'/\rQ 0 σi b' b)
  (hw:bB (Y.at q) af.body (fun e env st1=>e.home/\sK st1.m env af.res/\∃(σo:List (Nat×Nat)) (q1:Nat) (m1:List (Nat×bG)) (st':St) (vd':D),Fr σi σo q q1 m0 m1 st st'/\Qm 0 σo (qz af env st1) vd'/\K vd' st'/\∀i,look st1.m i=look m1 i) (fM af cs) ⟨q,m0⟩):
  Calls P fid args x.w fun
   | .returned v,w'=>∃x' d st',K d st'/\x'.w=w'/\Step x x'/\RD ν x' v d/\fL ν x' (look st'.m)/\fE st' x'
   |_,_=>False:=by
 obtain⟨body,c1,c2,c3,c4,c5,c6⟩:=mq hc
 let x0:X:=⟨x.w,x.I,fun i=>(lR σi i).bind x.β⟩
 have hx0:∀l i,(l,i)∈σi->x0.β i=x.β l:=fun l i h=>by simp only[x0,wW oki h,Option.bind_some]
 have hβ0:∀l i,mC 0 σi l=some i->x0.β i=x.β l:=fun l i h=>hx0 l i (IU (lo:=0) oki h).2
 have hx0':∀i p,x0.β i=some p->∃l,(l,i)∈σi/\x.β l=some p/\i<q:=by
  intro i p h;obtain⟨l,h1,h2⟩:=Option.bind_eq_some_iff.1 (show(lR σi i).bind x.β=some p from h);exact⟨l,lA h1,h2,qQ oki (lA h1)⟩
 have hs0:fL ν x0 (look m0):=by
  refine⟨fun i blk b base tot e1 e2=>?_,fun i j b base tot base' tot' e1 e2 e3 e4=>?_,hs.imm,fun i b base tot e=>?_,dt.le x _ (fun _ h=>h) (fun _ _=>rfl) hs.gd⟩
  .obtain⟨l,b',h1,h2,h3⟩:=hm0 i blk e1;rw[hx0 l i h1]at e2;obtain⟨o1,o2⟩:=hs.own l b' b base tot h2 e2;exact⟨o1,nN.re (x:=x) (x':=x0) rfl rfl hβ0 o2 h3⟩
  .obtain⟨l,h1,h2,_⟩:=hx0' i _ e3;obtain⟨l',h1',h2',_⟩:=hx0' j _ e4;have:=hs.inj l l' b base tot base' tot' (hlt _ _ h1) (hlt _ _ h1') h2 h2';subst this;have:=tJ oki h1;rw[tJ oki h1']at this;exact(bY this).symm
  .obtain⟨l,_,h2,_⟩:=hx0' i _ e;exact hs.eC l b base tot h2
 have hf0:fE ⟨q,m0⟩ x0:=by
  refine⟨fun i hi=>?_,fun i hi=>?_⟩
  .cases h:x0.β i with
   |none=>rfl
   |some p=>obtain⟨_,_,_,h4⟩:=hx0' i p h;simp only at hi;omega
  .cases h:look m0 i with
   |none=>exact absurd h hi
   |some b=>obtain⟨l,b',h1,_⟩:=hm0 i b h;exact qQ oki h1
 have hi:=Bq (P:=P) (ν:=ν) (cJ:=cJ) (x:=x0) (ds:=cs) (st:=⟨q,m0⟩) c4 c5 c6 (args:=args) ae hnp (fun i hi=>RD.re (x:=x) (x':=x0) rfl rfl hβ0 (hargs i ae) (hds i ae)) hs0 hf0;have hcs:=yh (C:={P,ν,cJ,slots:=slotsOf fn,ntmps:=fn.ntmps,vm:=Qa P fn}) (hΓ.at q) (qD fn).1 hmix x0 (fun l h=>hf0.β l h) body af.body c2 _ _ _ _ x0 hw hi (.refl _);refine calls_of_wp hf c1 (wp_mono hcs fun e a w' hp=>?_);obtain⟨e',x',env',st1,he,hxw,hst,hi',hh,hro,σo,q1,m1,st',vd',hfm,hvd,hK,hlk⟩:=hp;subst hxw;obtain⟨v,r1,r2,r3⟩:=vY hi' c3 hro
 let x2:X:=⟨x'.w,x'.I,fun l=>match lR σo l with|some i=>x'.β i|none=>x.β l⟩
 have hx2:∀i l,(i,l)∈σo->x2.β l=x'.β i:=fun i l h=>by simp only[x2,wW hfm.oko h]
 have hx2n:∀l,lR σo l=none->x2.β l=x.β l:=fun l h=>by simp only[x2,h]
 have hβ2:∀i l,mC 0 σo i=some l->x2.β l=x'.β i:=fun i l h=>hx2 i l (IU (lo:=0) hfm.oko h).2
 have hx0s:∀l i p,(l,i)∈σi->x.β l=some p->x'.β i=some p:=fun l i p h e=>hst.β _ _ (by rw[hx0 l i h];exact e)

 have hnew:∀i p,x'.β i=some p->(∃l,(l,i)∈σi/\x.β l=some p)\/x.w.heap.size<=p.1\/∃l p',(∃j,(l,j)∈σi)/\x.β l=some p'/\p'.1=p.1:=by
  intro i p e;rcases hst.newβ i p e with h|h|⟨j,p',h1,h2⟩
  .obtain⟨l,h3,h4,_⟩:=hx0' i p h;exact .inl ⟨l,h3,h4⟩
  .exact .inr (.inl h)
  .obtain⟨l,h3,h4,_⟩:=hx0' j p' h1;exact .inr (.inr ⟨l,p',⟨j,h3⟩,h4,h2⟩)
 have hstep:Step x x2:=by
  refine⟨hst.os,hst.tape,hst.output,hst.size,hst.I,hst.ou,fun l p hp=>?_,fun b hb hn=>hst.old b hb fun i p h e=>?_,fun b h=>?_,fun l p h=>?_⟩
  .cases h:lR σo l with
   |none=>rw[hx2n l h];exact hp
   |some i=>
    have hm:=lA h;rw[hx2 i l hm];rcases hfm.io i l hm with h2|h2
    .exact hx0s l i p h2 hp
    .rw[hfr.β l h2]at hp;cases hp
  .obtain⟨l,_,h2,_⟩:=hx0' i p h;exact hn l p h2 e
  .rcases hst.newI b h with h|h|⟨i,p,h1,h2⟩
   .exact .inl h
   .exact .inr (.inl h)
   .obtain⟨l,_,h3,_⟩:=hx0' i p h1;exact .inr (.inr ⟨l,p,h3,h2⟩)
  .cases h1:lR σo l with
   |none=>rw[hx2n l h1]at h;exact .inl h
   |some i=>
    have hm:=lA h1;rw[hx2 i l hm]at h;rcases hnew i p h with⟨l',h2,h3⟩|h2|⟨l',p',_,h3,h4⟩
    .exact .inr (.inr ⟨l',p,h3,rfl⟩)
    .exact .inr (.inl h2)
    .exact .inr (.inr ⟨l',p',h3,h4⟩)
 have hsim:fL ν x2 (look st'.m):=by
  refine⟨fun l blk b base tot e1 e2=>?_,fun l1 l2 b base tot base' tot' e1 e2 e3 e4=>?_,hi'.nZ.imm,fun l b base tot e=>?_,dt.le x' _ (fun _ h=>h) (fun _ _=>rfl) hi'.nZ.gd⟩
  .rcases hfm.m1 l blk e1 with⟨i,b1,h1,h2,h3⟩|⟨h1,h2,h3⟩
   .rw[hx2 i l h1]at e2;obtain⟨o1,o2⟩:=hi'.nZ.own i b1 b base tot (by rw[hlk];exact h2) e2;exact⟨o1,nN.re (x:=x') (x':=x2) rfl rfl hβ2 o2 h3⟩
   .rw[hx2n l h1]at e2;obtain⟨o1,o2⟩:=hs.own l blk b base tot h3 e2;have hlt:=hs.eC l b base tot e2;have hno:∀i p,x0.β i=some p->p.1≠b:=by
     rintro i ⟨b',base',tot'⟩ h e;simp only at e;subst e;obtain⟨l',h4,h5,_⟩:=hx0' i _ h;have:=hs.inj l' l b' base' tot' base tot (hfm.lt _ _ h4) (by rw[h3];simp) h5 e2;subst this;exact h2 _ h4
    refine⟨fun h=>?_,o2.mono hstep.le (hst.old b hlt hno)⟩;rcases hst.newI b h with h|h|⟨i,p,h4,h5⟩
    .exact o1 h
    .exact absurd hlt (Nat.not_lt.2 h)
    .exact hno i p h4 h5
  .have mix:∀l1 l2 base tot base' tot',(∃i b1,(i,l1)∈σo/\look m1 i=some b1)->lR σo l2=none->(∀i,(l2,i)∉σi)->look st.m l2≠none->x2.β l1=some (b,base,tot)->x2.β l2=some (b,base',tot')->False:=by
    rintro l1 l2 base tot base' tot' ⟨i,b1,h1,h2⟩ h3 h4 h5 e3 e4;rw[hx2 i l1 h1]at e3;rw[hx2n l2 h3]at e4;rcases hnew i _ e3 with⟨l',h6,h7⟩|h6|⟨l',⟨pb,pt,pq⟩,⟨j,h6⟩,h7,h8⟩
    .have:=hs.inj l' l2 b base tot base' tot' (hfm.lt _ _ h6) h5 h7 e4;subst this;exact h4 _ h6
    .have:=hs.eC l2 b base' tot' e4;simp only at h6;omega
    .simp only at h8;subst h8;have:=hs.inj l' l2 pb pt pq base' tot' (hfm.lt _ _ h6) h5 h7 e4;subst this;exact h4 _ h6
   cases f1:look st'.m l1 with
   |none=>exact absurd f1 e1
   |some b1=>
    cases f2:look st'.m l2 with
    |none=>exact absurd f2 e2
    |some b2=>
     rcases hfm.m1 l1 b1 f1 with⟨i,c1,h1,h2,_⟩|⟨h1,h2,h3⟩<;>rcases hfm.m1 l2 b2 f2 with⟨j,c2,k1,k2,_⟩|⟨k1,k2,k3⟩
     .rw[hx2 i l1 h1]at e3;rw[hx2 j l2 k1]at e4;have:=hi'.nZ.inj i j b base tot base' tot' (by rw[hlk,h2];simp) (by rw[hlk,k2];simp) e3 e4;subst this;have:=tJ hfm.oko h1;rw[tJ hfm.oko k1]at this;exact(bY this).symm
     .exact(mix l1 l2 base tot base' tot' ⟨i,c1,h1,h2⟩ k1 k2 (by rw[k3];simp) e3 e4).elim
     .exact(mix l2 l1 base' tot' base tot ⟨j,c2,k1,k2⟩ h1 h2 (by rw[h3];simp) e4 e3).elim
     .rw[hx2n l1 h1]at e3;rw[hx2n l2 k1]at e4;exact hs.inj l1 l2 b base tot base' tot' (by rw[h3];simp) (by rw[k3];simp) e3 e4
  .cases h1:lR σo l with
   |none=>rw[hx2n l h1]at e;exact eF (hs.eC l b base tot e) hst.size
   |some i=>
    rw[hx2 i l (lA h1)]at e;exact hi'.nZ.eC i b base tot e
 have hfr2:fE st' x2:=by
  refine⟨fun l hl=>?_,fun l hl=>?_⟩
  .cases h1:lR σo l with
   |none=>rw[hx2n l h1];exact hfr.β l (by have:=hfm.nx;omega)
   |some i=>have:=qQ hfm.oko (lA h1);omega
  .cases f1:look st'.m l with
   |none=>exact absurd f1 hl
   |some b1=>
    rcases hfm.m1 l b1 f1 with⟨i,c1,h1,_⟩|⟨_,_,h3⟩
    .exact qQ hfm.oko h1
    .have:=hfr.m l (by rw[h3];simp);have:=hfm.nx;omega
 have hrd:=RD.re (ν:=ν) (x:=x') (x':=x2) rfl rfl hβ2 r2 hvd;rcases Ex.Is hh with h|h<;>rw[h]at he<;>subst he<;>exact⟨hi'.defers,v,r1,x2,vd',st',hK,rfl,hstep,hrd,hsim,hfr2⟩
end
end
section
structure YQ where
 tr:List D->St->(D->St->Prop)->Prop
 mu:List D->St->Nat
 mono:∀(ds:List D) (st:St) (K K':D->St->Prop),(∀d st',K d st'->K' d st')->tr ds st K->tr ds st K'
def YQ.no:YQ:=⟨fun _ _ _=>False,fun _ _=>0,fun _ _ _ _ _ h=>h⟩
def jT (af:aD)(Q:D->List (Nat×bG)->Prop):Ex->List bL->St->Prop:=fun e env st=>e.home/\sK st.m env af.res/\∃m1,(∀i,look st.m i=look m1 i)/\Q (qz af env st) m1
def cn {af:aD}{Q:D->List (Nat×bG)->Prop}{vd:D}{m1:List (Nat×bG)}{e:Ex}{env:List bL}{st:St}(h1:e.home)(h2:sK st.m env af.res)(h3:qz af env st=vd)(h4:st.m=m1)(h5:Q vd m1):jT af Q e env st:=⟨h1,h2,m1,fun i=>by rw[h4],by rw[h3];exact h5⟩
def One (vd:D)(m1:List (Nat×bG)):D->List (Nat×bG)->Prop:=fun d m=>d=vd/\m=m1
def oneq (vd:D)(m1:List (Nat×bG)):One vd m1 vd m1:=⟨rfl,rfl⟩
section
variable [dt] {P:Program} {ν:List (Nat×Nat)} {cJ:List Nat} {Y:Ctx}
def Nb (P:Program)(ν:List (Nat×Nat))(Γ':Ctx)(cJ:List Nat)(tr:List D->St->(D->St->Prop)->Prop)(fid:Nat):Prop:=
 ∀(ds:List D) (st:St) (K:D->St->Prop),tr ds st K->Ok P ν cJ Γ'->∀(x:X) (args:Array Value),args.size=ds.length->(∀i,i<ds.length->RD ν x (args.getD i undef) (ds.getD i .any))->fL ν x (look st.m)->fE st x->
  jf P x (fun v x'=>∃d st',K d st'/\Step x x'/\RD ν x' v d/\fL ν x' (look st'.m)/\fE st' x') ((callFunc fid args).run P x.w)
end
end
section
abbrev RT:=List D->D->Prop
abbrev FT:=D->List D->D->D->Prop
abbrev TT:=List D->St->(D->St->Prop)->Prop
def Dc (T:TT):Prop:=∀ds st K K',(∀d st',K d st'->K' d st')->T ds st K->T ds st K'
def Cd (A:RT->Prop):RT:=fun ds d=>∀T,A T->T ds d
def S6 (T:TT):Ctx:=⟨fun _ _=>False,fun _ _=>.any,fun _=>T,fun _ _ _=>False,fun _ _ _=>.any,fun _ _ _=>.any,0⟩
def Ot (C:Ctx->Prop):TT:=fun ds st K=>∀T,Dc T->C (S6 T)->T ds st K
def D2 (C:Ctx->Prop):Dc (Ot C):=fun _ _ _ _ h h1 T hT hC=>hT _ _ _ _ h (h1 T hT hC)
def noR:RT:=fun _ _=>False
def Zd:FT:=fun _ _ _ _=>False
def noT:TT:=fun _ _ _=>False
def Eb:Dc noT:=fun _ _ _ _ _ h=>h.elim
structure pM where
 key:Nat
 rel:RT
 mu:List D->Nat
 relF:FT
 tr:TT
 muE:List D->St->Nat
 mono:Dc tr
def mu0:List D->Nat:=fun _=>0
def UX:List D->St->Nat:=fun _ _=>0
def nt:pM:=⟨0,noR,mu0,Zd,noT,UX,Eb⟩
def rP (k:Nat)(A:RT->Prop)(mu:List D->Nat:=mu0):pM:=⟨k,Cd A,mu,Zd,noT,UX,Eb⟩
def rG (k:Nat)(C:Ctx->Prop)(mu:List D->St->Nat:=UX):pM:=⟨k,noR,mu0,Zd,Ot C,mu,D2 C⟩
noncomputable def pick (r:D->Prop):D:=Classical.epsilon r
def oy {r:D->Prop}(h:∃d,r d):r (pick r):=Classical.epsilon_spec h
def Xx (R:RT):Prop:=∀ds d d',R ds d->R ds d'->d=d'
def Xy (R:FT):Prop:=∀d ds v s v' s',R d ds v s->R d ds v' s'->v=v'/\s=s'
def Uz {A:RT->Prop}(h:A fun ds d=>A fun ds' d'=>ds'=ds->d=d'):Xx (Cd A):=fun ds d d' h1 h2=>h2 _ (h1 _ h) rfl
noncomputable def zU (t:List (Nat×pM)):Ctx where
 pre n ds:=∃d,(lk t n nt).rel ds d
 val n ds:=pick ((lk t n nt).rel ds)
 tr n:=(lk t n nt).tr
 fp n d ds:=∃v s,(lk t n nt).relF d ds v s
 fv n d ds:=pick fun v=>∃s,(lk t n nt).relF d ds v s
 fs n d ds:=pick fun s=>∃v,(lk t n nt).relF d ds v s
 lo:=0
def Py (t:List (Nat×pM)):Uk:=⟨fun n=>(lk t n nt).key,fun n=>(lk t n nt).mu,fun n=>(lk t n nt).muE⟩
noncomputable abbrev under (t:List (Nat×pM))(k u:Nat):Ctx:=(zU t).under (Py t) k u
def wg (t:List (Nat×pM))(k u n:Nat):(((zU t).under (Py t) k u).at n).bU:=
 fun f ds st K K' h hh=>⟨hh.1,(lk t f nt).mono ds st K K' h hh.2⟩
section
variable {t:List (Nat×pM)} {n k u:Nat} {ds:List D} {d v s:D} {st:St} {K:D->St->Prop}
def VY (hD:Xx (lk t n nt).rel)(hk:(lk t n nt).key<k\/(lk t n nt).key=k/\(lk t n nt).mu ds<u)(h:(lk t n nt).rel ds d):(under t k u).pre n ds/\(under t k u).val n ds=d:=
 ⟨⟨hk,d,h⟩,hD _ _ _ (oy ⟨d,h⟩) h⟩
def uS (hk:(lk t n nt).key<k\/(lk t n nt).key=k/\(lk t n nt).muE ds st<u)(h:(lk t n nt).tr ds st K):(under t k u).tr n ds st K:=⟨hk,h⟩
end
section
variable [dt] {P:Program} {ν:List (Nat×Nat)} {cJ:List Nat} {Y:Ctx} {t:List (Nat×pM)} {fid n key:Nat}
def HE (P:Program)(ν:List (Nat×Nat))(cJ:List Nat)(Y:Ctx)(fid:Nat)(ds:List D)(d:D):Prop:=Ok P ν cJ Y->∀(x:X) (args:Array Value),args.size=ds.length->(∀i,i<ds.length->RD ν x (args.getD i undef) (ds.getD i .any))->bx ds=true->
  (∀b,x.I b->b<x.w.heap.size)->dt.gd x->jf P x (fun v x'=>mW x x'/\RD ν x' v d) ((callFunc fid args).run P x.w)
def SE (P:Program)(ν:List (Nat×Nat))(cJ:List Nat)(Y:Ctx)(fid:Nat)(d:D)(ds:List D)(vd new:D):Prop:=Ok P ν cJ Y->∀(x:X) (f:Nat->Option bG) (args:Array Value) (l k:Nat),args.size=ds.length+1->
   RD ν x (args.getD 0 undef) (.ptr l k 0 0)->(∀i,i<ds.length->RD ν x (args.getD (i+1) undef) (ds.getD i .any))->fL ν x f->f l=some (.buf k [d])->d.bF=true->bx ds=true->
   jf P x (fun v x'=>Step x x'/\RD ν x' v vd/\fL ν x' (fun l'=>if l'=l then some (.buf k [new])else f l')/\x'.β=x.β) ((callFunc fid args).run P x.w)
def pK (P:Program)(ν:List (Nat×Nat))(cJ:List Nat)(Y:Ctx)(fid:Nat)(ds:List D)(st:St)(K:D->St->Prop):Prop:=Ok P ν cJ Y->∀(x:X) (args:Array Value),args.size=ds.length->(∀i,i<ds.length->RD ν x (args.getD i undef) (ds.getD i .any))->fL ν x (look st.m)->fE st x->
  jf P x (fun v x'=>∃d st',K d st'/\Step x x'/\RD ν x' v d/\fL ν x' (look st'.m)/\fE st' x') ((callFunc fid args).run P x.w)
structure YN (P:Program)(ν:List (Nat×Nat))(cJ:List Nat)(t:List (Nat×pM))(fid n:Nat):Prop where
 p:∀ds d,(lk t n nt).rel ds d->HE P ν cJ (under t (lk t n nt).key ((lk t n nt).mu ds)) fid ds d
 f:Xy (lk t n nt).relF/\∀d ds v s,(lk t n nt).relF d ds v s->SE P ν cJ (under t (lk t n nt).key ((lk t n nt).mu (d::ds))) fid d ds v s
 g:∀ds st K,(lk t n nt).tr ds st K->pK P ν cJ (under t (lk t n nt).key ((lk t n nt).muE ds st)) fid ds st K
def okA (hsm:∀fid n,eI ν fid=some n->n<1000000)(hB:∀t,cJ.contains (1000000000+t)=true->t=dt.tB)(h:∀fid n,eI ν fid=some n->YN P ν cJ t fid n):Ok P ν cJ (zU t):=by
 refine Ze (Py t) hsm hB (fun fid n hn ds hp hok=>(h fid n hn).p ds _ (oy hp) hok) (fun fid n hn _ d ds hp hok=>?_) (fun fid n hn ds st K htr hok=>(h fid n hn).g ds st K htr hok);obtain⟨v,s,hr⟩:=hp;obtain⟨hD,hf⟩:=(h fid n hn).f;have h2:(zU t).fv n d ds=v/\(zU t).fs n d ds=s:=by
  constructor
  .obtain⟨s',h'⟩:=oy (r:=fun v=>∃s,(lk t n nt).relF d ds v s) ⟨v,s,hr⟩;exact(hD _ _ _ _ _ _ h' hr).1
  .obtain⟨v',h'⟩:=oy (r:=fun s=>∃v,(lk t n nt).relF d ds v s) ⟨s,v,hr⟩;exact(hD _ _ _ _ _ _ h' hr).2
 rw[h2.1,h2.2];exact hf d ds v s hr hok
def Cj {Y:D->List D->Ctx}:Xy Zd/\∀d ds v s,Zd d ds v s->SE P ν cJ (Y d ds) fid d ds v s:=⟨fun _ _ _ _ _ _ h=>h.elim,fun _ _ _ _ h=>h.elim⟩
def bn {A:RT->Prop}{mu:List D->Nat}(hr:lk t n nt=rP key A mu)(h:A fun ds d=>HE P ν cJ (under t key (mu ds)) fid ds d):YN P ν cJ t fid n:=by
 refine⟨?_, ?_, ?_⟩<;>rw[hr]
 .exact fun ds d hd=>hd (fun ds d=>HE P ν cJ (under t key (mu ds)) fid ds d) h
 .exact Cj
 .exact fun _ _ _ h=>h.elim
def La {Y:List D->St->Ctx}:Dc fun ds st K=>pK P ν cJ (Y ds st) fid ds st K:=fun ds st K K' h hg hok x args hl ha hs hf=>(hg hok x args hl ha hs hf).mono fun v x' ⟨d,st',h1,h2⟩=>⟨d,st',h _ _ h1,h2⟩
def mB {C:Ctx->Prop}{mu:List D->St->Nat}(hr:lk t n nt=rG key C mu)(h:C (S6 fun ds st K=>pK P ν cJ (under t key (mu ds st)) fid ds st K)):YN P ν cJ t fid n:=by
 refine⟨?_, ?_, ?_⟩<;>rw[hr]
 .exact fun _ _ h=>h.elim
 .exact Cj
 .exact fun ds st K hd=>hd (fun ds st K=>pK P ν cJ (under t key (mu ds st)) fid ds st K) La h
def MM (P:Program)(ν:List (Nat×Nat))(cJ:List Nat)(fid:Nat)(af:aD):Prop:=(P.funcs[fid]?).map (fun f=>(compile P ν cJ f,f.name== "runtime.NumGoroutine"))=some (some af,false)
def MM.split {af:aD}(h:MM P ν cJ fid af):∃fn,P.funcs[fid]? =some fn/\compile P ν cJ fn=some af/\(fn.name== "runtime.NumGoroutine")=false:=by
 grind [MM]
def aO {af:aD}{ds:List D}{d:D}(hmix:P.follows .mixedOrders=true)(hC:MM P ν cJ fid af)(h1:ds.length=af.np)(h2:bB (Y.at 0) af.body (Ul af d) (fM af ds) ⟨0,[]⟩):HE P ν cJ Y fid ds d:=by
 intro hok x args hl hargs hnl himm hgd;obtain⟨fn,hf,hc,hn⟩:=hC.split;obtain⟨body,c1,_⟩:=mq hc;exact .inr ⟨fid,args,jZ hf hn (by rw[c1];rfl) args x.w,Q5 hok hmix hf hc hl hargs hnl himm hgd h1 h2⟩
def yC {af:aD}{ds:List D}{st:St}{K:D->St->Prop}{σi:List (Nat×Nat)}{q:Nat}{m0:List (Nat×bG)}{cs:List D}{Q:D->List (Nat×bG)->Prop}(hmono:∀q,(Y.at q).bU)(hmix:P.follows .mixedOrders=true)(hC:MM P ν cJ fid af)
  (h1:cs.length=ds.length) (h2:∀i,i<ds.length->Qm 0 σi (ds.getD i .any) (cs.getD i .any)) (h3:cs.length=af.np)
  (h4:ix 0 q σi=true) (h5:∀l i,(l,i)∈σi->look st.m l≠none) (h6:∀i b,look m0 i=some b->∃l b',(l,i)∈σi/\look st.m l=some b'/\rQ 0 σi b' b)
  (h7:bB (Y.at q) af.body (jT af Q) (fM af cs) ⟨q,m0⟩) (h8:∀d m1,Q d m1->∃(σo:List (Nat×Nat)) (q1:Nat) (st':St) (vd':D),Fr σi σo q q1 m0 m1 st st'/\Qm 0 σo d vd'/\K vd' st'):pK P ν cJ Y fid ds st K:=by
 intro hok x args hl hargs hs hfr;obtain⟨fn,hf,hc,hn⟩:=hC.split;obtain⟨body,c1,_⟩:=mq hc;refine .inr ⟨fid,args,jZ hf hn (by rw[c1];rfl) args x.w, ?_⟩;refine Calls.mono (Q4 (K:=K) hok hmix hf hc hl hargs hs hfr h1 h2 h3 h4 h5 h6 (gy (hmono q) _ _ _ _ _ (fun e env st1 h=>?_) h7)) fun e w' he=>?_
 .obtain⟨g1,g2,m1,g3,g4⟩:=h
  grind
 grind
end
end
end Go.Abs
