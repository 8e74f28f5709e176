/- A part of the proofs. -/
import Derived.IntWalk
import Derived.KernelRfl
import Derived.Lib.TrimUEq
import Derived.Test.YtgnjlompgjhaaaaGreatDoorP03
set_option linter.all false
set_option maxRecDepth 4000
namespace Go.Abs
section
section
variable {Y:Ctx} {Q Q':Ex->List cd->St->Prop} {env:List cd} {st:St}
def Ctx.cj (Y:Ctx):Prop:=∀f ds st (K K':D->St->Prop),(∀d st,K d st->K' d st)->Y.tr f ds st K->Y.tr f ds st K'
def lT {draw:Bool}{K K':List cd->St->Prop}(h:∀vs st,K vs st->K' vs st)(htr:Y.cj):∀(l:List GI) (env vs:List cd) (st:St),iE Y draw l env vs st K->iE Y draw l env vs st K'
 |[],env,vs,st,hh=>h _ _ hh
 |⟨i,g⟩::r,env,vs,st,hh=>by
  cases hcm:i.dM with
  |true=>
   cases i<;>simp only[aU.dM]at hcm<;>try(cases hcm;done)
   .exact⟨hh.1,fun hf=>⟨(hh.2.1 hf).1,htr _ _ _ _ _ (fun d st' ⟨h1,h2⟩=>⟨h1,lT h htr r _ _ _ h2⟩) (hh.2.1 hf).2⟩,fun hf=>lT h htr r _ _ _ (hh.2.2 hf)⟩
   .rename_i fv args;simp only[iE]at hh⊢;refine⟨hh.1,hh.2.1,hh.2.2.1, ?_⟩;have h3:=hh.2.2.2;cases hd:(Src.ev env vs fv).d<;>simp only[hd]at h3⊢;exact htr _ _ _ _ _ (fun d st' ⟨h1,h2⟩=>⟨h1,lT h htr r _ _ _ h2⟩) h3
  |false=>
   cases hf:i.ug draw g with
   |true=>
    rw[B3 hcm hf]at hh⊢;exact⟨hh.1,fun e=>⟨(hh.2.1 e).1,lT h htr r _ _ _ (hh.2.1 e).2⟩,fun e=>lT h htr r _ _ _ (hh.2.2 e)⟩
   |false=>
    rw[nH hcm hf]at hh⊢;exact⟨hh.1,hh.2.1,fun ha=>(hh.2.2 ha).imp fun _ h2=>⟨h2.1,lT h htr r _ _ _ h2.2⟩⟩
def Gh.mono {lo:Nat}{p q:List cd->St->Prop}(h:∀env st,p env st->q env st):Gh lo p env st->Gh lo q env st
 |⟨e,s,h1,h2⟩=>⟨e,s,h1,h _ _ h2⟩
def Gh.intro {lo:Nat}{p:List cd->St->Prop}(h:p env st):Gh lo p env st:=⟨env,st,.refl _ _,h⟩
def hH (htr:Y.cj):∀(a:AC) (Q Q':Ex->List cd->St->Prop) (env:List cd) (st:St),(∀e env st,Q e env st->Q' e env st)->bP Y a Q env st->bP Y a Q' env st
 | .reg draw ins cm,Q,Q',env,st,h,hh=>Gh.mono (fun env st h2=>lT (fun vs st=>h _ _ _) htr _ _ _ _ h2) hh
 | .seq a b,Q,Q',env,st,h,hh=>Gh.mono (fun env st h2=>hH htr a _ _ env st (fun e env st h2=>by
   cases e with
   |normal=>exact hH htr b Q Q' env st h h2
   |exit id=>exact h _ _ _ h2
   |ret=>exact h _ _ _ h2) h2) hh
 | .cond c a b,Q,Q',env,st,h,hh=>Gh.mono (fun env st h2=>by
  refine⟨h2.1, ?_⟩;have:=h2.2;cases hd:(c.ev env []).d<;>simp only[hd]at this⊢;exact⟨fun ht=>hH htr a Q Q' env st h (this.1 ht),fun ht=>hH htr b Q Q' env st h (this.2 ht)⟩) hh
 | .block id a,Q,Q',env,st,h,hh=>Gh.mono (fun env st h2=>hH htr a _ _ env st (fun e env st h2=>by
   cases e with
   |normal=>exact h _ _ _ h2
   |exit j=>simp only at h2⊢;split<;>rename_i hj<;>simp only[hj,a7,a8]at h2<;>exact h _ _ _ h2
   |ret=>exact h _ _ _ h2) h2) hh
 | .loop a,Q,Q',env,st,h,hh=>Gh.mono (fun env st h2=>by
  obtain⟨I,μ,h1,h2⟩:=h2;refine⟨I,μ,h1,fun env st hi=>hH htr a _ _ env st (fun e env' st' h3=>?_) (h2 env st hi)⟩;cases e with
  |normal=>exact h3
  |exit id=>exact h _ _ _ h3
  |ret=>exact h _ _ _ h3) hh
 | .exit id,Q,Q',env,st,h,hh=>Gh.mono (fun _ _=>h _ _ _) hh
 | .ret,Q,Q',env,st,h,hh=>Gh.mono (fun _ _=>h _ _ _) hh
 | .skip,Q,Q',env,st,h,hh=>Gh.mono (fun _ _=>h _ _ _) hh
def hE {a:AC}{env':List cd}{st':St}(g:br Y.lo env st env' st')(h:bP Y a Q env' st'):bP Y a Q env st:=by
 cases a<;>(obtain⟨e2,s2,g2,h2⟩:=h;exact⟨e2,s2,.trans _ _ _ _ _ _ g g2,h2⟩)
def BQ (Y:Ctx)(id:Nat)(r:AC)(Q:Ex->List cd->St->Prop):Ex->List cd->St->Prop:=fun e env st=>match e with
 | .normal=>bP Y r Q env st
 | .exit j=>if j=id then bP Y r Q env st else Q (.exit j) env st
 | .ret=>Q .ret env st
def LQ (Y:Ctx)(id:Nat)(r:AC)(next:List cd->St->Prop)(Q:Ex->List cd->St->Prop):Ex->List cd->St->Prop:=fun e env st=>match e with
 | .normal=>next env st
 | .exit j=>if j=id then bP Y r Q env st else Q (.exit j) env st
 | .ret=>Q .ret env st
def BQ.normal {id:Nat}{r:AC}(h:bP Y r Q env st):BQ Y id r Q .normal env st:=h
def BQ.out {id:Nat}{r:AC}(h:bP Y r Q env st):BQ Y id r Q (.exit id) env st:=by simp only[BQ,a7];exact h
def BQ.other {id j:Nat}{r:AC}(hj:(j==id)=false)(h:Q (.exit j) env st):BQ Y id r Q (.exit j) env st:=by simp only[BQ,ak (by simpa using hj)];exact h
def BQ.ret {id:Nat}{r:AC}(h:Q .ret env st):BQ Y id r Q .ret env st:=h
def LQ.normal {id:Nat}{r:AC}{next:List cd->St->Prop}(h:next env st):LQ Y id r next Q .normal env st:=h
def LQ.out {id:Nat}{r:AC}{next:List cd->St->Prop}(h:bP Y r Q env st):LQ Y id r next Q (.exit id) env st:=by simp only[LQ,a7];exact h
def LQ.other {id j:Nat}{r:AC}{next:List cd->St->Prop}(hj:(j==id)=false)(h:Q (.exit j) env st):LQ Y id r next Q (.exit j) env st:=by simp only[LQ,ak (by simpa using hj)];exact h
def LQ.ret {id:Nat}{r:AC}{next:List cd->St->Prop}(h:Q .ret env st):LQ Y id r next Q .ret env st:=h
def Qt {a b c:AC}(h:bP Y (.seq a (.seq b c)) Q env st):bP Y (.seq (.seq a b) c) Q env st:=by
 obtain⟨e1,s1,g1,h1⟩:=h;refine⟨e1,s1,g1,e1,s1,.refl _ _, ?_⟩;have:∀(Q1 Q2:Ex->List cd->St->Prop),Q1=Q2->bP Y a Q1 e1 s1->bP Y a Q2 e1 s1:=fun _ _ e h=>e▸h
 refine this _ _ ?_ h1;funext e env st;cases e with
 |normal=>exact propext ⟨fun⟨e2,s2,g2,h2⟩=>hE g2 h2,fun h=>⟨_,_,.refl _ _,h⟩⟩
 |exit id=>rfl
 |ret=>rfl
def Iy {b:AC}(h:bP Y b Q env st):bP Y (.seq .skip b) Q env st:=.intro (.intro h)
def wp_skip (h:Q .normal env st):bP Y .skip Q env st:=.intro h
def M9 {b:AC}(h:Q .ret env st):bP Y (.seq .ret b) Q env st:=.intro (.intro h)
def wp_ret (h:Q .ret env st):bP Y .ret Q env st:=.intro h
def Ix {id:Nat}{b:AC}(h:Q (.exit id) env st):bP Y (.seq (.exit id) b) Q env st:=.intro (.intro h)
def wp_exit {id:Nat}(h:Q (.exit id) env st):bP Y (.exit id) Q env st:=.intro h
def Gq {id:Nat}{a r:AC}(h:bP Y a (BQ Y id r Q) env st)(htr:Y.cj):bP Y (.seq (.block id a) r) Q env st:=by
 refine .intro (.intro (hH htr a _ _ _ _ (fun e env st h=>?_) h));cases e with
 |normal=>exact h
 |exit j=>simp only[BQ]at h⊢;split<;>rename_i hj<;>simp only[hj,a7,a8]at h<;>exact h
 |ret=>exact h
def wp_block {id:Nat}{a:AC}(h:bP Y a (BQ Y id .skip Q) env st)(htr:Y.cj)(hQ:∀e env env' st st',br Y.lo env st env' st'->Q e env' st'->Q e env st):bP Y (.block id a) Q env st:=by
 refine .intro (hH htr a _ _ _ _ (fun e env st h=>?_) h);have hs:∀env st,bP Y .skip Q env st->Q .normal env st:=fun env st ⟨e2,s2,g2,h2⟩=>hQ _ _ _ _ _ g2 h2
 cases e with
 |normal=>exact hs _ _ h
 |exit j=>simp only[BQ]at h⊢;split<;>rename_i hj<;>simp only[hj,a7,a8]at h<;>first|exact hs _ _ h|exact h
 |ret=>exact h
def CQ (next:List cd->St->Prop)(Q:Ex->List cd->St->Prop):Ex->List cd->St->Prop:=fun e env st=>match e with
 | .normal=>next env st
 | .exit j=>Q (.exit j) env st
 | .ret=>Q .ret env st
def CQ.normal {next:List cd->St->Prop}(h:next env st):CQ next Q .normal env st:=h
def CQ.other {next:List cd->St->Prop}{j:Nat}(h:Q (.exit j) env st):CQ next Q (.exit j) env st:=h
def CQ.ret {next:List cd->St->Prop}(h:Q .ret env st):CQ next Q .ret env st:=h
def GD (id:Nat)(Q:Ex->List cd->St->Prop):Ex->List cd->St->Prop:=fun e env st=>match e with
 | .normal=>Q .normal env st
 | .exit j=>if j=id then Q .normal env st else Q (.exit j) env st
 | .ret=>Q .ret env st
def GD.normal {id:Nat}(h:Q .normal env st):GD id Q .normal env st:=h
def GD.out {id:Nat}(h:Q .normal env st):GD id Q (.exit id) env st:=by simp only[GD,a7];exact h
def GD.other {id j:Nat}(hj:(j==id)=false)(h:Q (.exit j) env st):GD id Q (.exit j) env st:=by grind [GD]
def GD.ret {id:Nat}(h:Q .ret env st):GD id Q .ret env st:=h
def M8 {id:Nat}{a:AC}(h:bP Y a (GD id Q) env st)(htr:Y.cj):bP Y (.block id a) Q env st:=by
 refine .intro (hH htr a _ _ _ _ (fun e env st h=>?_) h);cases e with
 |normal=>exact h
 |exit j=>simp only[GD]at h⊢;split<;>rename_i hj<;>simp only[hj,a7,a8]at h<;>exact h
 |ret=>exact h
def DW (htr:Y.cj){a b:AC}{ι:Type}(F:ι->List cd)(G:ι->List (Nat×b7))(c:Nat)(P:ι->Prop)
  (h1:bP Y a (CQ (fun env' st'=>∃j,P j/\br Y.lo env' st' (F j) ⟨c,G j⟩) Q) env st)
  (h2:∀i,P i->bP Y b Q (F i) ⟨c,G i⟩):bP Y (.seq a b) Q env st:=by
 refine .intro (hH htr a _ _ _ _ (fun e env st h=>?_) h1);cases e with
 |normal=>obtain⟨j,hj,g⟩:=h;exact hE g (h2 j hj)
 |exit j=>exact h
 |ret=>exact h
def bh (htr:Y.cj){a r:AC}{id:Nat}{ι:Type}(F:ι->List cd)(G:ι->List (Nat×b7))(c:Nat)(P:ι->Prop)(μ:ι->Nat)(i0:ι)
  (hP:P i0) (h0:br Y.lo env st (F i0) ⟨c,G i0⟩)
  (hr:∀i,P i->bP Y a (LQ Y id r (fun env' st'=>∃j,P j/\μ j<μ i/\br Y.lo env' st' (F j) ⟨c,G j⟩) Q) (F i) ⟨c,G i⟩):bP Y (.seq (.block id (.loop a)) r) Q env st:=by
 let W:List cd->St->Nat->Prop:=fun env st k=>∃i,env=F i/\st=⟨c,G i⟩/\P i/\μ i=k
 have least:∀env st,(∃k,W env st k)->∃k,W env st k/\∀k',W env st k'->k<=k':=by
  intro env st ⟨k,hk⟩;induction k using Nat.strongRecOn with
  |_ k ih=>
   by_cases h:∃k',k'<k/\W env st k'
   .obtain⟨k',h1,h2⟩:=h;exact ih k' h1 h2
   .exact⟨k,hk,fun k' hk'=>by
     rcases hX k' k with h1|h1
     .exact absurd ⟨k',h1,hk'⟩ h
     .exact h1⟩
 open Classical in
 refine .intro (.intro ⟨_,_,h0,fun env st=>∃k,W env st k,fun env st=>if h:∃k,W env st k then Classical.choose (least env st h)else 0,⟨_,i0,rfl,rfl,hP,rfl⟩,fun env st hk=>?_⟩);obtain⟨⟨i,e1,e2,e3,e5⟩,hmin⟩:=Classical.choose_spec (least env st hk);have:=hr i e3;rw[<-e1,<-e2]at this;refine hH htr a _ _ env st ?_ this
 .intro e env' st' h;cases e with
  |normal=>
   obtain⟨j,b3,b5,g⟩:=h;have hW:W (F j) ⟨c,G j⟩ (μ j):=⟨j,rfl,rfl,b3,rfl⟩;refine⟨F j,⟨c,G j⟩,g,⟨_,hW⟩, ?_⟩;show(if h:∃k,W (F j) ⟨c,G j⟩ k then Classical.choose (least _ _ h)else 0)<(if h:∃k,W env st k then Classical.choose (least env st h)else 0);rw[dif_pos ⟨_,hW⟩,dif_pos hk,<-e5];exact Nat.lt_of_le_of_lt ((Classical.choose_spec (least _ _ ⟨_,hW⟩)).2 _ hW) b5
  |exit j=>simp only[LQ]at h⊢;split<;>rename_i hj<;>simp only[hj,a7,a8]at h<;>exact h
  |ret=>exact h
def GH (id:Nat)(next:List cd->St->Prop)(Q:Ex->List cd->St->Prop):Ex->List cd->St->Prop:=fun e env st=>match e with
 | .normal=>next env st
 | .exit j=>if j=id then Q .normal env st else Q (.exit j) env st
 | .ret=>Q .ret env st
def GH.normal {id:Nat}{next:List cd->St->Prop}(h:next env st):GH id next Q .normal env st:=h
def GH.out {id:Nat}{next:List cd->St->Prop}(h:Q .normal env st):GH id next Q (.exit id) env st:=by simp only[GH,a7];exact h
def GH.other {id j:Nat}{next:List cd->St->Prop}(hj:(j==id)=false)(h:Q (.exit j) env st):GH id next Q (.exit j) env st:=by grind [GH]
def GH.ret {id:Nat}{next:List cd->St->Prop}(h:Q .ret env st):GH id next Q .ret env st:=h
def qi (htr:Y.cj){a:AC}{id:Nat}{ι:Type}(F:ι->List cd)(G:ι->List (Nat×b7))(c:Nat)(P:ι->Prop)(μ:ι->Nat)(i0:ι)
  (hP:P i0) (h0:br Y.lo env st (F i0) ⟨c,G i0⟩)
  (hr:∀i,P i->bP Y a (GH id (fun env' st'=>∃j,P j/\μ j<μ i/\br Y.lo env' st' (F j) ⟨c,G j⟩) Q) (F i) ⟨c,G i⟩):bP Y (.block id (.loop a)) Q env st:=by
 let W:List cd->St->Nat->Prop:=fun env st k=>∃i,env=F i/\st=⟨c,G i⟩/\P i/\μ i=k
 have least:∀env st,(∃k,W env st k)->∃k,W env st k/\∀k',W env st k'->k<=k':=by
  intro env st ⟨k,hk⟩;induction k using Nat.strongRecOn with
  |_ k ih=>
   by_cases h:∃k',k'<k/\W env st k'
   .obtain⟨k',h1,h2⟩:=h;exact ih k' h1 h2
   .exact⟨k,hk,fun k' hk'=>by
     rcases hX k' k with h1|h1
     .exact absurd ⟨k',h1,hk'⟩ h
     .exact h1⟩
 open Classical in
 refine .intro ⟨_,_,h0,fun env st=>∃k,W env st k,fun env st=>if h:∃k,W env st k then Classical.choose (least env st h)else 0,⟨_,i0,rfl,rfl,hP,rfl⟩,fun env st hk=>?_⟩;obtain⟨⟨i,e1,e2,e3,e5⟩,hmin⟩:=Classical.choose_spec (least env st hk);have:=hr i e3;rw[<-e1,<-e2]at this;refine hH htr a _ _ env st ?_ this
 .intro e env' st' h;cases e with
  |normal=>
   obtain⟨j,b3,b5,g⟩:=h;have hW:W (F j) ⟨c,G j⟩ (μ j):=⟨j,rfl,rfl,b3,rfl⟩;refine⟨F j,⟨c,G j⟩,g,⟨_,hW⟩, ?_⟩;show(if h:∃k,W (F j) ⟨c,G j⟩ k then Classical.choose (least _ _ h)else 0)<(if h:∃k,W env st k then Classical.choose (least env st h)else 0);rw[dif_pos ⟨_,hW⟩,dif_pos hk,<-e5];exact Nat.lt_of_le_of_lt ((Classical.choose_spec (least _ _ ⟨_,hW⟩)).2 _ hW) b5
  |exit j=>simp only[GH]at h⊢;split<;>rename_i hj<;>simp only[hj,a7,a8]at h<;>exact h
  |ret=>exact h
def nth:List cd->Nat->cd
 |[],_=>.un
 |a::_,0=>a
 |_::r,n+1=>nth r n
def zC:∀(l:List cd) (n:Nat),l.getD n .un=nth l n
 |[],n=>by simp[nth]
 |a::_,0=>by simp[nth]
 |_::r,n+1=>by simpa[nth]using zC r n
def cP (env rs:List cd):Src->cd
 | .s n=>nth env n
 | .l p=>bif Nat.blt p rs.length then nth rs (rs.length-1-p)else .un
 | .c d=>⟨true,d⟩
theorem nr (env rs:List cd):Src.ev env rs.reverse=cP env rs:=by
 funext s;cases s with
 |s n=>exact zC env n
 |l p=>
  simp only[Src.ev,cP];cases h:Nat.blt p rs.length with
  |true=>
   have:p<rs.length:=by simp[Nat.blt]at h;omega
   rw[cond_true,<-zC]
   grind
  |false=>
   have:¬p<rs.length:=by intro e;have:Nat.blt p rs.length=true:=by {simp[Nat.blt];omega};rw[this]at h;cases h
   grind
 |c d=>rfl
def aN (Y:Ctx)(draw:Bool)(l:List GI)(env rs:List cd)(nx:Nat)(m:List (Nat×b7))(K:List cd->St->Prop):Prop:=iE Y draw l env rs.reverse ⟨nx,m⟩ K
def NU (env rs:List cd):List (Nat×Nat)->List cd
 |[]=>env
 |(s,p)::r=>NU (env.set s (cP [] rs (.l p))) rs r
theorem G2 (rs:List cd):∀(cm:List (Nat×Nat)) (env:List cd),iP env rs.reverse cm=NU env rs cm
 |[],env=>rfl
 |(s,p)::r,env=>by
  simp only[iP,NU];rw[G2 rs r,<-congrFun (nr [] rs) (.l p)];rfl
def aq {draw:Bool}{ins:List GI}{cm:List (Nat×Nat)}{b:AC}{nx:Nat}{m:List (Nat×b7)}
  (h:aN Y draw ins env [] nx m (fun vs st'=>bP Y b Q (iP env vs cm) st')):bP Y (.seq (.reg draw ins cm) b) Q env ⟨nx,m⟩:=.intro (.intro h)
def VQ {draw:Bool}{ins:List GI}{cm:List (Nat×Nat)}{nx:Nat}{m:List (Nat×b7)}
  (h:aN Y draw ins env [] nx m (fun vs st'=>Q .normal (iP env vs cm) st')):bP Y (.reg draw ins cm) Q env ⟨nx,m⟩:=.intro h
def Sc {draw:Bool}{cm:List (Nat×Nat)}{b:AC}{nx nx':Nat}{m:List (Nat×b7)}{rs fH env':List cd}(h:bP Y b Q env' ⟨nx',m⟩)
  (he:NU env rs cm=env':=by exact rfl) (hn:nx+rs.length=nx':=by exact xo):aN Y draw [] fH rs nx m (fun vs st'=>bP Y b Q (iP env vs cm) st'):=by
 grind [aN,iE,G2]
def Sd {draw:Bool}{cm:List (Nat×Nat)}{nx nx':Nat}{m:List (Nat×b7)}{rs fH env':List cd}(h:Q .normal env' ⟨nx',m⟩)
  (he:NU env rs cm=env':=by exact rfl) (hn:nx+rs.length=nx':=by exact xo):aN Y draw [] fH rs nx m (fun vs st'=>Q .normal (iP env vs cm) st'):=by
 grind [aN,iE,G2]
def av {c:Src}{a b r:AC}{t:Bool}(h1:t=true->bP Y (.seq a r) Q env st)(h2:t=false->bP Y (.seq b r) Q env st)(hc:cP env [] c=⟨true,.bool t⟩:=by exact rfl):bP Y (.seq (.cond c a b) r) Q env st:=by
 have hc':c.ev env []=⟨true,.bool t⟩:=by rw[<-hc,<-nr];rfl
 refine .intro (.intro ?_);simp only[hc'];refine⟨trivial,fun ht=>?_,fun ht=>?_⟩
 .obtain⟨e,s,g,h⟩:=h1 ht;exact hE g h
 .obtain⟨e,s,g,h⟩:=h2 ht;exact hE g h
def wp_cond {c:Src}{a b:AC}{t:Bool}(h1:t=true->bP Y a Q env st)(h2:t=false->bP Y b Q env st)(hc:cP env [] c=⟨true,.bool t⟩:=by exact rfl):bP Y (.cond c a b) Q env st:=by
 have hc':c.ev env []=⟨true,.bool t⟩:=by rw[<-hc,<-nr];rfl
 refine .intro ?_
 grind
theorem br.to {lo c nx nx':Nat}{env env':List cd}{m m':List (Nat×b7)}(σ:List (Nat×Nat))(hc:nx'=c)(h:gS lo c σ=true)(he:eC lo σ env env')(hm:bJ lo c σ m m'):br lo env ⟨nx,m⟩ env' ⟨nx',m'⟩:=by
 subst hc;exact .ren σ nx' env env' nx m m' h he hm
theorem aP {α β:Type}(q:α->β)(xs:List α):(xs.map q).take xs.length=xs.map q:=ey aR
def bB {α:Type}{q:α->D}(h:∀x,(q x).bK=true):∀xs:List α,bE (xs.map q)=true
 |[]=>rfl
 |a::r=>by simp only[List.map_cons,bE,h a,bB h r,m3]
def br.fz {lo:Nat}{env env' env2:List cd}{nx k:Nat}{m m':List (Nat×b7)}{es:List D}{st2:St}(l:Nat)(hl:look m l=some (.buf k es))(hn:bE es=true)(he:ll l k es env=env')(hm:mq l k es (cL m l)=m')(h:br lo env' ⟨nx,m'⟩ env2 st2):br lo env ⟨nx,m⟩ env2 st2:=by
 have:=br.Nc (lo:=lo) l env ⟨nx,m⟩;simp only[Abs.Nc,hl,hn,cond_true,he,hm]at this;exact .trans _ _ _ _ _ _ this h
def fE {a:AC}{nx k:Nat}{m m':List (Nat×b7)}{es:List D}{env env':List cd}(l:Nat)(h:bP Y a Q env' ⟨nx,m'⟩)(hl:look m l=some (.buf k es):=by exact rfl)(hn:bE es=true:=by first|exact rfl|exact bB (fun _=>rfl) _)
  (he:ll l k es env=env':=by simp only[ll,iQ,iX,mq,nt,cL,Nat.reduceEqDiff,a7,a8,cR,cu,cx,cT,cX,bT,bQ,aQ,cg,aP,reduceCtorEq,ax,aB,Nat.reduceAdd,Nat.reduceLeDiff];exact rfl)
  (hm:mq l k es (cL m l)=m':=by simp only[ll,iQ,iX,mq,nt,cL,Nat.reduceEqDiff,a7,a8,cR,cu,cx,cT,cX,bT,bQ,aQ,cg,aP,reduceCtorEq,ax,aB,Nat.reduceAdd,Nat.reduceLeDiff];exact rfl):bP Y a Q env ⟨nx,m⟩:=
 hE (br.fz l hl hn he hm (.refl _ _)) h
def SU.rf:∀e:List cd,SU e e
 |[]=>trivial
 |_::r=>⟨⟨rfl,.refl _⟩,SU.rf r⟩
def GJ.nil:GJ [] []:=⟨rfl,fun _=>.refl _⟩
def GJ.cons {x y:D}{a b:List D}(h:xp x y)(h2:GJ a b):GJ (x::a) (y::b):=⟨by simp[h2.1],fun i=>by cases i with
 |zero=>exact h
 |succ i=>simpa using h2.2 i⟩
def GJ.rf (a:List D):GJ a a:=⟨rfl,fun _=>.refl _⟩
def GJ.map {α:Type}{q p:α->D}:∀{xs:List α},(∀x∈xs,xp (q x) (p x))->GJ (xs.map q) (xs.map p)
 |[],_=>.nil
 |x::r,h=>.cons (h x (.head _)) (GJ.map fun y hy=>h y (.tail _ hy))
def xp.ag {a b:List D}(h:GJ a b):xp (.agg a) (.agg b):=.agg _ _ h.1 h.2
def xp.ss {k:Nat}{a b:List D}(h:GJ a b):xp (.sl k a) (.sl k b):=.sl _ _ _ h.1 h.2
def Lp.nil {m:List (Nat×b7)}:Lp m []:=trivial
def Lp.id {m r:List (Nat×b7)}{l:Nat}{b:b7}(h:look m l=some b)(h2:Lp m r):Lp m ((l,b)::r):=⟨⟨b,h,by cases b<;>first|exact⟨rfl,.rf _⟩|exact rfl⟩,h2⟩
def Lp.bf {m r:List (Nat×b7)}{l k:Nat}{es es':List D}(h:look m l=some (.buf k es))(hw:GJ es es')(h2:Lp m r):Lp m ((l,.buf k es')::r):=⟨⟨_,h,rfl,hw⟩,h2⟩
def nk {a:AC}{nx:Nat}{m:List (Nat×b7)}{env:List cd}(m':List (Nat×b7))(hm:Lp m m')(h:bP Y a Q env ⟨nx,m'⟩):bP Y a Q env ⟨nx,m⟩:=hE (.nz _ _ _ _ _ (SU.rf _) hm) h
def eC.nil {lo:Nat}{σ:List (Nat×Nat)}:eC lo σ [] []:=trivial
def eC.un {lo:Nat}{σ:List (Nat×Nat)}{a:cd}{r s:List cd}(h:eC lo σ r s):eC lo σ (a::r) (.un::s):=⟨.inr rfl,h⟩
def eC.eq {lo:Nat}{σ:List (Nat×Nat)}{ok:Bool}{d d':D}{r s:List cd}(hd:rp lo σ d=some d')(h:eC lo σ r s):eC lo σ (⟨ok,d⟩::r) (⟨ok,d'⟩::s):=⟨.inl ⟨rfl,.inr (.inl hd)⟩,h⟩
theorem eC.nl {lo:Nat}{σ:List (Nat×Nat)}{ok:Bool}{d d':D}{r s:List cd}(hd:d'=d)(hn:d.bK=true)(h:eC lo σ r s):eC lo σ (⟨ok,d⟩::r) (⟨ok,d'⟩::s):=⟨.inl ⟨rfl,.inl ⟨hd,hn⟩⟩,h⟩
def eC.ni {lo:Nat}{σ:List (Nat×Nat)}{ok:Bool}{d d':D}{r s:List cd}(hd:uL d d')(h:eC lo σ r s):eC lo σ (⟨ok,d⟩::r) (⟨ok,d'⟩::s):=⟨.inl ⟨rfl,.inr (.inr hd)⟩,h⟩
section
variable {lo c:Nat} {σ:List (Nat×Nat)} {m r:List (Nat×b7)}
def bJ.nil:bJ lo c σ m []:=trivial
theorem bJ.nl {k l':Nat}{es es':List D}(l:Nat)(hl:lV lo σ l=some l')(hm:look m l=some (.buf k es))(he:es'=es)(hn:bE es=true)(h:bJ lo c σ m r):bJ lo c σ m ((l',.buf k es')::r):=
 ⟨.inl ⟨l,_,hl,hm,rfl,.inl ⟨he,hn⟩⟩,h⟩
def bJ.eq {k l':Nat}{es es':List D}(l:Nat)(hl:lV lo σ l=some l')(hm:look m l=some (.buf k es))(he:ow lo σ es=some es')(h:bJ lo c σ m r):bJ lo c σ m ((l',.buf k es')::r):=
 ⟨.inl ⟨l,_,hl,hm,rfl,.inr (.inl he)⟩,h⟩
def bJ.ni {k l':Nat}{es es':List D}(l:Nat)(hl:lV lo σ l=some l')(hm:look m l=some (.buf k es))(he:CI es es')(h:bJ lo c σ m r):bJ lo c σ m ((l',.buf k es')::r):=
 ⟨.inl ⟨l,_,hl,hm,rfl,.inr (.inr he)⟩,h⟩
def bJ.lE {k l':Nat}{es':List D}(hl:lV lo σ l'=some l')(hm:look m l'=some (.buf k es'))(hn:bE es'=true)(h:bJ lo c σ m r):bJ lo c σ m ((l',.buf k es')::r):=.nl l' hl hm rfl hn h
def bJ.Ou {k l':Nat}{es' es:List D}(hl:lV lo σ l'=some l')(hm:look m l'=some (.buf k es))(he:ow lo σ es=some es')(h:bJ lo c σ m r):bJ lo c σ m ((l',.buf k es')::r):=.eq l' hl hm he h
def bJ.mt {k l':Nat}{es':List D}(h1:Nat.ble lo l'=true)(h2:Nat.blt l' c=true)(h3:σ.all (fun p=>!Nat.beq p.2 l')=true)(he:es'=[])(h:bJ lo c σ m r):bJ lo c σ m ((l',.buf k es')::r):=
 ⟨.inr ⟨h1,h2,h3,k,by rw[he]⟩,h⟩
def bJ.it {l' p p':Nat}{s s':List UInt8}(l:Nat)(hl:lV lo σ l=some l')(hm:look m l=some (.iter s p))(hs:s'=s)(hp:p'=p)(h:bJ lo c σ m r):bJ lo c σ m ((l',.iter s' p')::r):=
 ⟨.inl ⟨l,_,hl,hm,hs,hp⟩,h⟩
def bJ.idi {l' p p':Nat}{s s':List UInt8}(hl:lV lo σ l'=some l')(hm:look m l'=some (.iter s p))(hs:s'=s)(hp:p'=p)(h:bJ lo c σ m r):bJ lo c σ m ((l',.iter s' p')::r):=.it l' hl hm hs hp h
def bJ.rw {l':Nat}{s s':List UInt8}(l:Nat)(hl:lV lo σ l=some l')(hm:look m l=some (.row s))(hs:s'=s)(h:bJ lo c σ m r):bJ lo c σ m ((l',.row s')::r):=
 ⟨.inl ⟨l,_,hl,hm,hs⟩,h⟩
def bJ.bl {l' l1 l2 n n':Nat}{u u':Bool}(l:Nat)(hl:lV lo σ l=some l')(hm:look m l=some (.bld (some l1) n u))(h1:lV lo σ l1=some l2)(hn:n'=n)(hu:u'=u)(h:bJ lo c σ m r):bJ lo c σ m ((l',.bld (some l2) n' u')::r):=
 ⟨.inl ⟨l,_,hl,hm,⟨l2,h1,rfl⟩,hn,hu⟩,h⟩
def bJ.b0 {l' n n':Nat}{u u':Bool}(l:Nat)(hl:lV lo σ l=some l')(hm:look m l=some (.bld none n u))(hn:n'=n)(hu:u'=u)(h:bJ lo c σ m r):bJ lo c σ m ((l',.bld none n' u')::r):=
 ⟨.inl ⟨l,_,hl,hm,rfl,hn,hu⟩,h⟩
end
mutual
def xC (m:List (Nat×b7)):Sh->D->D
 | .a,d=>match d with
  | .aF=>.sl 0 []
  |d=>d
 | .sl k cs,d=>match d with
  | .aF=>.sl k []
  | .own l k' i c=>.sl k' ((((bz m l).drop i).take c).map fun e=>match e with
   | .agg ds=>.agg (xL m cs ds)
   |e=>xH m cs e)
  |d=>d
 | .pt cs,d=>match d with
  | .ptr l k i o=>.ref k ((bz m l).map fun e=>match e with
   | .agg ds=>.agg (xL m cs ds)
   |e=>xH m cs e) i o
  |d=>d
def xH (m:List (Nat×b7)):List Sh->D->D
 |[],d=>d
 |s::_,d=>xC m s d
def xL (m:List (Nat×b7)):List Sh->List D->List D
 |[],ds=>ds
 |s::r,ds=>match ds with
  |[]=>[]
  |d::ds=>xC m s d::xL m r ds
end
def xV (m:List (Nat×b7))(cs:List Sh):D->D
 | .agg ds=>.agg (xL m cs ds)
 |e=>xH m cs e
mutual
def To (m:List (Nat×b7)):Sh->D->Prop
 | .a,d=>d.bK=true
 | .sl _ cs,d=>match d with
  | .own l k' i c=>fN m l k' (i+c)/\∀e∈((bz m l).drop i).take c,(match e with
   | .agg ds=>Qv m cs ds
   |e=>Tp m cs e)
  |d=>d.bK=true
 | .pt cs,d=>match d with
  | .ptr l k _ _=>fN m l k 0/\∀e∈bz m l,(match e with
   | .agg ds=>Qv m cs ds
   |e=>Tp m cs e)
  |d=>d.bK=true
def Tp (m:List (Nat×b7)):List Sh->D->Prop
 |[],d=>d.bK=true
 |s::_,d=>To m s d
def Qv (m:List (Nat×b7)):List Sh->List D->Prop
 |[],ds=>bE ds=true
 |s::r,ds=>match ds with
  |[]=>True
  |d::ds=>To m s d/\Qv m r ds
end
def Qw (m:List (Nat×b7))(cs:List Sh):D->Prop
 | .agg ds=>Qv m cs ds
 |e=>Tp m cs e
mutual
theorem Qu (m:List (Nat×b7)):∀(s:Sh) (d:D),py m s d=xC m s d/\(mA m s d↔To m s d)
 | .a,d=>by cases d<;>simp only[py,xC,mA,To]<;>exact⟨trivial,trivial⟩
 | .sl k cs,d=>by
  cases d<;>simp only[py,xC,mA,To]<;>first
   |exact⟨trivial,trivial⟩
   |skip
  rename_i l k' i c;exact⟨aj (D.sl k') (List.map_congr_left fun e _=>(Gr m cs e).1),and_congr_right fun _=>forall_congr' fun e=>imp_congr_right fun _=>(Gr m cs e).2⟩
 | .pt cs,d=>by
  cases d<;>simp only[py,xC,mA,To]<;>first
   |exact⟨trivial,trivial⟩
   |skip
  rename_i l k' i c;exact⟨aj (fun x=>D.ref k' x i c) (List.map_congr_left fun e _=>(Gr m cs e).1),and_congr_right fun _=>forall_congr' fun e=>imp_congr_right fun _=>(Gr m cs e).2⟩
theorem Gr (m:List (Nat×b7)):∀(cs:List Sh) (d:D),kB m cs d=(match d with
   | .agg ds=>.agg (xL m cs ds)
   |e=>xH m cs e)/\(jl m cs d↔(match d with
   | .agg ds=>Qv m cs ds
   |e=>Tp m cs e))
 |[],d=>by cases d<;>simp only[kB,xH,xL,jl,Tp,Qv,D.bK]<;>first|exact⟨trivial,Iff.rfl⟩|exact⟨trivial,trivial⟩
 |s::r,d=>by
  cases d<;>simp only[kB,xH,jl,Tp]<;>first
   |exact Qu m s _
   |skip
  rename_i ds;exact⟨aj D.agg (JS m (s::r) ds).1,(JS m (s::r) ds).2⟩
theorem JS (m:List (Nat×b7)):∀(cs:List Sh) (ds:List D),pz m cs ds=xL m cs ds/\(nb m cs ds↔Qv m cs ds)
 |[],ds=>by simp only[pz,xL,nb,Qv];exact⟨trivial,trivial⟩
 |s::r,[]=>by simp only[pz,xL,nb,Qv];exact⟨trivial,trivial⟩
 |s::r,d::ds=>by
  simp only[pz,xL,nb,Qv,(Qu m s d).1,(JS m r ds).1];exact⟨trivial,and_congr (Qu m s d).2 (JS m r ds).2⟩
end
theorem CE (m:List (Nat×b7))(cs:List Sh)(d:D):kB m cs d=xV m cs d/\(jl m cs d↔Qw m cs d):=by
 have:=Gr m cs d;cases d<;>exact this
def n9 (m:List (Nat×b7)):List (List Sh)->List D->List D
 |_,[]=>[]
 |[],d::r=>xV m [.a] d::n9 m [] r
 |s::ss,d::r=>xV m s d::n9 m ss r
def kN (m:List (Nat×b7)):List (List Sh)->List D->Prop
 |_,[]=>True
 |[],d::r=>Qw m [.a] d/\kN m [] r
 |s::ss,d::r=>Qw m s d/\kN m ss r
theorem ep (m:List (Nat×b7)):∀(ss:List (List Sh)) (ds:List D),ja m ss ds=n9 m ss ds/\(kq m ss ds↔kN m ss ds)
 |ss,[]=>by simp[ja,n9,kq,kN]
 |[],d::r=>by
  simp only[ja,n9,kq,kN,(CE m [.a] d).1,(ep m [] r).1];exact⟨trivial,and_congr (CE m _ d).2 (ep m [] r).2⟩
 |s::ss,d::r=>by
  simp only[ja,n9,kq,kN,(CE m s d).1,(ep m ss r).1];exact⟨trivial,and_congr (CE m _ d).2 (ep m ss r).2⟩
def Uu (a:aE)(d:D):Ex->List cd->St->Prop:=fun e env st=>e.home/\qy st.m env a.res/\JD a env st/\Sg a env st=d
def Na (a:aE)(env:List cd)(m:List (Nat×b7)):D:=match a.res with
 |[r]=>xV m (a.rsh.getD 0 []) (FR m env r)
 |rs=>.tup (n9 m a.rsh (qz m env rs))
def CF (a:aE)(env:List cd)(m:List (Nat×b7)):Prop:=match a.res with
 |[r]=>Qw m (a.rsh.getD 0 []) (FR m env r)
 |rs=>kN m a.rsh (qz m env rs)
def VE {a:aE}{d:D}{e:Ex}{nx:Nat}{m:List (Nat×b7)}(he:e.home)(h1:qy m env a.res)(h2:CF a env m)(h3:Na a env m=d):Uu a d e env ⟨nx,m⟩:=by
 refine⟨he,h1, ?_, ?_⟩
 .unfold JD;unfold CF at h2;split<;>rename_i hr
  .rw[hr]at h2;exact(CE _ _ _).2.2 h2
  .split at h2
   .rename_i hr2;exact absurd hr2 (hr _)
   .exact(ep _ _ _).2.2 h2
 grind [Sg,Na,CE,ep]
def Lo (a:aE)(k:Nat)(vd sd:D):Ex->List cd->St->Prop:=fun e env st=>e.home/\qy st.m env a.res/\(lU a env st).bK=true/\lU a env st=vd/\look st.m 0=some (.buf k [sd])/\sd.bK=true
def iw {a:aE}{k:Nat}{vd sd:D}{e:Ex}{nx:Nat}{m:List (Nat×b7)}(he:e.home)(h1:qy m env a.res)(h2:lU a env ⟨nx,m⟩=vd)(h3:look m 0=some (.buf k [sd]))(hn:vd.bK=true)(hs:sd.bK=true):Lo a k vd sd e env ⟨nx,m⟩:=⟨he,h1,by rw[h2];exact hn,h2,h3,hs⟩
end
end
section
section
variable {Y:Ctx} {draw:Bool} {r:List GI} {env rs:List cd} {nx:Nat} {m:List (Nat×b7)} {K:List cd->St->Prop} {g:Option (Nat×Bool)} {f:Bool}
def at8 (s:List UInt8)(i:Nat):Int:=((s.getD i 0).toNat:Int)
def uW (s:List UInt8)(i:Nat):0<=at8 s i/\at8 s i<256:=by
 have:=(s.getD i 0).toNat_lt;unfold at8;omega
def D.UW:D->Bool
 | .str _=>true
 |_=>false
def wrap_i64 {a:Int}(h1:-9223372036854775808<=a)(h2:a<=9223372036854775807):IntKind.i64.wrap a=a:=IntWalk.i64_in _ ae
def pN (a b:List UInt8):(a==b)=decide (a=b):=by
 grind
def getD_map {α:Type} [Inhabited α]{q:α->D}{xs:List α}{i:Nat}(h:i<xs.length):(xs.map q).getD i .any=q xs[i]! :=by
 simp[List.getD,h]
def VN (b:UInt8):(D.int .u8 b.toNat).u8=b:=by simp[D.u8]
def Q7 (s:List UInt8):D.str ((s.map fun b=>D.int .u8 b.toNat).map D.u8)=.str s:=by
 congr 1;rw[List.map_map]
 conv=>rhs;rw[<-List.map_id s]
 apply List.map_congr_left;intro b _;exact VN b
def GF (rs:List cd):Option (Nat×Bool)->Bool->Prop
 |none,f=>f=true
 |some (j,w),f=>∃ok b,cP [] rs (.l j)=⟨ok,.bool b⟩/\(ok&&(b==w))=f
def GF.flag (h:GF rs g f):flag rs.reverse g=f/\A2 rs.reverse g:=by
 cases g with
 |none=>exact⟨h.symm,trivial⟩
 |some jw=>
  obtain⟨j,w⟩:=jw;obtain⟨ok,b,h1,h2⟩:=h;have h3:rs.reverse.getD j .un=⟨ok,.bool b⟩:=by rw[<-h1,<-nr];rfl
  simp only[Abs.flag,A2,h3,h2,D.isBool];exact⟨trivial,fun _=>trivial⟩
def Pw {i:aU}(hM:i.dM=false)(hF:i.ug draw g=false)(hC:g.isSome=true->i.calm=true)(hg:GF rs g f)(d:D)(ho:f=true->i.eA Y (cP env rs) m)
  (hv:f=true->i.val Y (cP env rs) m (nx+rs.length)=d) (m':List (Nat×b7)) (hm:i.cU Y (cP env rs) m (nx+rs.length)=m')
  (h:(f=true->i.GK draw (cP env rs))->aN Y draw r env (⟨f,d⟩::rs) nx m' K):aN Y draw (⟨i,g⟩::r) env rs nx m K:=by
 obtain⟨hf,hb⟩:=hg.flag;unfold aN;rw[nH hM hF,nr,hf];refine⟨?_,ho,fun ha=>⟨d,by simpa using hv, ?_⟩⟩
 .cases g with
  |none=>trivial
  |some jw=>exact⟨hC rfl,hb⟩
 grind [aN]
def iS {i:aU}(hC:i.calm=true)(hg:GF rs g f)(d:D)(ho:f=true->i.eA Y (cP env rs) m)
  (hv:f=true->i.val Y (cP env rs) m (nx+rs.length)=d) (m':List (Nat×b7)) (hm:i.cU Y (cP env rs) m (nx+rs.length)=m')
  (h:(f=true->i.GK draw (cP env rs))->aN Y draw r env (⟨f,d⟩::rs) nx m' K):aN Y draw (⟨i,g⟩::r) env rs nx m K:=
 Pw (by cases i<;>first|rfl|cases hC) (by simp[aU.ug,hC]) (fun _=>hC) hg d ho hv m' hm h
def ca {i:aU}(hC:i.pure=true)(hg:GF rs g f)(d:D)(ho:f=true->i.eA Y (cP env rs) m)
  (hv:f=true->i.val Y (cP env rs) m (nx+rs.length)=d) 
  (h:(f=true->i.GK draw (cP env rs))->aN Y draw r env (⟨f,d⟩::rs) nx m K):aN Y draw (⟨i,g⟩::r) env rs nx m K:=
 iS (Mn hC) hg d ho hv m (Pq hC) h
def ri {i:aU}(hM:i.dM=false)(d:D)(ho:i.eA Y (cP env rs) m)
  (hv:i.val Y (cP env rs) m (nx+rs.length)=d) (m':List (Nat×b7)) (hm:i.cU Y (cP env rs) m (nx+rs.length)=m')
  (h:i.GK draw (cP env rs)->aN Y draw r env (⟨true,d⟩::rs) nx m' K):aN Y draw (⟨i,none⟩::r) env rs nx m K:=
 Pw hM (by simp[aU.ug]) (fun h=>by cases h) rfl d (fun _=>ho) (fun _=>hv) m' hm (fun ha=>h (ha rfl))
def r_mv {x:Src}{fx:Bool}{d:D}(h:aN Y draw r env (⟨f,d⟩::rs) nx m K)(hg:GF rs g f:=by exact du)(hx:cP env rs x=⟨fx,d⟩:=by exact rfl)(kx:f=true->fx=true:=by exact ct):aN Y draw (⟨.mv x,g⟩::r) env rs nx m K:=
 ca rfl hg _ (fun hf=>by simp[aU.eA,hx,kx hf]) (fun hf=>by simp[aU.val,hx]) (fun ha=>h)
def ZJ {x:Src}{fx:Bool}{b:Bool}(h:aN Y draw r env (⟨f,.bool (!b)⟩::rs) nx m K)(hg:GF rs g f:=by exact du)(hx:cP env rs x=⟨fx,.bool b⟩:=by exact rfl)(kx:f=true->fx=true:=by exact ct):aN Y draw (⟨.un .not x,g⟩::r) env rs nx m K:=
 ca rfl hg _ (fun hf=>by simp[aU.eA,hx,kx hf]) (fun hf=>by simp[aU.val,hx]) (fun ha=>h)
def ZL {c b:Src}{fc fb t y:Bool}(h:aN Y draw r env (⟨f,.bool (t ||y)⟩::rs) nx m K)(hg:GF rs g f:=by exact du)(hc:cP env rs c=⟨fc,.bool t⟩:=by exact rfl)(hb:cP env rs b=⟨fb,.bool y⟩:=by exact rfl)(kc:f=true->fc=true:=by exact ct)(kb:f=true->t=false->fb=true:=by intro h1 h2;first|(rw[h2];exact rfl)|(rw[h2,h1];rfl)|(rw[h1,h2];rfl)|simp_all):aN Y draw (⟨.pick c (.c (.bool true)) b,g⟩::r) env rs nx m K:=
 ca rfl hg _ (fun hf=>by simp only[aU.eA,hc,hb];exact⟨kc hf,fun _=>rfl,fun e=>kb hf e⟩) (fun hf=>by simp only[aU.val,hc,hb];cases t<;>rfl) (fun _=>h)
def Pt {c a:Src}{fc fa t y:Bool}(h:aN Y draw r env (⟨f,.bool (t&&y)⟩::rs) nx m K)(hg:GF rs g f:=by exact du)(hc:cP env rs c=⟨fc,.bool t⟩:=by exact rfl)(ha:cP env rs a=⟨fa,.bool y⟩:=by exact rfl)(kc:f=true->fc=true:=by exact ct)(ka:f=true->t=true->fa=true:=by intro h1 h2;first|(rw[h2];exact rfl)|(rw[h2,h1];rfl)|(rw[h1,h2];rfl)|simp_all):aN Y draw (⟨.pick c a (.c (.bool false)),g⟩::r) env rs nx m K:=
 ca rfl hg _ (fun hf=>by simp only[aU.eA,hc,ha];exact⟨kc hf,fun e=>ka hf e,fun _=>rfl⟩) (fun hf=>by simp only[aU.val,hc,ha];cases t<;>rfl) (fun _=>h)
def R7 {x y:Src}{fx fy:Bool}{a b:Int}(h:aN Y draw r env (⟨f,.int .i64 (a+b)⟩::rs) nx m K)(hg:GF rs g f:=by exact du)(hx:cP env rs x=⟨fx,.int .i64 a⟩:=by exact rfl)(hy:cP env rs y=⟨fy,.int .i64 b⟩:=by exact rfl)(kx:f=true->fx=true:=by exact ct)(ky:f=true->fy=true:=by exact ct)(hb:f=true->-9223372036854775808<=a+b/\a+b<=9223372036854775807:=by exact Gu):aN Y draw (⟨.bin .add x y,g⟩::r) env rs nx m K:=
 ca rfl hg _ (fun hf=>by simp[aU.eA,hx,hy,kx hf,ky hf,jG]) (fun hf=>by simp only[aU.val,hx,hy,jX];rw[wrap_i64 (hb hf).1 (hb hf).2]) (fun ha=>h)
def zU {x y:Src}{fx fy:Bool}{k:IntKind}{a b:Int}(v:Int)(h:aN Y draw r env (⟨f,.int k v⟩::rs) nx m K)(hg:GF rs g f:=by exact du)(hx:cP env rs x=⟨fx,.int k a⟩:=by exact rfl)(hy:cP env rs y=⟨fy,.int k b⟩:=by exact rfl)(kx:f=true->fx=true:=by exact ct)(ky:f=true->fy=true:=by exact ct)(hb:f=true->k.wrap (a+b)=v):aN Y draw (⟨.bin .add x y,g⟩::r) env rs nx m K:=
 ca rfl hg _ (fun hf=>by simp[aU.eA,hx,hy,kx hf,ky hf,jG]) (fun hf=>by simp only[aU.val,hx,hy,jX];rw[hb hf]) (fun ha=>h)
def R9 {x y:Src}{fx fy:Bool}{a b:Int}(h:aN Y draw r env (⟨f,.int .i64 (a-b)⟩::rs) nx m K)(hg:GF rs g f:=by exact du)(hx:cP env rs x=⟨fx,.int .i64 a⟩:=by exact rfl)(hy:cP env rs y=⟨fy,.int .i64 b⟩:=by exact rfl)(kx:f=true->fx=true:=by exact ct)(ky:f=true->fy=true:=by exact ct)(hb:f=true->-9223372036854775808<=a-b/\a-b<=9223372036854775807:=by exact Gu):aN Y draw (⟨.bin .sub x y,g⟩::r) env rs nx m K:=
 ca rfl hg _ (fun hf=>by simp[aU.eA,hx,hy,kx hf,ky hf,jG]) (fun hf=>by simp only[aU.val,hx,hy,jX];rw[wrap_i64 (hb hf).1 (hb hf).2]) (fun ha=>h)
def qa {x y:Src}{fx fy:Bool}{k:IntKind}{a b:Int}(v:Int)(h:aN Y draw r env (⟨f,.int k v⟩::rs) nx m K)(hg:GF rs g f:=by exact du)(hx:cP env rs x=⟨fx,.int k a⟩:=by exact rfl)(hy:cP env rs y=⟨fy,.int k b⟩:=by exact rfl)(kx:f=true->fx=true:=by exact ct)(ky:f=true->fy=true:=by exact ct)(hb:f=true->k.wrap (a-b)=v):aN Y draw (⟨.bin .sub x y,g⟩::r) env rs nx m K:=
 ca rfl hg _ (fun hf=>by simp[aU.eA,hx,hy,kx hf,ky hf,jG]) (fun hf=>by simp only[aU.val,hx,hy,jX];rw[hb hf]) (fun ha=>h)
def Dm {x y:Src}{fx fy:Bool}{a b:Int}(h:aN Y draw r env (⟨f,.int .i64 (a*b)⟩::rs) nx m K)(hg:GF rs g f:=by exact du)(hx:cP env rs x=⟨fx,.int .i64 a⟩:=by exact rfl)(hy:cP env rs y=⟨fy,.int .i64 b⟩:=by exact rfl)(kx:f=true->fx=true:=by exact ct)(ky:f=true->fy=true:=by exact ct)(hb:f=true->-9223372036854775808<=a*b/\a*b<=9223372036854775807:=by exact Gu):aN Y draw (⟨.bin .mul x y,g⟩::r) env rs nx m K:=
 ca rfl hg _ (fun hf=>by simp[aU.eA,hx,hy,kx hf,ky hf,jG]) (fun hf=>by simp only[aU.val,hx,hy,jX];rw[wrap_i64 (hb hf).1 (hb hf).2]) (fun ha=>h)
def PG {x y:Src}{fx fy:Bool}{k:IntKind}{a b:Int}(v:Int)(h:aN Y draw r env (⟨f,.int k v⟩::rs) nx m K)(hg:GF rs g f:=by exact du)(hx:cP env rs x=⟨fx,.int k a⟩:=by exact rfl)(hy:cP env rs y=⟨fy,.int k b⟩:=by exact rfl)(kx:f=true->fx=true:=by exact ct)(ky:f=true->fy=true:=by exact ct)(hb:f=true->k.wrap (a*b)=v):aN Y draw (⟨.bin .mul x y,g⟩::r) env rs nx m K:=
 ca rfl hg _ (fun hf=>by simp[aU.eA,hx,hy,kx hf,ky hf,jG]) (fun hf=>by simp only[aU.val,hx,hy,jX];rw[hb hf]) (fun ha=>h)
def ZM {x y:Src}{fx fy:Bool}{k:IntKind}{a b:Int}(v:Int)(h:aN Y draw r env (⟨f,.int k v⟩::rs) nx m K)(hg:GF rs g f:=by exact du)(hx:cP env rs x=⟨fx,.int k a⟩:=by exact rfl)(hy:cP env rs y=⟨fy,.int k b⟩:=by exact rfl)(kx:f=true->fx=true:=by exact ct)(ky:f=true->fy=true:=by exact ct)(hn:f=true->b≠0)(hb:f=true->k.wrap (a.tdiv b)=v):aN Y draw (⟨.bin .quo x y,g⟩::r) env rs nx m K:=
 ca rfl hg _ (fun hf=>by simp[aU.eA,hx,hy,kx hf,ky hf,jG,hn hf]) (fun hf=>by simp only[aU.val,hx,hy,jX];rw[hb hf]) (fun ha=>h)
def Ti {x y:Src}{fx fy:Bool}{k:IntKind}{a b:Int}(v:Int)(h:aN Y draw r env (⟨f,.int k v⟩::rs) nx m K)(hg:GF rs g f:=by exact du)(hx:cP env rs x=⟨fx,.int k a⟩:=by exact rfl)(hy:cP env rs y=⟨fy,.int k b⟩:=by exact rfl)(kx:f=true->fx=true:=by exact ct)(ky:f=true->fy=true:=by exact ct)(hn:f=true->b≠0)(hb:f=true->a.tmod b=v):aN Y draw (⟨.bin .rem x y,g⟩::r) env rs nx m K:=
 ca rfl hg _ (fun hf=>by simp[aU.eA,hx,hy,kx hf,ky hf,jG,hn hf]) (fun hf=>by simp only[aU.val,hx,hy,jX];rw[hb hf]) (fun ha=>h)
def Fm {x y:Src}{fx fy:Bool}{k k2:IntKind}{a b:Int}(v:Int)(h:aN Y draw r env (⟨f,.int k v⟩::rs) nx m K)(hg:GF rs g f:=by exact du)(hx:cP env rs x=⟨fx,.int k a⟩:=by exact rfl)(hy:cP env rs y=⟨fy,.int k2 b⟩:=by exact rfl)(kx:f=true->fx=true:=by exact ct)(ky:f=true->fy=true:=by exact ct)(hn:f=true->0<=b:=by exact uI)(hb:f=true->k.wrap (a*2^(min b.toNat k.bits))=v):aN Y draw (⟨.bin .shl x y,g⟩::r) env rs nx m K:=
 ca rfl hg _ (fun hf=>by simp[aU.eA,hx,hy,kx hf,ky hf,jG,hn hf]) (fun hf=>by simp only[aU.val,hx,hy,jX];rw[hb hf]) (fun ha=>h)
def Fo {x y:Src}{fx fy:Bool}{k k2:IntKind}{a b:Int}(v:Int)(h:aN Y draw r env (⟨f,.int k v⟩::rs) nx m K)(hg:GF rs g f:=by exact du)(hx:cP env rs x=⟨fx,.int k a⟩:=by exact rfl)(hy:cP env rs y=⟨fy,.int k2 b⟩:=by exact rfl)(kx:f=true->fx=true:=by exact ct)(ky:f=true->fy=true:=by exact ct)(hn:f=true->0<=b:=by exact uI)(hb:f=true->a.fdiv (2^(min b.toNat k.bits))=v):aN Y draw (⟨.bin .shr x y,g⟩::r) env rs nx m K:=
 ca rfl hg _ (fun hf=>by simp[aU.eA,hx,hy,kx hf,ky hf,jG,hn hf]) (fun hf=>by simp only[aU.val,hx,hy,jX];rw[hb hf]) (fun ha=>h)
def Pv {x y:Src}{fx fy:Bool}{k:IntKind}{a b:Int}(v:Int)(h:aN Y draw r env (⟨f,.int k v⟩::rs) nx m K)(hg:GF rs g f:=by exact du)(hx:cP env rs x=⟨fx,.int k a⟩:=by exact rfl)(hy:cP env rs y=⟨fy,.int k b⟩:=by exact rfl)(kx:f=true->fx=true:=by exact ct)(ky:f=true->fy=true:=by exact ct)(hb:f=true->k.wrap (((BitVec.ofInt k.bits a)&&&(BitVec.ofInt k.bits b)).toNat)=v):aN Y draw (⟨.bin .and x y,g⟩::r) env rs nx m K:=
 ca rfl hg _ (fun hf=>by simp[aU.eA,hx,hy,kx hf,ky hf,jG]) (fun hf=>by simp only[aU.val,hx,hy,jX];rw[hb hf]) (fun ha=>h)
def Fl {x y:Src}{fx fy:Bool}{k:IntKind}{a b:Int}(v:Int)(h:aN Y draw r env (⟨f,.int k v⟩::rs) nx m K)(hg:GF rs g f:=by exact du)(hx:cP env rs x=⟨fx,.int k a⟩:=by exact rfl)(hy:cP env rs y=⟨fy,.int k b⟩:=by exact rfl)(kx:f=true->fx=true:=by exact ct)(ky:f=true->fy=true:=by exact ct)(hb:f=true->k.wrap (((BitVec.ofInt k.bits a) |||(BitVec.ofInt k.bits b)).toNat)=v):aN Y draw (⟨.bin .or x y,g⟩::r) env rs nx m K:=
 ca rfl hg _ (fun hf=>by simp[aU.eA,hx,hy,kx hf,ky hf,jG]) (fun hf=>by simp only[aU.val,hx,hy,jX];rw[hb hf]) (fun ha=>h)
def Dj {x y:Src}{fx fy:Bool}{k:IntKind}{a b:Int}(v:Int)(h:aN Y draw r env (⟨f,.int k v⟩::rs) nx m K)(hg:GF rs g f:=by exact du)(hx:cP env rs x=⟨fx,.int k a⟩:=by exact rfl)(hy:cP env rs y=⟨fy,.int k b⟩:=by exact rfl)(kx:f=true->fx=true:=by exact ct)(ky:f=true->fy=true:=by exact ct)(hb:f=true->k.wrap (((BitVec.ofInt k.bits a)^^^(BitVec.ofInt k.bits b)).toNat)=v):aN Y draw (⟨.bin .xor x y,g⟩::r) env rs nx m K:=
 ca rfl hg _ (fun hf=>by simp[aU.eA,hx,hy,kx hf,ky hf,jG]) (fun hf=>by simp only[aU.val,hx,hy,jX];rw[hb hf]) (fun ha=>h)
def PE {x y:Src}{fx fy:Bool}{k:IntKind}{a b:Int}(h:aN Y draw r env (⟨f,.bool (decide (a<b))⟩::rs) nx m K)(hg:GF rs g f:=by exact du)(hx:cP env rs x=⟨fx,.int k a⟩:=by exact rfl)(hy:cP env rs y=⟨fy,.int k b⟩:=by exact rfl)(kx:f=true->fx=true:=by exact ct)(ky:f=true->fy=true:=by exact ct):aN Y draw (⟨.bin .lss x y,g⟩::r) env rs nx m K:=
 ca rfl hg _ (fun hf=>by simp[aU.eA,hx,hy,kx hf,ky hf,jG]) (fun hf=>by simp only[aU.val,hx,hy,jX]<;>rfl) (fun ha=>h)
def Vv {x y:Src}{fx fy:Bool}{k:IntKind}{a b:Int}(h:aN Y draw r env (⟨f,.bool (decide (a<=b))⟩::rs) nx m K)(hg:GF rs g f:=by exact du)(hx:cP env rs x=⟨fx,.int k a⟩:=by exact rfl)(hy:cP env rs y=⟨fy,.int k b⟩:=by exact rfl)(kx:f=true->fx=true:=by exact ct)(ky:f=true->fy=true:=by exact ct):aN Y draw (⟨.bin .leq x y,g⟩::r) env rs nx m K:=
 ca rfl hg _ (fun hf=>by simp[aU.eA,hx,hy,kx hf,ky hf,jG]) (fun hf=>by simp only[aU.val,hx,hy,jX]<;>rfl) (fun ha=>h)
def HD {x y:Src}{fx fy:Bool}{k:IntKind}{a b:Int}(h:aN Y draw r env (⟨f,.bool (decide (b<a))⟩::rs) nx m K)(hg:GF rs g f:=by exact du)(hx:cP env rs x=⟨fx,.int k a⟩:=by exact rfl)(hy:cP env rs y=⟨fy,.int k b⟩:=by exact rfl)(kx:f=true->fx=true:=by exact ct)(ky:f=true->fy=true:=by exact ct):aN Y draw (⟨.bin .gtr x y,g⟩::r) env rs nx m K:=
 ca rfl hg _ (fun hf=>by simp[aU.eA,hx,hy,kx hf,ky hf,jG]) (fun hf=>by simp only[aU.val,hx,hy,jX]<;>rfl) (fun ha=>h)
def Vp {x y:Src}{fx fy:Bool}{k:IntKind}{a b:Int}(h:aN Y draw r env (⟨f,.bool (decide (b<=a))⟩::rs) nx m K)(hg:GF rs g f:=by exact du)(hx:cP env rs x=⟨fx,.int k a⟩:=by exact rfl)(hy:cP env rs y=⟨fy,.int k b⟩:=by exact rfl)(kx:f=true->fx=true:=by exact ct)(ky:f=true->fy=true:=by exact ct):aN Y draw (⟨.bin .geq x y,g⟩::r) env rs nx m K:=
 ca rfl hg _ (fun hf=>by simp[aU.eA,hx,hy,kx hf,ky hf,jG]) (fun hf=>by simp only[aU.val,hx,hy,jX]<;>rfl) (fun ha=>h)
def Vn {x y:Src}{fx fy:Bool}{k:IntKind}{a b:Int}(h:aN Y draw r env (⟨f,.bool (decide (a=b))⟩::rs) nx m K)(hg:GF rs g f:=by exact du)(hx:cP env rs x=⟨fx,.int k a⟩:=by exact rfl)(hy:cP env rs y=⟨fy,.int k b⟩:=by exact rfl)(kx:f=true->fx=true:=by exact ct)(ky:f=true->fy=true:=by exact ct):aN Y draw (⟨.bin .eql x y,g⟩::r) env rs nx m K:=
 ca rfl hg _ (fun hf=>by simp[aU.eA,hx,hy,kx hf,ky hf,jG]) (fun hf=>by simp only[aU.val,hx,hy,jX]<;>rfl) (fun ha=>h)
def Vx {x y:Src}{fx fy:Bool}{k:IntKind}{a b:Int}(h:aN Y draw r env (⟨f,.bool (!decide (a=b))⟩::rs) nx m K)(hg:GF rs g f:=by exact du)(hx:cP env rs x=⟨fx,.int k a⟩:=by exact rfl)(hy:cP env rs y=⟨fy,.int k b⟩:=by exact rfl)(kx:f=true->fx=true:=by exact ct)(ky:f=true->fy=true:=by exact ct):aN Y draw (⟨.bin .neq x y,g⟩::r) env rs nx m K:=
 ca rfl hg _ (fun hf=>by simp[aU.eA,hx,hy,kx hf,ky hf,jG]) (fun hf=>by simp only[aU.val,hx,hy,jX]<;>rfl) (fun ha=>h)
def PF {x y:Src}{fx fy:Bool}{a b:List UInt8}(h:aN Y draw r env (⟨f,.bool (Op.bytesLess a b)⟩::rs) nx m K)(hg:GF rs g f:=by exact du)(hx:cP env rs x=⟨fx,.str a⟩:=by exact rfl)(hy:cP env rs y=⟨fy,.str b⟩:=by exact rfl)(kx:f=true->fx=true:=by exact ct)(ky:f=true->fy=true:=by exact ct):aN Y draw (⟨.bin .lss x y,g⟩::r) env rs nx m K:=
 ca rfl hg _ (fun hf=>by simp[aU.eA,hx,hy,kx hf,ky hf,jG]) (fun hf=>by simp only[aU.val,hx,hy,jX,pN]) (fun ha=>h)
def Vw {x y:Src}{fx fy:Bool}{a b:List UInt8}(h:aN Y draw r env (⟨f,.bool (Op.bytesLess a b ||decide (a=b))⟩::rs) nx m K)(hg:GF rs g f:=by exact du)(hx:cP env rs x=⟨fx,.str a⟩:=by exact rfl)(hy:cP env rs y=⟨fy,.str b⟩:=by exact rfl)(kx:f=true->fx=true:=by exact ct)(ky:f=true->fy=true:=by exact ct):aN Y draw (⟨.bin .leq x y,g⟩::r) env rs nx m K:=
 ca rfl hg _ (fun hf=>by simp[aU.eA,hx,hy,kx hf,ky hf,jG]) (fun hf=>by simp only[aU.val,hx,hy,jX,pN]) (fun ha=>h)
def HE {x y:Src}{fx fy:Bool}{a b:List UInt8}(h:aN Y draw r env (⟨f,.bool (!(Op.bytesLess a b ||decide (a=b)))⟩::rs) nx m K)(hg:GF rs g f:=by exact du)(hx:cP env rs x=⟨fx,.str a⟩:=by exact rfl)(hy:cP env rs y=⟨fy,.str b⟩:=by exact rfl)(kx:f=true->fx=true:=by exact ct)(ky:f=true->fy=true:=by exact ct):aN Y draw (⟨.bin .gtr x y,g⟩::r) env rs nx m K:=
 ca rfl hg _ (fun hf=>by simp[aU.eA,hx,hy,kx hf,ky hf,jG]) (fun hf=>by simp only[aU.val,hx,hy,jX,pN]) (fun ha=>h)
def Vq {x y:Src}{fx fy:Bool}{a b:List UInt8}(h:aN Y draw r env (⟨f,.bool (!Op.bytesLess a b)⟩::rs) nx m K)(hg:GF rs g f:=by exact du)(hx:cP env rs x=⟨fx,.str a⟩:=by exact rfl)(hy:cP env rs y=⟨fy,.str b⟩:=by exact rfl)(kx:f=true->fx=true:=by exact ct)(ky:f=true->fy=true:=by exact ct):aN Y draw (⟨.bin .geq x y,g⟩::r) env rs nx m K:=
 ca rfl hg _ (fun hf=>by simp[aU.eA,hx,hy,kx hf,ky hf,jG]) (fun hf=>by simp only[aU.val,hx,hy,jX,pN]) (fun ha=>h)
def Vo {x y:Src}{fx fy:Bool}{a b:List UInt8}(h:aN Y draw r env (⟨f,.bool (decide (a=b))⟩::rs) nx m K)(hg:GF rs g f:=by exact du)(hx:cP env rs x=⟨fx,.str a⟩:=by exact rfl)(hy:cP env rs y=⟨fy,.str b⟩:=by exact rfl)(kx:f=true->fx=true:=by exact ct)(ky:f=true->fy=true:=by exact ct):aN Y draw (⟨.bin .eql x y,g⟩::r) env rs nx m K:=
 ca rfl hg _ (fun hf=>by simp[aU.eA,hx,hy,kx hf,ky hf,jG]) (fun hf=>by simp only[aU.val,hx,hy,jX,pN]) (fun ha=>h)
def Vy {x y:Src}{fx fy:Bool}{a b:List UInt8}(h:aN Y draw r env (⟨f,.bool (!decide (a=b))⟩::rs) nx m K)(hg:GF rs g f:=by exact du)(hx:cP env rs x=⟨fx,.str a⟩:=by exact rfl)(hy:cP env rs y=⟨fy,.str b⟩:=by exact rfl)(kx:f=true->fx=true:=by exact ct)(ky:f=true->fy=true:=by exact ct):aN Y draw (⟨.bin .neq x y,g⟩::r) env rs nx m K:=
 ca rfl hg _ (fun hf=>by simp[aU.eA,hx,hy,kx hf,ky hf,jG]) (fun hf=>by simp only[aU.val,hx,hy,jX,pN]) (fun ha=>h)
def dQ {x y:Src}{fx fy:Bool}{a b:List UInt8}(h:aN Y draw r env (⟨f,.str (a++b)⟩::rs) nx m K)(hg:GF rs g f:=by exact du)(hx:cP env rs x=⟨fx,.str a⟩:=by exact rfl)(hy:cP env rs y=⟨fy,.str b⟩:=by exact rfl)(kx:f=true->fx=true:=by exact ct)(ky:f=true->fy=true:=by exact ct)(hb:f=true->a.length+b.length<=9223372036854775807):aN Y draw (⟨.bin .add x y,g⟩::r) env rs nx m K:=
 ca rfl hg _ (fun hf=>by simp[aU.eA,hx,hy,kx hf,ky hf,jG,hb hf]) (fun hf=>by simp only[aU.val,hx,hy,jX]) (fun ha=>h)
def Tf {x y:Src}{fx fy:Bool}{ag:Bool}{ks:List CK}{a b:D}{v:Bool}(h:aN Y draw r env (⟨f,.bool (v)⟩::rs) nx m K)(hb:jg a.cells b.cells=v)(hg:GF rs g f:=by exact du)(hx:cP env rs x=⟨fx,a⟩:=by exact rfl)(hy:cP env rs y=⟨fy,b⟩:=by exact rfl)(kx:f=true->fx=true:=by exact ct)(ky:f=true->fy=true:=by exact ct)(h1:f=true->a.isAgg=ag/\b.isAgg=ag/\gG ks a.cells/\gG ks b.cells:=by exact xn):aN Y draw (⟨.eqA false ag ks x y,g⟩::r) env rs nx m K:=
 ca rfl hg _ (fun hf=>by simp only[aU.eA,hx,hy];exact⟨kx hf,ky hf,h1 hf⟩) (fun hf=>by simp only[aU.val,hx,hy];rw[hb];rfl) (fun ha=>h)
def Jz {x y:Src}{fx fy:Bool}{ag:Bool}{ks:List CK}{a b:D}{v:Bool}(h:aN Y draw r env (⟨f,.bool (!v)⟩::rs) nx m K)(hb:jg a.cells b.cells=v)(hg:GF rs g f:=by exact du)(hx:cP env rs x=⟨fx,a⟩:=by exact rfl)(hy:cP env rs y=⟨fy,b⟩:=by exact rfl)(kx:f=true->fx=true:=by exact ct)(ky:f=true->fy=true:=by exact ct)(h1:f=true->a.isAgg=ag/\b.isAgg=ag/\gG ks a.cells/\gG ks b.cells:=by exact xn):aN Y draw (⟨.eqA true ag ks x y,g⟩::r) env rs nx m K:=
 ca rfl hg _ (fun hf=>by simp only[aU.eA,hx,hy];exact⟨kx hf,ky hf,h1 hf⟩) (fun hf=>by simp only[aU.val,hx,hy];rw[hb];rfl) (fun ha=>h)
def oE {x:Src}{fx:Bool}{k k2:IntKind}{a:Int}(v:Int)(h:aN Y draw r env (⟨f,.int k v⟩::rs) nx m K)(hg:GF rs g f:=by exact du)(hx:cP env rs x=⟨fx,.int k2 a⟩:=by exact rfl)(kx:f=true->fx=true:=by exact ct)(hb:f=true->k.wrap a=v):aN Y draw (⟨.cvi k x,g⟩::r) env rs nx m K:=
 ca rfl hg _ (fun hf=>by simp[aU.eA,hx,kx hf]) (fun hf=>by simp only[aU.val,hx];rw[hb hf]) (fun ha=>h)
def PD {x:Src}{fx:Bool}{s:List UInt8}(h:(f=true->draw=false->s.length<=9223372036854775807)->aN Y draw r env (⟨f,.int .i64 s.length⟩::rs) nx m K)(hg:GF rs g f:=by exact du)(hx:cP env rs x=⟨fx,.str s⟩:=by exact rfl)(kx:f=true->fx=true:=by exact ct):aN Y draw (⟨.lenS x,g⟩::r) env rs nx m K:=
 ca rfl hg _ (fun hf=>by simp[aU.eA,hx,kx hf]) (fun hf=>by simp[aU.val,hx]) (fun ha=>h (fun hf hd=>by have:=ha hf;subst hd;simpa[aU.GK,hx,kx hf]using this))
def PA {x:Src}{fx:Bool}{α:Type}{k:Nat}{q:α->D}{xs:List α}(h:(f=true->draw=false->xs.length<=9223372036854775807)->aN Y draw r env (⟨f,.int .i64 xs.length⟩::rs) nx m K)(hg:GF rs g f:=by exact du)(hx:cP env rs x=⟨fx,.sl k (xs.map q)⟩:=by exact rfl)(kx:f=true->fx=true:=by exact ct):aN Y draw (⟨.len x,g⟩::r) env rs nx m K:=
 ca rfl hg _ (fun hf=>by simp[aU.eA,hx,kx hf]) (fun hf=>by simp[aU.val,hx]) (fun ha=>h (fun hf hd=>by have:=ha hf;subst hd;simpa[aU.GK,hx,kx hf]using this))
def PC {x:Src}{fx:Bool}{l k i n:Nat}(h:(f=true->draw=false->n<=9223372036854775807)->aN Y draw r env (⟨f,.int .i64 n⟩::rs) nx m K)(hg:GF rs g f:=by exact du)(hx:cP env rs x=⟨fx,.own l k i n⟩:=by exact rfl)(kx:f=true->fx=true:=by exact ct):aN Y draw (⟨.len x,g⟩::r) env rs nx m K:=
 ca rfl hg _ (fun hf=>by simp[aU.eA,hx,kx hf]) (fun hf=>by simp[aU.val,hx]) (fun ha=>h (fun hf hd=>by have:=ha hf;subst hd;simpa[aU.GK,hx,kx hf]using this))
def Vu {x:Src}{fx:Bool}(h:aN Y draw r env (⟨f,.int .i64 0⟩::rs) nx m K)(hg:GF rs g f:=by exact du)(hx:cP env rs x=⟨fx,.aF⟩:=by exact rfl)(kx:f=true->fx=true:=by exact ct):aN Y draw (⟨.len x,g⟩::r) env rs nx m K:=
 ca rfl hg _ (fun hf=>by simp[aU.eA,hx,kx hf]) (fun hf=>by simp[aU.val,hx]) (fun ha=>h)
def Vz {x:Src}{fx:Bool}{l k i o:Nat}(h:aN Y draw r env (⟨f,.ptr l k i o⟩::rs) nx m K)(hg:GF rs g f:=by exact du)(hx:cP env rs x=⟨fx,.ptr l k i o⟩:=by exact rfl)(kx:f=true->fx=true:=by exact ct):aN Y draw (⟨.nilck x,g⟩::r) env rs nx m K:=
 ca rfl hg _ (fun hf=>by simp[aU.eA,hx,kx hf]) (fun hf=>by simp[aU.val,hx]) (fun ha=>h)
def VA {x:Src}{fx:Bool}{k i o:Nat}{es:List D}(h:aN Y draw r env (⟨f,.ref k es i o⟩::rs) nx m K)(hg:GF rs g f:=by exact du)(hx:cP env rs x=⟨fx,.ref k es i o⟩:=by exact rfl)(kx:f=true->fx=true:=by exact ct):aN Y draw (⟨.nilck x,g⟩::r) env rs nx m K:=
 ca rfl hg _ (fun hf=>by simp[aU.eA,hx,kx hf]) (fun hf=>by simp[aU.val,hx]) (fun ha=>h)
def ZG {x:Src}{fx:Bool}{off l k i o:Nat}(h:aN Y draw r env (⟨f,.ptr l k i (o+off)⟩::rs) nx m K)(hg:GF rs g f:=by exact du)(hx:cP env rs x=⟨fx,.ptr l k i o⟩:=by exact rfl)(kx:f=true->fx=true:=by exact ct):aN Y draw (⟨.fa off x,g⟩::r) env rs nx m K:=
 ca rfl hg _ (fun hf=>by simp[aU.eA,hx,kx hf]) (fun hf=>by simp[aU.val,hx]) (fun ha=>h)
def ZH {x:Src}{fx:Bool}{off k i o:Nat}{es:List D}(h:aN Y draw r env (⟨f,.ref k es i (o+off)⟩::rs) nx m K)(hg:GF rs g f:=by exact du)(hx:cP env rs x=⟨fx,.ref k es i o⟩:=by exact rfl)(kx:f=true->fx=true:=by exact ct):aN Y draw (⟨.fa off x,g⟩::r) env rs nx m K:=
 ca rfl hg _ (fun hf=>by simp[aU.eA,hx,kx hf]) (fun hf=>by simp[aU.val,hx]) (fun ha=>h)
def bL {x y:Src}{fx fy:Bool}{α:Type}{k:Nat}{q:α->D}{xs:List α}{i:Int}{kk:IntKind}(j:Nat)(h:aN Y draw r env (⟨f,.ref k (xs.map q) j 0⟩::rs) nx m K)(hg:GF rs g f:=by exact du)(hx:cP env rs x=⟨fx,.sl k (xs.map q)⟩:=by exact rfl)(hy:cP env rs y=⟨fy,.int kk i⟩:=by exact rfl)(kx:f=true->fx=true:=by exact ct)(ky:f=true->fy=true:=by exact ct)(hj:f=true->i=(j:Int):=by exact wh)(hb:f=true->j<xs.length:=by exact uI):aN Y draw (⟨.ia k x y,g⟩::r) env rs nx m K:=
 ca rfl hg _ (fun hf=>by simp only[aU.eA,hx,hy,bQ];exact⟨kx hf,ky hf,trivial,by have:=hj hf;omega,by have:=hj hf;have:=hb hf;omega⟩) (fun hf=>by simp only[aU.val,hx,hy];rw[hj hf];rfl) (fun ha=>h)
def iD {x y:Src}{fx fy:Bool}{l k i0 n:Nat}{i:Int}{kk:IntKind}(j:Nat)(h:aN Y draw r env (⟨f,.ptr l k (i0+j) 0⟩::rs) nx m K)(hg:GF rs g f:=by exact du)(hx:cP env rs x=⟨fx,.own l k i0 n⟩:=by exact rfl)(hy:cP env rs y=⟨fy,.int kk i⟩:=by exact rfl)(kx:f=true->fx=true:=by exact ct)(ky:f=true->fy=true:=by exact ct)(hj:f=true->i=(j:Int):=by exact wh)(hb:f=true->j<n:=by exact uI):aN Y draw (⟨.ia k x y,g⟩::r) env rs nx m K:=
 ca rfl hg _ (fun hf=>by simp only[aU.eA,hx,hy];exact⟨kx hf,ky hf,trivial,by have:=hj hf;omega,by have:=hj hf;have:=hb hf;omega⟩) (fun hf=>by simp only[aU.val,hx,hy];rw[hj hf];rfl) (fun ha=>h)
def zV {x y:Src}{fx fy:Bool}{l k k2 n i0 o:Nat}{i:Int}{kk:IntKind}(j:Nat)(h:aN Y draw r env (⟨f,.ptr l k2 i0 (o+j*k)⟩::rs) nx m K)(hg:GF rs g f:=by exact du)(hx:cP env rs x=⟨fx,.ptr l k2 i0 o⟩:=by exact rfl)(hy:cP env rs y=⟨fy,.int kk i⟩:=by exact rfl)(kx:f=true->fx=true:=by exact ct)(ky:f=true->fy=true:=by exact ct)(hj:f=true->i=(j:Int):=by exact wh)(hb:f=true->j<n:=by exact uI):aN Y draw (⟨.iaP n k x y,g⟩::r) env rs nx m K:=
 ca rfl hg _ (fun hf=>by simp only[aU.eA,hx,hy];exact⟨kx hf,ky hf,by have:=hj hf;omega,by have:=hj hf;have:=hb hf;omega⟩) (fun hf=>by simp only[aU.val,hx,hy];rw[hj hf];rfl) (fun ha=>h)
def HF {x y:Src}{fx fy:Bool}{k k2 n i0 o:Nat}{es:List D}{i:Int}{kk:IntKind}(j:Nat)(h:aN Y draw r env (⟨f,.ref k2 es i0 (o+j*k)⟩::rs) nx m K)(hg:GF rs g f:=by exact du)(hx:cP env rs x=⟨fx,.ref k2 es i0 o⟩:=by exact rfl)(hy:cP env rs y=⟨fy,.int kk i⟩:=by exact rfl)(kx:f=true->fx=true:=by exact ct)(ky:f=true->fy=true:=by exact ct)(hj:f=true->i=(j:Int):=by first|exact fun _=>rfl|(intro _;omega))(hb:f=true->j<n:=by intro _;omega):aN Y draw (⟨.iaP n k x y,g⟩::r) env rs nx m K:=
 ca rfl hg _ (fun hf=>by simp only[aU.eA,hx,hy];exact⟨kx hf,ky hf,by have:=hj hf;omega,by have:=hj hf;have:=hb hf;omega⟩) (fun hf=>by simp only[aU.val,hx,hy];rw[hj hf];rfl) (fun ha=>h)
def pA {x y:Src}{fx fy:Bool}{s:List UInt8}{i:Int}{kk:IntKind}(j:Nat)(h:aN Y draw r env (⟨f,.int .u8 (at8 s j)⟩::rs) nx m K)(hg:GF rs g f:=by exact du)(hx:cP env rs x=⟨fx,.str s⟩:=by exact rfl)(hy:cP env rs y=⟨fy,.int kk i⟩:=by exact rfl)(kx:f=true->fx=true:=by exact ct)(ky:f=true->fy=true:=by exact ct)(hj:f=true->i=(j:Int):=by exact wh)(hb:f=true->j<s.length:=by exact uI):aN Y draw (⟨.ixS x y,g⟩::r) env rs nx m K:=
 ca rfl hg _ (fun hf=>by simp only[aU.eA,hx,hy];exact⟨kx hf,ky hf,by have:=hj hf;omega,by have:=hj hf;have:=hb hf;omega⟩) (fun hf=>by simp only[aU.val,hx,hy];rw[hj hf];rfl) (fun ha=>h)
def Vr {x y:Src}{fx fy:Bool}{α:Type}{k:Nat}{q:α->D}{xs:List α}{i:Int}{kk:IntKind}(h:aN Y draw r env (⟨f,.ref k (xs.map q) i.toNat 0⟩::rs) nx m K)(hg:GF rs g f:=by exact du)(hx:cP env rs x=⟨fx,.sl k (xs.map q)⟩:=by exact rfl)(hy:cP env rs y=⟨fy,.int kk i⟩:=by exact rfl)(kx:f=true->fx=true:=by exact ct)(ky:f=true->fy=true:=by exact ct)(hb:f=true->0<=i/\i<(xs.length:Nat):=by exact Gu):aN Y draw (⟨.ia k x y,g⟩::r) env rs nx m K:=
 ca rfl hg _ (fun hf=>by simp only[aU.eA,hx,hy,bQ];exact⟨kx hf,ky hf,trivial,(hb hf).1,(hb hf).2⟩) (fun hf=>by simp only[aU.val,hx,hy]<;>rfl) (fun ha=>h)
def Vs {x y:Src}{fx fy:Bool}{l k i0 n:Nat}{i:Int}{kk:IntKind}(h:aN Y draw r env (⟨f,.ptr l k (i0+i.toNat) 0⟩::rs) nx m K)(hg:GF rs g f:=by exact du)(hx:cP env rs x=⟨fx,.own l k i0 n⟩:=by exact rfl)(hy:cP env rs y=⟨fy,.int kk i⟩:=by exact rfl)(kx:f=true->fx=true:=by exact ct)(ky:f=true->fy=true:=by exact ct)(hb:f=true->0<=i/\i<(n:Nat):=by exact Gu):aN Y draw (⟨.ia k x y,g⟩::r) env rs nx m K:=
 ca rfl hg _ (fun hf=>by simp only[aU.eA,hx,hy,bQ];exact⟨kx hf,ky hf,trivial,(hb hf).1,(hb hf).2⟩) (fun hf=>by simp only[aU.val,hx,hy]<;>rfl) (fun ha=>h)
def Vt {x y:Src}{fx fy:Bool}{s:List UInt8}{i:Int}{kk:IntKind}(h:aN Y draw r env (⟨f,.int .u8 (at8 s i.toNat)⟩::rs) nx m K)(hg:GF rs g f:=by exact du)(hx:cP env rs x=⟨fx,.str s⟩:=by exact rfl)(hy:cP env rs y=⟨fy,.int kk i⟩:=by exact rfl)(kx:f=true->fx=true:=by exact ct)(ky:f=true->fy=true:=by exact ct)(hb:f=true->0<=i/\i<(s.length:Nat):=by exact Gu):aN Y draw (⟨.ixS x y,g⟩::r) env rs nx m K:=
 ca rfl hg _ (fun hf=>by simp only[aU.eA,hx,hy,bQ];exact⟨kx hf,ky hf,(hb hf).1,(hb hf).2⟩) (fun hf=>by simp only[aU.val,hx,hy]<;>rfl) (fun ha=>h)
def fI {x y:Src}{fx fy:Bool}{s:List UInt8}{k2:IntKind}{a:Int}(i:Nat)(h:aN Y draw r env (⟨f,.str (s.drop i)⟩::rs) nx m K)(hg:GF rs g f:=by exact du)(hx:cP env rs x=⟨fx,.str s⟩:=by exact rfl)(hy:cP env rs y=⟨fy,.int k2 a⟩:=by exact rfl)(kx:f=true->fx=true:=by exact ct)(ky:f=true->fy=true:=by exact ct)(hi:f=true->a=(i:Int):=by exact wh)(hb:f=true->i<=s.length:=by exact uI):aN Y draw (⟨.slS x (some y) none,g⟩::r) env rs nx m K:=
 ca rfl hg _ (fun hf=>by simp only[aU.eA,Md,dO,hx,hy];have:=hb hf;have:=hi hf;refine⟨kx hf,ky hf,trivial, ?_⟩;simp only[oY,eZ,cu,cx,Int.ofNat_eq_natCast];omega) (fun hf=>by simp only[aU.val,dO,eZ,hx,hy];rw[hi hf];simp) (fun ha=>h)
def uw {x y:Src}{fx fy:Bool}{α:Type}{k:Nat}{q:α->D}{s:List α}{k2:IntKind}{a:Int}(i:Nat)(h:aN Y draw r env (⟨f,.sl k ((s.drop i).map q)⟩::rs) nx m K)(hg:GF rs g f:=by exact du)(hx:cP env rs x=⟨fx,.sl k (s.map q)⟩:=by exact rfl)(hy:cP env rs y=⟨fy,.int k2 a⟩:=by exact rfl)(kx:f=true->fx=true:=by exact ct)(ky:f=true->fy=true:=by exact ct)(hi:f=true->a=(i:Int):=by exact wh)(hb:f=true->i<=s.length:=by exact uI):aN Y draw (⟨.slA k x (some y) none,g⟩::r) env rs nx m K:=
 ca rfl hg _ (fun hf=>by simp only[aU.eA,Md,dO,hx,hy,bQ];have:=hb hf;have:=hi hf;refine⟨kx hf,ky hf,trivial,trivial, ?_⟩;simp only[oY,eZ,cu,cx,Int.ofNat_eq_natCast];omega) (fun hf=>by simp only[aU.val,dO,eZ,hx,hy];rw[hi hf];first|(simp only[List.take_length,Int.toNat_natCast,List.map_drop];done)|simp[List.map_drop,List.map_take]) (fun ha=>h)
def mC {x z:Src}{fx fz:Bool}{s:List UInt8}{k3:IntKind}{c:Int}(j:Nat)(h:aN Y draw r env (⟨f,.str (s.take j)⟩::rs) nx m K)(hg:GF rs g f:=by exact du)(hx:cP env rs x=⟨fx,.str s⟩:=by exact rfl)(hz:cP env rs z=⟨fz,.int k3 c⟩:=by exact rfl)(kx:f=true->fx=true:=by exact ct)(kz:f=true->fz=true:=by exact ct)(hj:f=true->c=(j:Int):=by exact wh)(hb:f=true->j<=s.length:=by exact uI):aN Y draw (⟨.slS x none (some z),g⟩::r) env rs nx m K:=
 ca rfl hg _ (fun hf=>by simp only[aU.eA,Md,dO,hx,hz];have:=hb hf;have:=hj hf;refine⟨kx hf,trivial,kz hf, ?_⟩;simp only[oY,eZ,cu,cx,Int.ofNat_eq_natCast];omega) (fun hf=>by simp only[aU.val,dO,eZ,hx,hz];rw[hj hf];simp) (fun ha=>h)
def pC {x z:Src}{fx fz:Bool}{α:Type}{k:Nat}{q:α->D}{s:List α}{k3:IntKind}{c:Int}(j:Nat)(h:aN Y draw r env (⟨f,.sl k ((s.take j).map q)⟩::rs) nx m K)(hg:GF rs g f:=by exact du)(hx:cP env rs x=⟨fx,.sl k (s.map q)⟩:=by exact rfl)(hz:cP env rs z=⟨fz,.int k3 c⟩:=by exact rfl)(kx:f=true->fx=true:=by exact ct)(kz:f=true->fz=true:=by exact ct)(hj:f=true->c=(j:Int):=by exact wh)(hb:f=true->j<=s.length:=by exact uI):aN Y draw (⟨.slA k x none (some z),g⟩::r) env rs nx m K:=
 ca rfl hg _ (fun hf=>by simp only[aU.eA,Md,dO,hx,hz,bQ];have:=hb hf;have:=hj hf;refine⟨kx hf,trivial,kz hf,trivial, ?_⟩;simp only[oY,eZ,cu,cx,Int.ofNat_eq_natCast];omega) (fun hf=>by simp only[aU.val,dO,eZ,hx,hz];rw[hj hf];first|(simp only[List.take_length,Int.toNat_natCast,List.map_drop];done)|simp[List.map_drop,List.map_take]) (fun ha=>h)
def zX {x z:Src}{fx fz:Bool}{l k i0 n:Nat}{k3:IntKind}{c:Int}(j:Nat)(h:aN Y draw r env (⟨f,.own l k i0 j⟩::rs) nx m K)(hg:GF rs g f:=by exact du)(hx:cP env rs x=⟨fx,.own l k i0 n⟩:=by exact rfl)(hz:cP env rs z=⟨fz,.int k3 c⟩:=by exact rfl)(kx:f=true->fx=true:=by exact ct)(kz:f=true->fz=true:=by exact ct)(hj:f=true->c=(j:Int):=by exact wh)(hb:f=true->j<=n:=by exact uI):aN Y draw (⟨.slA k x none (some z),g⟩::r) env rs nx m K:=
 ca rfl hg _ (fun hf=>by simp only[aU.eA,Md,dO,hx,hz];have:=hb hf;have:=hj hf;refine⟨kx hf,trivial,kz hf,trivial, ?_⟩;simp only[oY,eZ,cu,cx,Int.ofNat_eq_natCast];omega) (fun hf=>by simp only[aU.val,dO,eZ,hx,hz];rw[hj hf];simp) (fun ha=>h)
def zY {x y z:Src}{fx fy fz:Bool}{s:List UInt8}{k2:IntKind}{a:Int}(i:Nat){k3:IntKind}{c:Int}(j:Nat)(h:aN Y draw r env (⟨f,.str ((s.take j).drop i)⟩::rs) nx m K)(hg:GF rs g f:=by exact du)(hx:cP env rs x=⟨fx,.str s⟩:=by exact rfl)(hy:cP env rs y=⟨fy,.int k2 a⟩:=by exact rfl)(hz:cP env rs z=⟨fz,.int k3 c⟩:=by exact rfl)(kx:f=true->fx=true:=by exact ct)(ky:f=true->fy=true:=by exact ct)(kz:f=true->fz=true:=by exact ct)(hi:f=true->a=(i:Int):=by exact wh)(hj:f=true->c=(j:Int):=by exact wh)(hb:f=true->i<=j/\j<=s.length:=by exact Gu):aN Y draw (⟨.slS x (some y) (some z),g⟩::r) env rs nx m K:=
 ca rfl hg _ (fun hf=>by simp only[aU.eA,Md,dO,hx,hy,hz];have:=hb hf;have:=hi hf;have:=hj hf;refine⟨kx hf,ky hf,kz hf, ?_⟩;simp only[oY,eZ,cu,cx,Int.ofNat_eq_natCast];omega) (fun hf=>by simp only[aU.val,dO,eZ,hx,hy,hz];rw[hi hf,hj hf];simp) (fun ha=>h)
def zW {x y z:Src}{fx fy fz:Bool}{α:Type}{k:Nat}{q:α->D}{s:List α}{k2:IntKind}{a:Int}(i:Nat){k3:IntKind}{c:Int}(j:Nat)(h:aN Y draw r env (⟨f,.sl k (((s.take j).drop i).map q)⟩::rs) nx m K)(hg:GF rs g f:=by exact du)(hx:cP env rs x=⟨fx,.sl k (s.map q)⟩:=by exact rfl)(hy:cP env rs y=⟨fy,.int k2 a⟩:=by exact rfl)(hz:cP env rs z=⟨fz,.int k3 c⟩:=by exact rfl)(kx:f=true->fx=true:=by exact ct)(ky:f=true->fy=true:=by exact ct)(kz:f=true->fz=true:=by exact ct)(hi:f=true->a=(i:Int):=by exact wh)(hj:f=true->c=(j:Int):=by exact wh)(hb:f=true->i<=j/\j<=s.length:=by exact Gu):aN Y draw (⟨.slA k x (some y) (some z),g⟩::r) env rs nx m K:=
 ca rfl hg _ (fun hf=>by simp only[aU.eA,Md,dO,hx,hy,hz,bQ];have:=hb hf;have:=hi hf;have:=hj hf;refine⟨kx hf,ky hf,kz hf,trivial, ?_⟩;simp only[oY,eZ,cu,cx,Int.ofNat_eq_natCast];omega) (fun hf=>by simp only[aU.val,dO,eZ,hx,hy,hz];rw[hi hf,hj hf];first|(simp only[List.take_length,Int.toNat_natCast,List.map_drop];done)|simp[List.map_drop,List.map_take]) (fun ha=>h)
def e7 {x:Src}{fx:Bool}{i:Nat}{ds:List D}(v:D)(h:aN Y draw r env (⟨f,v⟩::rs) nx m K)(hg:GF rs g f:=by exact du)(hx:cP env rs x=⟨fx,.tup ds⟩:=by exact rfl)(kx:f=true->fx=true:=by exact ct)(hv:f=true->ds.getD i .any=v:=by exact fun _=>rfl)(hb:f=true->i<ds.length:=by intro _;simp only[ax,aB];omega):aN Y draw (⟨.ext x i,g⟩::r) env rs nx m K:=
 ca rfl hg _ (fun hf=>by simp only[aU.eA,hx];exact⟨kx hf,hb hf⟩) (fun hf=>by simp only[aU.val,hx];exact hv hf) (fun ha=>h)
def ea {z:List D}{ps:List (Nat×Nat×Src)}(v:List D)(h:aN Y draw r env (⟨f,.agg v⟩::rs) nx m K)(hg:GF rs g f:=by exact du)(hv:f=true->za (cP env rs) z ps=v:=by exact fun _=>rfl)(ho:f=true->Bz (cP env rs) z.length ps:=by exact xn):aN Y draw (⟨.build z ps,g⟩::r) env rs nx m K:=
 ca rfl hg _ (fun hf=>ho hf) (fun hf=>by simp only[aU.val];rw[hv hf]) (fun _=>h)
def bA {z:List D}{ps:List (Nat×Nat×Src)}(d:D)(h:aN Y draw r env (⟨f,d⟩::rs) nx m K)(hg:GF rs g f:=by exact du)(hv:f=true->D.agg (za (cP env rs) z ps)=d:=by exact fun _=>rfl)(ho:f=true->Bz (cP env rs) z.length ps:=by exact xn):aN Y draw (⟨.build z ps,g⟩::r) env rs nx m K:=
 ca rfl hg _ (fun hf=>ho hf) (fun hf=>by simp only[aU.val];exact hv hf) (fun _=>h)
def UZ {e:D}{n o:Nat}{ag:Bool}(h:e.isAgg=ag):po e n n o ag=e:=by simp[po,h]
def de {x:Src}{fx:Bool}{n l:Nat}{ag:Bool}{d:D}(h:aN Y draw r env (⟨f,d⟩::rs) nx m K)(hg:GF rs g f:=by exact du)(hx:cP env rs x=⟨fx,.ptr l n 0 0⟩:=by exact rfl)(kx:f=true->fx=true:=by exact ct)(hl:f=true->look m l=some (.buf n [d]):=by exact fun _=>rfl)(ha:f=true->d.isAgg=ag:=by exact fun _=>rfl):aN Y draw (⟨.ld n ag x,g⟩::r) env rs nx m K:=
 iS rfl hg _ (fun hf=>by simp only[aU.eA,hx,E2,fN,hl hf];exact⟨kx hf,⟨trivial,aR⟩,ae⟩) (fun hf=>by simp only[aU.val,hx,D6,bz,hl hf,kf];exact UZ (ha hf)) m rfl (fun ha=>h)
def bd {x:Src}{fx:Bool}{n l k o:Nat}{ag:Bool}{d:D}(v:D)(h:aN Y draw r env (⟨f,v⟩::rs) nx m K)(hg:GF rs g f:=by exact du)(hx:cP env rs x=⟨fx,.ptr l k 0 o⟩:=by exact rfl)(kx:f=true->fx=true:=by exact ct)(hl:f=true->look m l=some (.buf k [d]):=by exact fun _=>rfl)(hv:f=true->po d k n o ag=v:=by exact fun _=>rfl)(ho:o+n<=k:=by omega):aN Y draw (⟨.ld n ag x,g⟩::r) env rs nx m K:=
 iS rfl hg _ (fun hf=>by simp only[aU.eA,hx,E2,fN,hl hf];exact⟨kx hf,⟨trivial,aR⟩,ho⟩) (fun hf=>by simp only[aU.val,hx,D6,bz,hl hf,kf];exact hv hf) m rfl (fun ha=>h)
def Px {x:Src}{fx:Bool}{n l k i o:Nat}{ag:Bool}{es:List D}(v:D)(h:aN Y draw r env (⟨f,v⟩::rs) nx m K)(hg:GF rs g f:=by exact du)(hx:cP env rs x=⟨fx,.ptr l k i o⟩:=by exact rfl)(kx:f=true->fx=true:=by exact ct)(hl:f=true->look m l=some (.buf k es):=by exact fun _=>rfl)(hi:f=true->i<es.length)(hv:f=true->po (es.getD i .any) k n o ag=v)(ho:o+n<=k:=by omega):aN Y draw (⟨.ld n ag x,g⟩::r) env rs nx m K:=
 iS rfl hg _ (fun hf=>by simp only[aU.eA,hx,E2,fN,hl hf];exact⟨kx hf,⟨trivial,by have:=hi hf;omega⟩,ho⟩) (fun hf=>by simp only[aU.val,hx,D6,bz,hl hf];exact hv hf) m rfl (fun ha=>h)
def pB {x:Src}{fx:Bool}{α:Type} [Inhabited α]{n l k i o:Nat}{ag:Bool}{q:α->D}{xs:List α}(v:D)(h:aN Y draw r env (⟨f,v⟩::rs) nx m K)(hg:GF rs g f:=by exact du)(hx:cP env rs x=⟨fx,.ptr l k i o⟩:=by exact rfl)(kx:f=true->fx=true:=by exact ct)(hl:f=true->look m l=some (.buf k (xs.map q)):=by exact fun _=>rfl)(hi:f=true->i<xs.length:=by exact uI)(hv:f=true->po (q xs[i]!) k n o ag=v:=by exact fun _=>rfl)(ho:o+n<=k:=by omega):aN Y draw (⟨.ld n ag x,g⟩::r) env rs nx m K:=
 iS rfl hg _ (fun hf=>by simp only[aU.eA,hx,E2,fN,hl hf,bQ];exact⟨kx hf,⟨trivial,by have:=hi hf;omega⟩,ho⟩) (fun hf=>by simp only[aU.val,hx,D6,bz,hl hf];rw[getD_map (hi hf)];exact hv hf) m rfl (fun ha=>h)
def bH {x:Src}{fx:Bool}{α:Type} [Inhabited α]{n k i o:Nat}{ag:Bool}{q:α->D}{xs:List α}(v:D)(h:aN Y draw r env (⟨f,v⟩::rs) nx m K)(hg:GF rs g f:=by exact du)(hx:cP env rs x=⟨fx,.ref k (xs.map q) i o⟩:=by exact rfl)(kx:f=true->fx=true:=by exact ct)(hi:f=true->i<xs.length:=by exact uI)(hv:f=true->po (q xs[i]!) k n o ag=v:=by exact fun _=>rfl)(ho:o+n<=k:=by omega):aN Y draw (⟨.ld n ag x,g⟩::r) env rs nx m K:=
 iS rfl hg _ (fun hf=>by simp only[aU.eA,hx,E2,bQ];exact⟨kx hf,hi hf,ho⟩) (fun hf=>by simp only[aU.val,hx,D6];rw[getD_map (hi hf)];exact hv hf) m rfl (fun ha=>h)
def e8 {x:Src}{fx:Bool}{n k i o:Nat}{ag:Bool}{es:List D}(v:D)(h:aN Y draw r env (⟨f,v⟩::rs) nx m K)(hg:GF rs g f:=by exact du)(hx:cP env rs x=⟨fx,.ref k es i o⟩:=by exact rfl)(kx:f=true->fx=true:=by exact ct)(hi:f=true->i<es.length:=by intro _;simp only[ax,aB];omega)(hv:f=true->po (es.getD i .any) k n o ag=v:=by exact fun _=>rfl)(ho:o+n<=k:=by omega):aN Y draw (⟨.ld n ag x,g⟩::r) env rs nx m K:=
 iS rfl hg _ (fun hf=>by simp only[aU.eA,hx,E2];exact⟨kx hf,hi hf,ho⟩) (fun hf=>by simp only[aU.val,hx,D6];exact hv hf) m rfl (fun ha=>h)
def Dl {x:Src}{fx:Bool}{n k i o:Nat}{ag:Bool}{es:List D}(v:D)(h:aN Y draw r env (⟨f,v⟩::rs) nx m K)(hg:GF rs g f:=by exact du)(hx:cP env rs x=⟨fx,.ref k es i o⟩:=by exact rfl)(kx:f=true->fx=true:=by exact ct)(hi:f=true->i<es.length:=by intro _;simp only[ax,aB];omega)(hv:f=true->po (es.getD i .any) k n o ag=v:=by exact fun _=>rfl)(ho:o+n<=k:=by omega):aN Y draw (⟨.ldI n ag x,g⟩::r) env rs nx m K:=
 ca rfl hg _ (fun hf=>by simp only[aU.eA,hx,E2];exact⟨kx hf,hi hf,ho⟩) (fun hf=>by simp only[aU.val,hx,D6];exact hv hf) (fun ha=>h)
def ZF {x:Src}{fx:Bool}{k:Nat}{d:D}{L:Nat}{m2:List (Nat×b7)}(h:aN Y draw r env (⟨f,.ptr L k 0 0⟩::rs) nx m2 K)(hg:GF rs g f:=by exact du)(hx:cP env rs x=⟨fx,d⟩:=by exact rfl)(kx:f=true->fx=true:=by exact ct)(hc:d.cells.length=k:=by exact rfl)(hL:nx+rs.length=L:=by exact xo)(hm:dE m L (.buf k [d])=m2:=by simp only[dE,cL,Nat.reduceEqDiff,a7,a8,Nat.reduceAdd,reduceCtorEq];exact rfl):aN Y draw (⟨.box k x,g⟩::r) env rs nx m K:=
 iS rfl hg _ (fun hf=>by simp only[aU.eA,hx];exact⟨kx hf,hc⟩) (fun hf=>by simp only[aU.val,hx,hL]) _ (by simp only[aU.cU,hx,hL];exact hm) (fun _=>h)
def ZI {L:Nat}{m2:List (Nat×b7)}(h:aN Y draw r env (⟨f,.ptr L 2 0 0⟩::rs) nx m2 K)(hg:GF rs g f:=by exact du)(hL:nx+rs.length=L:=by exact xo)(hm:dE m L (.bld none 0 false)=m2:=by simp only[dE,cL,Nat.reduceEqDiff,a7,a8,Nat.reduceAdd,reduceCtorEq];exact rfl):aN Y draw (⟨.mkB,g⟩::r) env rs nx m K:=
 iS rfl hg _ (fun _=>trivial) (fun hf=>by simp only[aU.val,hL]) _ (by simp only[aU.cU,hL];exact hm) (fun _=>h)
def ZO {x:Src}{fx:Bool}{s:List UInt8}{L:Nat}{m2:List (Nat×b7)}(h:aN Y draw r env (⟨f,.own L 1 0 s.length⟩::rs) nx m2 K)(hg:GF rs g f:=by exact du)(hx:cP env rs x=⟨fx,.str s⟩:=by exact rfl)(kx:f=true->fx=true:=by exact ct)(hL:nx+rs.length=L:=by exact xo)(hm:dE m L (.buf 1 (s.map fun b=>.int .u8 b.toNat))=m2:=by simp only[dE,cL,Nat.reduceEqDiff,a7,a8,Nat.reduceAdd,reduceCtorEq];exact rfl):aN Y draw (⟨.s2b x,g⟩::r) env rs nx m K:=
 iS rfl hg _ (fun hf=>by simp only[aU.eA,hx];exact⟨kx hf,trivial⟩) (fun hf=>by simp only[aU.val,hx,hL]) _ (by simp only[aU.cU,hx,hL];exact hm) (fun _=>h)
def ZN {x:Src}{fx:Bool}{s:List UInt8}{L:Nat}{m2:List (Nat×b7)}(h:aN Y draw r env (⟨f,.it L⟩::rs) nx m2 K)(hg:GF rs g f:=by exact du)(hx:cP env rs x=⟨fx,.str s⟩:=by exact rfl)(kx:f=true->fx=true:=by exact ct)(hL:nx+rs.length=L:=by exact xo)(hm:dE m L (.iter s 0)=m2:=by simp only[dE,cL,Nat.reduceEqDiff,a7,a8,Nat.reduceAdd,reduceCtorEq];exact rfl):aN Y draw (⟨.uB x,g⟩::r) env rs nx m K:=
 iS rfl hg _ (fun hf=>by simp only[aU.eA,hx];exact⟨kx hf,trivial⟩) (fun hf=>by simp only[aU.val,hx,hL]) _ (by simp only[aU.cU,hx,hL];exact hm) (fun _=>h)
def dA {k n:Nat}{z:D}{ps:List (Nat×Src)}{L:Nat}{m2:List (Nat×b7)}(es:List D)(h:aN Y draw r env (⟨f,.own L k 0 n⟩::rs) nx m2 K)(hg:GF rs g f:=by exact du)(he:m7 (cP env rs) (List.replicate n z) ps=es:=by exact rfl)(ho:f=true->sT (cP env rs) k n ps:=by exact xn)(hz:z.cells.length=k:=by exact rfl)(hL:nx+rs.length=L:=by exact xo)(hm:dE m L (.buf k es)=m2:=by simp only[dE,cL,Nat.reduceEqDiff,a7,a8,Nat.reduceAdd,reduceCtorEq];exact rfl):aN Y draw (⟨.bsl k z n ps,g⟩::r) env rs nx m K:=
 iS rfl hg _ (fun hf=>⟨hz,ho hf⟩) (fun hf=>by simp only[aU.val,hL]) _ (by simp only[aU.cU,he,hL];exact hm) (fun _=>h)
def Th {k:Nat}{z:D}{x y:Src}{k1 k2:IntKind}{a c:Int}{L:Nat}{m2:List (Nat×b7)}(n:Nat)(h:aN Y draw r env (⟨true,.own L k 0 n⟩::rs) nx m2 K)(hx:cP env rs x=⟨true,.int k1 a⟩:=by exact rfl)(hy:cP env rs y=⟨true,.int k2 c⟩:=by exact rfl)(hn:a=(n:Int):=by first|exact rfl|omega)(hc:a<=c/\c<=1073741824:=by constructor<;>omega)(hz:z.cells.length=k:=by exact rfl)(hL:nx+rs.length=L:=by exact xo)(hm:dE m L (.buf k (List.replicate n z))=m2:=by simp only[dE,cL,Nat.reduceEqDiff,a7,a8,Nat.reduceAdd,reduceCtorEq];exact rfl):aN Y draw (⟨.mks k z x y,none⟩::r) env rs nx m K:=
 ri rfl _ (by simp only[aU.eA,hx,hy];exact⟨trivial,trivial,hz,ae,hc.1,hc.2⟩) (by simp only[aU.val,hx,hL,D.nat,hn];rfl) _ (by simp only[aU.cU,hx,hL,D.nat,hn];exact hm) (fun _=>h)
def aY {n l k o:Nat}{x y:Src}{d v:D}{m2:List (Nat×b7)}(e:D)(h:aN Y draw r env (⟨true,.any⟩::rs) nx m2 K)(hx:cP env rs x=⟨true,.ptr l k 0 o⟩:=by exact rfl)(hy:cP env rs y=⟨true,v⟩:=by exact rfl)(hl:look m l=some (.buf k [d]):=by exact rfl)(hc:v.cells.length=n:=by exact rfl)(he:vX d k n o v=e:=by exact rfl)(ho:o+n<=k:=by omega)(hm:dE m l (.buf k [e])=m2:=by simp only[dE,cL,Nat.reduceEqDiff,a7,a8,Nat.reduceAdd,reduceCtorEq];exact rfl):aN Y draw (⟨.st n x y,none⟩::r) env rs nx m K:=
 ri rfl _ (by simp only[aU.eA,hx,hy,fN,hl];exact⟨trivial,trivial,hc,⟨trivial,aR⟩,ho⟩) rfl _ (by simp only[aU.cU,hx,hy,bz,hl,kf,List.set_cons_zero,he];exact hm) (fun _=>h)
def sD {n l k i o:Nat}{x y:Src}{v:D}{es:List D}{m2:List (Nat×b7)}(es2:List D)(h:aN Y draw r env (⟨true,.any⟩::rs) nx m2 K)(hx:cP env rs x=⟨true,.ptr l k i o⟩:=by exact rfl)(hy:cP env rs y=⟨true,v⟩:=by exact rfl)(hl:look m l=some (.buf k es):=by exact rfl)(hi:i<es.length)(hc:v.cells.length=n:=by exact rfl)(he:es.set i (vX (es.getD i .any) k n o v)=es2)(ho:o+n<=k:=by omega)(hm:dE m l (.buf k es2)=m2:=by simp only[dE,cL,Nat.reduceEqDiff,a7,a8,Nat.reduceAdd,reduceCtorEq];exact rfl):aN Y draw (⟨.st n x y,none⟩::r) env rs nx m K:=
 ri rfl _ (by simp only[aU.eA,hx,hy,fN,hl];exact⟨trivial,trivial,hc,⟨trivial,ae⟩,ho⟩) rfl _ (by simp only[aU.cU,hx,hy,bz,hl,he];exact hm) (fun _=>h)
def uK (m:List (Nat×b7))(k:Nat)(d:D)(ys:List D):Prop:=CY m k d/\qv m d=ys
def uK.sl {k:Nat}{es:List D}:uK m k (.sl k es) es:=⟨rfl,rfl⟩
def uK.aF {k:Nat}:uK m k .aF []:=⟨trivial,rfl⟩
def uK.own {l k i n:Nat}{es:List D}(hl:look m l=some (.buf k es))(hb:i+n<=es.length):uK m k (.own l k i n) ((es.drop i).take n):=⟨⟨rfl,by simp only[fN,hl];exact⟨trivial,hb⟩⟩,by simp only[qv,bz,hl]⟩
def uK.all {l k n:Nat}{es:List D}(hl:look m l=some (.buf k es))(hb:n=es.length):uK m k (.own l k 0 n) es:=by
 have:=uK.own (i:=0) (n:=n) hl ae;simpa[hb]using this
def uK.str {s:List UInt8}:uK m 1 (.str s) (s.map fun b=>.int .u8 b.toNat):=⟨rfl,rfl⟩
def Vl {k n:Nat}{x y:Src}{d:D}{ys:List D}{L:Nat}{m2:List (Nat×b7)}(h:aN Y draw r env (⟨true,.own L k 0 n⟩::rs) nx m2 K)(hx:cP env rs x=⟨true,.aF⟩:=by exact rfl)(hy:cP env rs y=⟨true,d⟩:=by exact rfl)(he:uK m k d ys)(hn:ys.length=n)(hb:n<=1073741824:=by omega)(hL:nx+rs.length=L:=by exact xo)(hm:dE m L (.buf k ys)=m2:=by simp only[dE,cL,Nat.reduceEqDiff,a7,a8,Nat.reduceAdd,reduceCtorEq];exact rfl):aN Y draw (⟨.app k x y,none⟩::r) env rs nx m K:=
 ri rfl _ (by simp only[aU.eA,hx,hy,he.2,hn];exact⟨trivial,trivial,he.1,hb⟩) (by simp only[aU.val,hx,hy,he.2,hn,hL]) _ (by simp only[aU.cU,hx,hy,he.2,hL];exact hm) (fun _=>h)
def wK {k l i a n:Nat}{x y:Src}{d:D}{xs ys:List D}{L:Nat}{m2:List (Nat×b7)}(zs:List D)(h:aN Y draw r env (⟨true,.own L k 0 n⟩::rs) nx m2 K)(hx:cP env rs x=⟨true,.own l k i a⟩:=by exact rfl)(hy:cP env rs y=⟨true,d⟩:=by exact rfl)(hl:look m l=some (.buf k xs):=by exact rfl)(ha:i+a<=xs.length)(he:uK m k d ys)(hz:(xs.drop i).take a++ys=zs)(hn:a+ys.length=n)(hb:n<=1073741824:=by omega)(hL:nx+rs.length=L:=by exact xo)(hm:dE (cL m l) L (.buf k zs)=m2:=by simp only[dE,cL,Nat.reduceEqDiff,a7,a8,Nat.reduceAdd,reduceCtorEq];exact rfl):aN Y draw (⟨.app k x y,none⟩::r) env rs nx m K:=
 ri rfl _ (by simp only[aU.eA,hx,hy,he.2,fN,hl,hn];exact⟨trivial,trivial,he.1,trivial,⟨trivial,ha⟩,hb⟩) (by simp only[aU.val,hx,hy,he.2,hn,hL]) _ (by simp only[aU.cU,hx,hy,he.2,bz,hl,hz,hL];exact hm) (fun _=>h)
def kM {α:Type}{q:α->D}{xs:List α}{e:α}{k l ly:Nat}{x y:Src}{L:Nat}{m2:List (Nat×b7)}(h:aN Y draw r env (⟨true,.own L k 0 (xs++[e]).length⟩::rs) nx m2 K)(hx:cP env rs x=⟨true,.own l k 0 xs.length⟩:=by exact rfl)(hy:cP env rs y=⟨true,.own ly k 0 1⟩:=by exact rfl)(hl:look m l=some (.buf k (xs.map q)):=by exact rfl)(he:look m ly=some (.buf k [q e]):=by exact rfl)(hb:xs.length+1<=1073741824:=by omega)(hL:nx+rs.length=L:=by exact xo)(hm:dE (cL m l) L (.buf k ((xs++[e]).map q))=m2:=by simp only[dE,cL,Nat.reduceEqDiff,a7,a8,Nat.reduceAdd,reduceCtorEq];exact rfl):aN Y draw (⟨.app k x y,none⟩::r) env rs nx m K:=
 wK (zs:=(xs++[e]).map q) (hx:=hx) (hy:=hy) (hl:=hl) (ha:=aR) (he:=uK.all (es:=[q e]) he rfl) (hz:=by rw[cg,ey aR];simp) (hn:=aR) (hb:=cY) (hL:=hL) (hm:=hm) (h:=h)
def Vm {α:Type}{q:α->D}{xs ys:List α}{k l:Nat}{x y:Src}{d:D}{L:Nat}{m2:List (Nat×b7)}(h:aN Y draw r env (⟨true,.own L k 0 (xs++ys).length⟩::rs) nx m2 K)(hx:cP env rs x=⟨true,.own l k 0 xs.length⟩:=by exact rfl)(hy:cP env rs y=⟨true,d⟩:=by exact rfl)(hl:look m l=some (.buf k (xs.map q)):=by exact rfl)(he:uK m k d (ys.map q))(hb:xs.length+ys.length<=1073741824:=by omega)(hL:nx+rs.length=L:=by exact xo)(hm:dE (cL m l) L (.buf k ((xs++ys).map q))=m2:=by simp only[dE,cL,Nat.reduceEqDiff,a7,a8,Nat.reduceAdd,reduceCtorEq];exact rfl):aN Y draw (⟨.app k x y,none⟩::r) env rs nx m K:=
 wK (zs:=(xs++ys).map q) (hx:=hx) (hy:=hy) (hl:=hl) (ha:=aR) (he:=he) (hz:=by rw[cg,ey aR];simp) (hn:=aR) (hb:=cY) (hL:=hL) (hm:=hm) (h:=h)
def Jy {x:Src}{fx:Bool}{d:D}{ys:List D}(s:List UInt8)(h:aN Y draw r env (⟨f,.str s⟩::rs) nx m K)(hg:GF rs g f:=by exact du)(hx:cP env rs x=⟨fx,d⟩:=by exact rfl)(kx:f=true->fx=true:=by exact ct)(he:f=true->uK m 1 d ys)(hs:f=true->ys=s.map fun b=>.int .u8 b.toNat)(hd:d.UW=false:=by exact rfl):aN Y draw (⟨.b2s x,g⟩::r) env rs nx m K:=
 iS rfl hg _ (fun hf=>by
  simp only[aU.eA,hx,(he hf).2,hs hf];refine⟨kx hf,(by cases d<;>first|trivial|(cases hd)),(he hf).1,fun e hm=>?_⟩;obtain⟨b,_,rfl⟩:=gD.1 hm;have:=b.toNat_lt;exact⟨rfl,ae,ae⟩) (fun hf=>by simp only[aU.val,hx,(he hf).2,hs hf];rw[Q7]) m rfl (fun _=>h)
def Dp {x:Src}{l pos:Nat}{s:List UInt8}{m2:List (Nat×b7)}(c w:Nat)(h:aN Y draw r env (⟨true,.tup [.bool true,.int .i64 pos,.int .i32 c]⟩::rs) nx m2 K)(hx:cP env rs x=⟨true,.it l⟩:=by exact rfl)(hl:look m l=some (.iter s pos):=by exact rfl)(hp:pos<s.length)(hc:va s pos=(c,w))(hm:dE m l (.iter s (pos+w))=m2:=by simp only[dE,cL,Nat.reduceEqDiff,a7,a8,Nat.reduceAdd,reduceCtorEq];exact rfl):aN Y draw (⟨.AP x,none⟩::r) env rs nx m K:=
 ri rfl _ (by simp only[aU.eA,hx,hl];exact⟨trivial,trivial⟩) (by simp only[aU.val,hx,hl,hc,hp,decide_true,cond_true]) _ (by simp only[aU.cU,hx,hl,hc,hp,decide_true,cond_true];exact hm) (fun _=>h)
def Dn {x:Src}{l pos:Nat}{s:List UInt8}(h:aN Y draw r env (⟨true,.tup [.bool false]⟩::rs) nx m K)(hx:cP env rs x=⟨true,.it l⟩:=by exact rfl)(hl:look m l=some (.iter s pos):=by exact rfl)(hp:¬pos<s.length):aN Y draw (⟨.AP x,none⟩::r) env rs nx m K:=
 ri rfl _ (by simp only[aU.eA,hx,hl];exact⟨trivial,trivial⟩) (by simp only[aU.val,hx,hl,hp,decide_false,cond_false]) _ (by simp only[aU.cU,hx,hl,hp,decide_false,cond_false]) (fun _=>h)
def ar {n:Nat}{args:List Src}{sh:List (List Sh)}{akq:List D}{v:D}(h:aN Y draw r env (⟨f,v⟩::rs) nx m K)(hg:GF rs g f:=by exact du)(hc:Y.pre n akq/\Y.val n akq=v)(ha:f=true->n9 m sh (jf (cP env rs) args)=akq:=by exact fun _=>rfl)(ho:f=true->wI (cP env rs) args:=by exact xn)(hp:f=true->kN m sh (jf (cP env rs) args):=by exact xn)(hk:f=true->sO (jf (cP env rs) args) v=true:=by exact fun _=>rfl):aN Y draw (⟨.call n args sh,g⟩::r) env rs nx m K:=
 iS rfl hg _ (fun hf=>by simp only[aU.eA,(ep _ _ _).1,ha hf,hc.2];exact⟨ho hf,(ep _ _ _).2.2 (hp hf),hc.1,hk hf⟩) (fun hf=>by simp only[aU.val,(ep _ _ _).1,ha hf,hc.2]) m rfl (fun _=>h)
def dm {n:Nat}{args:List Src}{sh:List (List Sh)}{akq:List D}{v:D}(h:aN Y draw r env (⟨f,v⟩::rs) nx m K)(hg:GF rs g f:=by exact du)(hc:f=true->Y.pre n akq/\Y.val n akq=v)(ha:f=true->n9 m sh (jf (cP env rs) args)=akq:=by exact fun _=>rfl)(ho:f=true->wI (cP env rs) args:=by exact xn)(hp:f=true->kN m sh (jf (cP env rs) args):=by exact xn)(hk:f=true->sO (jf (cP env rs) args) v=true:=by exact fun _=>rfl):aN Y draw (⟨.call n args sh,g⟩::r) env rs nx m K:=
 iS rfl hg _ (fun hf=>by simp only[aU.eA,(ep _ _ _).1,ha hf,(hc hf).2];exact⟨ho hf,(ep _ _ _).2.2 (hp hf),(hc hf).1,hk hf⟩) (fun hf=>by simp only[aU.val,(ep _ _ _).1,ha hf,(hc hf).2]) m rfl (fun _=>h)
def R8 {n:Nat}{x:Src}{fx:Bool}{caps:List D}{args:List Src}{sh:List (List Sh)}{akq:List D}{v:D}(h:aN Y draw r env (⟨f,v⟩::rs) nx m K)(hg:GF rs g f:=by exact du)(hx:cP env rs x=⟨fx,.fn n caps⟩:=by exact rfl)(kx:f=true->fx=true:=by exact ct)(hb:n<1000000:=by decide)(hc:f=true->Y.pre n akq/\Y.val n akq=v)(ha:f=true->n9 m sh (jf (cP env rs) args++caps)=akq:=by exact fun _=>rfl)(ho:f=true->wI (cP env rs) args:=by exact xn)(hp:f=true->kN m sh (jf (cP env rs) args++caps):=by exact xn)(hk:f=true->sO (jf (cP env rs) args++caps) v=true:=by exact fun _=>rfl):aN Y draw (⟨.callv x args sh,g⟩::r) env rs nx m K:=
 iS rfl hg _ (fun hf=>by simp only[aU.eA,hx,(ep _ _ _).1,ha hf,(hc hf).2];exact⟨kx hf,ho hf,hb,(ep _ _ _).2.2 (hp hf),(hc hf).1,hk hf⟩) (fun hf=>by simp only[aU.val,hx,(ep _ _ _).1,ha hf,(hc hf).2]) m rfl (fun _=>h)
def Tg {n:Nat}{caps:List Src}(cs:List D)(h:aN Y draw r env (⟨f,.fn n cs⟩::rs) nx m K)(hg:GF rs g f:=by exact du)(hc:f=true->jf (cP env rs) caps=cs:=by exact fun _=>rfl)(ho:f=true->wI (cP env rs) caps:=by exact xn):aN Y draw (⟨.mkf n caps,g⟩::r) env rs nx m K:=
 ca rfl hg _ (fun hf=>ho hf) (fun hf=>by simp only[aU.val,hc hf]) (fun _=>h)
def nA {n l k:Nat}{x:Src}{args:List Src}{sh:List (List Sh)}{d v e:D}{akq:List D}{m2:List (Nat×b7)}(h:aN Y draw r env (⟨true,v⟩::rs) nx m2 K)(hx:cP env rs x=⟨true,.ptr l k 0 0⟩:=by exact rfl)(hl:look m l=some (.buf k [d]):=by exact rfl)(hd:d.bK=true:=by exact rfl)(hc:Y.fp n d akq/\Y.fv n d akq=v/\Y.fs n d akq=e)(ha:n9 [] sh (jf (cP env rs) args)=akq:=by exact rfl)(ho:wI (cP env rs) args:=by repeat' first|exact trivial|exact rfl|refine And.intro ?_ ?_|decide)(hn:bE (jf (cP env rs) args)=true:=by exact rfl)(hm:dE m l (.buf k [e])=m2:=by simp only[dE,cL,Nat.reduceEqDiff,a7,a8,Nat.reduceAdd,reduceCtorEq];exact rfl):aN Y draw (⟨.callF n x args sh,none⟩::r) env rs nx m K:=
 ri rfl _ (by simp only[aU.eA,hx,fN,bz,hl,kf,(ep _ _ _).1,ha];exact⟨trivial,ho,hn,trivial,trivial,⟨trivial,aR⟩,aR,hd,hc.1⟩) (by simp only[aU.val,hx,bz,hl,kf,(ep _ _ _).1,ha,hc.2.1]) _ (by simp only[aU.cU,hx,bz,hl,kf,(ep _ _ _).1,ha,hc.2.2];exact hm) (fun _=>h)
end
end
end Go.Abs
section
namespace Go.Abs
abbrev au:=List UInt8
structure cy where
 major:Int
 minor:Int
 patch:Int
 pre:au
 build:au
 deriving Inhabited,DecidableEq
def cy.D (v:cy):D:=.agg [.int .i64 v.major,.int .i64 v.minor,.int .i64 v.patch,.str v.pre,.str v.build]
structure uR where
 name:au
 v:cy
 shelf:au
 sum:Int
 feats:List au
 deriving Inhabited,DecidableEq
def uR.D (x:uR):D:=.agg [.str x.name,.int .i64 x.v.major,.int .i64 x.v.minor,.int .i64 x.v.patch,.str x.v.pre,.str x.v.build,.str x.shelf,.int .u64 x.sum,.sl 1 (x.feats.map D.str)]
structure Env where
 e0:au
 e1:au
 e2:au
 deriving Inhabited,DecidableEq
def Env.D (e:Env):D:=.agg [.str e.e0,.str e.e1,.str e.e2]
structure D2 where
 env:Env
 lines:List uR
 deriving Inhabited,DecidableEq
def D2.D (l:D2):D:=.agg [.str l.env.e0,.str l.env.e1,.str l.env.e2,.sl 9 (l.lines.map uR.D)]
end Go.Abs
namespace Go.Abs
theorem tZ (a b:List UInt8):UM (.str a) (.str b)=decide (a=b):=pN a b
theorem xu (k k2:IntKind)(a b:Int):UM (.int k a) (.int k2 b)=decide (a=b):=rfl
def cy.eq (a b:cy):jg (cy.D a).cells (cy.D b).cells=decide (a=b):=by
 obtain⟨a1,a2,a3,a4,a5⟩:=a;obtain⟨b1,b2,b3,b4,b5⟩:=b
 grind [cy.D,D.cells,jg,tZ,xu]
def Env.eq (a b:Env):jg (Env.D a).cells (Env.D b).cells=decide (a=b):=by
 obtain⟨a1,a2,a3⟩:=a;obtain⟨b1,b2,b3⟩:=b
 grind [Env.D,D.cells,jg,tZ,xu]
theorem cy.inj {a b:cy}(h:cy.D a=cy.D b):a=b:=by
 obtain⟨a1,a2,a3,a4,a5⟩:=a;obtain⟨b1,b2,b3,b4,b5⟩:=b
 grind [cy.D]
theorem Env.inj {a b:Env}(h:Env.D a=Env.D b):a=b:=by
 obtain⟨a1,a2,a3⟩:=a;obtain⟨b1,b2,b3⟩:=b
 grind [Env.D]
theorem map_inj {α:Type}{q:α->D}(hq:∀a b,q a=q b->a=b):∀{xs ys:List α},xs.map q=ys.map q->xs=ys
 |[],[],_=>rfl
 |[],_::_,h=>by simp at h
 |_::_,[],h=>by simp at h
 |a::r,b::s,h=>by
  simp only[List.map_cons,ot]at h;rw[hq a b h.1,map_inj hq h.2]
theorem str_inj (a b:List UInt8)(h:D.str a=D.str b):a=b:=by simpa using h
theorem uR.inj {a b:uR}(h:uR.D a=uR.D b):a=b:=by
 obtain⟨a1,⟨v1,v2,v3,v4,v5⟩,a2,a3,a4⟩:=a;obtain⟨b1,⟨w1,w2,w3,w4,w5⟩,b2,b3,b4⟩:=b
 grind [uR.D,map_inj,str_inj]
theorem D2.inj {a b:D2}(h:D2.D a=D2.D b):a=b:=by
 obtain⟨⟨a1,a2,a3⟩,a4⟩:=a;obtain⟨⟨b1,b2,b3⟩,b4⟩:=b
 grind [D2.D,map_inj,uR.inj]
end Go.Abs
end
section
namespace Go.Abs
def allI (p:Nat->Bool):Nat->Nat->Bool
 |_,0=>true
 |i,k+1=>p i&&allI p (i+1) k
def cQ (p:Nat->Bool)(i n:Nat):Bool:=allI p i (n-i)
theorem aS {p:Nat->Bool}{i n:Nat}(h:i<n):cQ p i n=(p i&&cQ p (i+1) n):=by
 unfold cQ;rw[show n-i=(n-(i+1))+1 by omega];rfl
def cq {p:Nat->Bool}{i n:Nat}(h:n<=i):cQ p i n=true:=by
 unfold cQ;rw[show n-i=0 by omega];rfl
theorem Ek {p:Nat->Bool}:∀{k i:Nat},allI p i k=true↔∀j,i<=j->j<i+k->p j=true
 |0,i=>by simp[allI];intro j h1 h2;omega
 |k+1,i=>by
  simp only[allI,bG,Ek (k:=k)]
  grind
theorem fG {p:Nat->Bool}{i n:Nat}:cQ p i n=true↔∀j,i<=j->j<n->p j=true:=by
 grind [cQ,Ek]
end Go.Abs
namespace Go.Abs
def aK {a a' b b':D}(h1:a=a')(h2:b=b'):D.tup [a,b]=D.tup [a',b']:=by rw[h1,h2]
def dc {a a' b b' c c':D}(h1:a=a')(h2:b=b')(h3:c=c'):D.tup [a,b,c]=D.tup [a',b',c']:=by rw[h1,h2,h3]
end Go.Abs
namespace Go.Abs
def ld8 (s:au)(i:Nat):po (D.int .u8 (s[i]!).toNat) 1 1 0 false=.int .u8 (at8 s i):=by
 simp only[po,D.isAgg,at8];simp;rfl
end Go.Abs
namespace Go.Abs
def tW (s:au)(pos:Nat)(h:pos<s.length):∃c w,va s pos=(c,w)/\1<=w/\((w=1/\(c:Int)=at8 s pos/\c<128)\/(128<=c/\128<=at8 s pos)):=by
 refine⟨(va s pos).1,(va s pos).2,rfl, ?_⟩;have e:va s pos=Lib.decodeN (s.length-pos) (s.getD pos 0).toNat (s.getD (pos+1) 0).toNat (s.getD (pos+2) 0).toNat (s.getD (pos+3) 0).toNat:=Lib.decode_N ⟨⟨s⟩⟩ pos;rw[e];unfold at8;generalize (s.getD pos 0).toNat=b0;generalize (s.getD (pos+1) 0).toNat=b1;generalize (s.getD (pos+2) 0).toNat=b2;generalize (s.getD (pos+3) 0).toNat=b3;generalize s.length-pos=n;by_cases hb:b0<128
 .unfold Lib.decodeN;rw[aw hb];exact⟨aQ _,.inl ⟨rfl,rfl,hb⟩⟩
 .unfold Lib.decodeN
  grind
end Go.Abs
namespace Go.Abs
def oM {α:Type}{q:α->D}{xs:List α}{m:List (Nat×b7)}{l:Nat}(hq:∀x,xV m [.a] (q x)=q x)(hl:look m l=some (.buf 1 (xs.map q))):xV m [.sl 1 [.a]] (.own l 1 0 xs.length)=.sl 1 (xs.map q):=by
 show D.sl 1 _=_;simp only[bz,hl,cg,aP,List.map_map];congr 1;apply List.map_congr_left;intro x _;have:=hq x;simp only[Function.comp];generalize q x=d at this;cases d<;>exact this
def mJ {α:Type}{q:α->D}{xs:List α}{m:List (Nat×b7)}{l:Nat}(hq:∀x,Qw m [.a] (q x))(hl:look m l=some (.buf 1 (xs.map q))):Qw m [.sl 1 [.a]] (.own l 1 0 xs.length):=by
 grind [Qw,Tp,To,fN,bz,aP]
end Go.Abs
end
namespace Go.Abs
def iR (c:Int):Bool:=decide (97<=c)&&decide (c<=122)
def bp (c:Int):Bool:=decide (48<=c)&&decide (c<=57)
def AE (c:Int):Bool:=iR c ||bp c ||decide (c=95)
def c9 (s:au):Bool:=decide (1<=s.length)&&decide (s.length<=12)&&cQ (fun i=>AE (at8 s i)) 0 s.length
def U3 (s:au)(i:Nat):Bool:=(iR (at8 s i) ||bp (at8 s i) ||decide (at8 s i=45))&& !(decide (at8 s i=45)&&decide (at8 s (i-1)=45))
def fm (s:au):Bool:=decide (1<=s.length)&&decide (s.length<=16)&&iR (at8 s 0)&& !decide (at8 s (s.length-1)=45)&&cQ (U3 s) 1 s.length
def oS (s:au)(i:Nat):Bool:=iR (at8 s i) ||(bp (at8 s i)&& !decide (i=0)) ||(decide (at8 s i=45)&& !decide (i=0)&& !decide (i=s.length-1)&& !decide (at8 s (i-1)=45))
def RO (s:au)(h1:1<=s.length)(h2:s.length<=16):fm s=cQ (oS s) 0 s.length:=by
 rw[Bool.eq_iff_iff];simp only[fm,b9 h1,b9 h2,gC,bG,bg,bm,fG];constructor
 .rintro⟨⟨h3,h4⟩,h5⟩ j _ hj;rcases Nat.eq_zero_or_pos j with rfl|hp
  .simp[oS,h3]
  .have:=h5 j hp hj;simp only[U3,bG,cS,bg,dR,aT,bm]at this;simp only[oS,bG,cS,bg,aT,bm];rcases this with⟨(h6|h6)|h6,h7⟩
   .exact Or.inl (Or.inl h6)
   .exact Or.inl (Or.inr ⟨h6,ae⟩)
   .refine Or.inr ⟨⟨⟨h6,ae⟩, ?_⟩, ?_⟩
    .rintro rfl;exact h4 h6
    .rcases h7 with h7|h7
     .exact absurd h6 h7
     .exact h7
 .intro h;have h0:=h 0 ae ae;have hlow:iR (at8 s 0)=true:=by simpa[oS]using h0
  refine⟨⟨hlow, ?_⟩,fun j hj1 hj2=>?_⟩
  .intro he;have hl:=h (s.length-1) ae ae;rcases Nat.eq_or_lt_of_le h1 with e|e
   .rw[<-e]at he;simp only[Nat.sub_self]at he;simp only[iR,bG,aT]at hlow;omega
   .simp only[oS,he,iR,bp]at hl;simp at hl
  .have:=h j ae hj2;simp only[oS,bG,cS,bg,aT,bm]at this;simp only[U3,bG,cS,bg,dR,aT,bm];rcases this with(h6|h6)|h6
   .refine⟨Or.inl (Or.inl h6),Or.inl ?_⟩;simp only[iR,bG,aT]at h6;omega
   .refine⟨Or.inl (Or.inr h6.1),Or.inl ?_⟩;have:=h6.1;simp only[bp,bG,aT]at this;omega
   .exact⟨Or.inr h6.1.1.1,Or.inr h6.2⟩
def dX (s:au):Nat:=s.foldl (fun n b=>n*10+(b.toNat-48)) 0
def fS (s:au):Bool:=decide (1<=s.length)&&decide (s.length<=9)&& !(decide (1<s.length)&&decide (at8 s 0=48))&&cQ (fun i=>bp (at8 s i)) 0 s.length&&decide (dX s<=9999)
def ei (s:au):Int:=if fS s=true then(dX s:Int)else 0
theorem nB (s:au)(i:Nat)(h:i<s.length):s.take (i+1)=s.take i++[s.getD i 0]:=by
 rw[List.take_succ];simp[h]
def wG (s:au)(i:Nat)(h:i<s.length):dX (s.take (i+1))=dX (s.take i)*10+((at8 s i).toNat-48):=by
 rw[nB s i h];simp[dX,List.foldl_append,at8]
def Mc (s:au):dX s+23<=23*10^s.length:=by
 have:∀(s:au) (n k:Nat),n+23<=23*10^k->s.foldl (fun n b=>n*10+(b.toNat-48)) n+23<=23*10^(k+s.length):=by
  intro s;induction s with
  |nil=>intro n k h;simpa using h
  |cons b r ih=>
   intro n k h;have hb:=b.toNat_lt;have:=ih (n*10+(b.toNat-48)) (k+1) (by rw[Nat.pow_succ];omega);simp only[List.foldl_cons,ax];rw[show k+(r.length+1)=k+1+r.length by omega];exact this
 have:=this s 0 0 aR;simpa[dX]using this
def ur (s:au)(i:Nat)(h:i<=9):dX (s.take i)<=23000000000:=by
 have h1:=Mc (s.take i);have h2:(s.take i).length<=9:=cY;have h3:10^(s.take i).length<=10^9:=Nat.pow_le_pow_right ae h2;omega
def Fa (s:au):∀n:Nat,s.foldl (fun n b=>n*10+(b.toNat-48)) n=n*10^s.length+dX s:=by
 unfold dX;induction s with
 |nil=>intro n;simp
 |cons b r ih=>
  intro n;simp only[List.foldl_cons,ax];rw[ih,ih (0*10+(b.toNat-48)),Nat.pow_succ];simp only[Nat.zero_mul,bT,Nat.add_mul];rw[Nat.mul_assoc n 10,Nat.mul_comm 10];omega
def wF (b:UInt8)(r:au):dX (b::r)=(b.toNat-48)*10^r.length+dX r:=by
 have:=Fa r (0*10+(b.toNat-48));simp only[dX,List.foldl_cons]at this⊢;rw[this];simp
def wv {b:UInt8}{r:au}(h:cQ (fun i=>bp (at8 (b::r) i)) 0 (b::r).length=true):bp b.toNat=true/\cQ (fun i=>bp (at8 r i)) 0 r.length=true:=by
 rw[fG]at h;refine⟨by simpa[at8]using h 0 ae aR, ?_⟩;rw[fG];intro j _ hj;simpa[at8]using h (j+1) ae cY
def BX:∀(s:au),cQ (fun i=>bp (at8 s i)) 0 s.length=true->dX s<10^s.length
 |[],_=>by simp[dX]
 |b::r,h=>by
  obtain⟨h1,h2⟩:=wv h;have:=BX r h2;rw[wF,ax,Nat.pow_succ];simp only[bp,bG,aT]at h1;have h3:b.toNat-48<=9:=ae;have:=fh (10^r.length) h3;omega
theorem BW {b:UInt8}{r:au}(h:49<=b.toNat):10^r.length<=dX (b::r):=by
 rw[wF];have:=fh (10^r.length) (show 1<=b.toNat-48 by omega);omega
theorem Hy (s:au):fS s=(decide (1<=s.length)&&decide (s.length<=4)&& !(decide (1<s.length)&&decide (at8 s 0=48))&&cQ (fun i=>bp (at8 s i)) 0 s.length):=by
 unfold fS;cases hd:cQ (fun i=>bp (at8 s i)) 0 s.length with
 |false=>simp
 |true=>
  have hlt:=BX s hd;by_cases h4:s.length<=4
  .have:10^s.length<=10^4:=Nat.pow_le_pow_right ae h4;rw[b9 h4,b9 (by omega:s.length<=9),b9 (by omega:dX s<=9999)];simp
  .rw[cJ h4]
   match s,hd,h4 with
   |b::r,hd,h4=>
    by_cases h0:at8 (b::r) 0=48
    .rw[b9 h0,b9 (by omega:1<(b::r).length)];simp
    .have h1:=(wv hd).1;simp only[bp,bG,aT]at h1;have h2:49<=b.toNat:=by
      simp[at8]at h0;omega
     have h3:=BW (r:=r) h2;have:10^4<=10^r.length:=Nat.pow_le_pow_right ae (by simp at h4;omega);rw[cJ (by omega:¬dX (b::r)<=9999)];simp
def dg (n:Nat):UInt8:=UInt8.ofNat (48+n)
def CV:Nat->Nat->au
 |0,n=>[dg n]
 |f+1,n=>if n<10 then [dg n]else CV f (n/10)++[dg (n%10)]
def eM (n:Nat):au:=CV n n
def IL:∀(f g n:Nat),n<=f->n<=g->CV f n=CV g n
 |0,0,n,_,_=>rfl
 |0,g+1,n,h,_=>by
  obtain rfl:n=0:=ae;simp[CV]
 |f+1,0,n,_,h=>by
  obtain rfl:n=0:=ae;simp[CV]
 |f+1,g+1,n,h1,h2=>by
  simp only[CV];split
  .rfl
  .rw[IL f g (n/10) ae ae]
theorem pR {n:Nat}(h:n<10):eM n=[dg n]:=by
 unfold eM;cases n<;>simp[CV,h]
theorem pQ {n:Nat}(h:9<n):eM n=eM (n/10)++[dg (n%10)]:=by
 unfold eM;obtain⟨k,rfl⟩:∃k,n=k+1:=⟨n-1,ae⟩
 simp only[CV];rw[ak ae,IL k ((k+1) /10) _ ae ae]
def eP:∀(k n:Nat),n<10^k->0<k->(eM n).length<=k:=by
 intro k;induction k with
 |zero=>intro n _ h;omega
 |succ k ih=>
  intro n h _;by_cases h10:n<10
  .rw[pR h10];simp
  .rw[pQ ae];have hk:0<k:=by
    rcases Nat.eq_zero_or_pos k with rfl|h0
    .simp at h;omega
    .exact h0
   have:=ih (n/10) (by rw[Nat.pow_succ]at h;omega) hk;simp;omega
theorem N2 {n:Nat}(h:n<10):((dg n).toNat:Int)=48+n:=by
 have:(48+n)%256=48+n:=Nat.mod_eq_of_lt ae;simp[dg,this]
def cC (b:Int):au->au->List au
 |[],cur=>[cur]
 |c::r,cur=>if(c.toNat:Int)=b then cur::cC b r []else cC b r (cur++[c])
def ai (s:au)(b:Int):List au:=cC b s []
def mb (s:au)(i:Nat)(h:i<s.length):s.drop i=s.getD i 0::s.drop (i+1):=by
 rw[iT h];simp[h]
def Ck {s:au}{b:Int}{i fr:Nat}(h:i<s.length)(he:at8 s i=b):cC b (s.drop i) ((s.take i).drop fr)=((s.take i).drop fr)::cC b (s.drop (i+1)) ((s.take (i+1)).drop (i+1)):=by
 rw[mb s i h];have h2:(s.take (i+1)).drop (i+1)=[]:=aR;rw[h2];simp only[cC];rw[aw (by simpa[at8]using he)]
def Cl {s:au}{b:Int}{i fr:Nat}(h:i<s.length)(hf:fr<=i)(he:¬at8 s i=b):cC b (s.drop i) ((s.take i).drop fr)=cC b (s.drop (i+1)) ((s.take (i+1)).drop fr):=by
 rw[mb s i h,nB s i h,List.drop_append_of_le_length cY];simp only[cC];rw[ak (by simpa[at8]using he)]
def Ar {s:au}{b:Int}{i fr:Nat}(h:s.length<=i):cC b (s.drop i) ((s.take i).drop fr)=[s.drop fr]:=by
 rw[k9 h,ey h];rfl
def tA (b:Int):∀(s cur:au),(cC b s cur).length<=s.length+1
 |[],cur=>by simp[cC]
 |c::r,cur=>by
  simp only[cC];split
  .have:=tA b r [];simp;omega
  .have:=tA b r (cur++[c]);simp;omega
theorem dd (s:au)(b:Int):(ai s b).length<=s.length+1:=tA b s []
theorem eE (b:Int)(s cur:au):1<=(cC b s cur).length:=by
 induction s generalizing cur with
 |nil=>simp[cC]
 |cons c r ih=>
  simp only[cC];split
  .simp
  .exact ih _
def ju (s:au)(b:Int)(i:Nat):au×au:=match(s.drop i).findIdx? (fun c=>decide ((c.toNat:Int)=b))with
 |some k=>(s.drop (i+k+1),s.take (i+k))
 |none=>([],s)
def aJ (s:au)(b:Int):au×au:=ju s b 0
def yO {s:au}{b:Int}{i:Nat}(h:i<s.length)(he:at8 s i=b):ju s b i=(s.drop (i+1),s.take i):=by
 unfold ju;rw[mb s i h,List.findIdx?_cons];simp only[at8]at he;rw[aw (by simpa using he)];rfl
def yP {s:au}{b:Int}{i:Nat}(h:i<s.length)(he:¬at8 s i=b):ju s b i=ju s b (i+1):=by
 unfold ju;rw[mb s i h,List.findIdx?_cons];simp only[at8]at he;simp only[he,decide_false,gB,a8];cases(s.drop (i+1)).findIdx? (fun c=>decide ((c.toNat:Int)=b))with
 |none=>rfl
 |some k=>simp only[Option.map_some];rw[show i+(k+1)=i+1+k by omega]
def wm {s:au}{b:Int}{i:Nat}(h:s.length<=i):ju s b i=([],s):=by
 unfold ju;rw[k9 h];rfl
def nL (c:Int):Bool:=iR c ||bp c ||decide (c=45)
def rA (t:au):Bool:=decide (1<=t.length)&&decide (t.length<=8)&&cQ (fun i=>nL (at8 t i)) 0 t.length
def cW (t:au):Bool:=cQ (fun i=>bp (at8 t i)) 0 t.length&&decide (0<t.length)
def iI (p:Bool)(t:au):Bool:=rA t&& !(p&&cW t&& !fS t)
def oG (s:au)(p:Bool):Bool:=decide ((ai s 46).length<=4)&&cQ (fun i=>iI p (ai s 46)[i]!) 0 (ai s 46).length
def sE (s:au)(p:Bool):Bool:=decide (s=[]) ||oG s p
def qw (n:Int):Bool:=decide (0<=n)&&decide (n<=9999)
def fT (v:cy):Bool:=qw v.major&&qw v.minor&&qw v.patch&&sE v.pre true&&sE v.build false
def xj (v:cy):au:=eM v.major.toNat++[46]++eM v.minor.toNat++[46]++eM v.patch.toNat++(if v.pre=[]then []else 45::v.pre)++(if v.build=[]then []else 43::v.build)
def oq (v:cy):au:=if fT v=true then xj v else []
def cy.sm (v:cy):Prop:=v.pre.length<=1048576/\v.build.length<=1048576
def ZC (a b:Int):Int:=IntKind.u64.wrap ((BitVec.ofInt 64 a |||BitVec.ofInt 64 b).toNat)
def AI (a b:Int):Int:=IntKind.u64.wrap ((BitVec.ofInt 64 a^^^BitVec.ofInt 64 b).toNat)
def Ao (a:Int)(k:Nat):Int:=IntKind.u64.wrap (a*2^k)
def uE (a:Int)(k:Nat):Int:=a.fdiv (2^k)
def VF (h:Int)(k:Nat):Int:=ZC (Ao h k) (uE h (64-k))
def JK (h:Int)(c:Int):Int:=IntKind.u64.wrap (VF (AI h c) 13*18397679294719823053)
def v7 (s:au):Int:=s.foldl (fun h c=>JK h c.toNat) 11400714819323198485
def F7 (s:au):Int:=AI (v7 s) (uE (v7 s) 29)
def Cr (s:au)(i:Nat)(h:i<s.length):v7 (s.take (i+1))=JK (v7 (s.take i)) (at8 s i):=by
 grind [nB,v7,at8]
def RV (n:Int)(i:Nat):Nat:=(BitVec.ofInt 64 (uE n (4*i))&&&15#64).toNat
def OR (n:Int)(i:Nat):RV n i<16:=by
 unfold RV;rw[BitVec.toNat_and];exact Nat.lt_of_le_of_lt Nat.and_le_right aM
def OS (n:Int)(i:Nat):IntKind.u64.wrap ((BitVec.ofInt 64 (uE n (4*i))&&&BitVec.ofInt 64 15).toNat)=(RV n i:Nat):=by
 have h:=OR n i;unfold RV at h⊢;have e:BitVec.ofInt 64 15=15#64:=aM;rw[e,IntKind.wrap_u64];omega
def EN (k:Nat):UInt8:=([48,49,50,51,52,53,54,55,56,57,97,98,99,100,101,102]:au).getD k 0
def oH (n:Int):au:=(List.range 16).map fun j=>EN (RV n (15-j))
theorem v8 (n:Int):(oH n).length=16:=by simp[oH]
def Rz (k:Nat)(h:k<10):((EN k).toNat:Int)=48+k:=by
 have:∀k:Fin 10,((EN k.1).toNat:Int)=48+k.1:=aM
 exact this ⟨k,h⟩
def Ry (k:Nat)(h:10<=k)(h2:k<16):((EN k).toNat:Int)=87+k:=by
 have:∀k:Fin 16,10<=k.1->((EN k.1).toNat:Int)=87+k.1:=aM
 exact this ⟨k,h2⟩ h
def uH (n:Int)(i:Nat):au:=List.replicate (16-i) 0++(oH n).drop (16-i)
theorem sb (n:Int)(i:Nat):(uH n i).length=16:=by simp[uH,v8]
def MY (n:Int):uH n 16=oH n:=by simp[uH]
def MZ (n:Int)(i:Nat)(h:i<16):uH n (i+1)=(uH n i).set (15-i) (EN (RV n i)):=by
 apply List.ext_getElem
 .simp[sb]
 grind [sb,uH,oH]
def nU (c:Int):Bool:=bp c ||(decide (97<=c)&&decide (c<=102))
def sk (c:Int):Int:=if bp c=true then c-48 else c-87
def uy (n c:Int):Int:=ZC (Ao n 4) (sk c)
def qn (s:au):Int:=s.foldl (fun n c=>uy n c.toNat) 0
def tt (s:au)(i:Nat)(h:i<s.length):qn (s.take (i+1))=uy (qn (s.take i)) (at8 s i):=by
 grind [nB,qn,at8]
def jQ (s:au):Bool:=decide (s.length=16)&&cQ (fun i=>nU (at8 s i)) 0 s.length
def qo (s:au):Int:=if jQ s=true then qn s else 0
def Env.at (e:Env):Nat->au
 |0=>e.e0
 |1=>e.e1
 |_=>e.e2
def Env.ld (e:Env){i:Nat}(h:i<3):po (Env.D e) 3 1 (0+i*1) false=.str (e.at i):=by
 match i,h with
 |0,_=>rfl
 |1,_=>rfl
 |2,_=>rfl
def D2.ld (l:D2){i:Nat}(h:i<3):po (D2.D l) 4 1 (0+i*1) false=.str (l.env.at i):=by
 match i,h with
 |0,_=>rfl
 |1,_=>rfl
 |2,_=>rfl
def Env.cut (e:Env){i:Nat}(h:i<3):Abs.cut [.str e.e0,.str e.e1,.str e.e2] (i*1) 1 false=.str (e.at i):=by
 match i,h with
 |0,_=>rfl
 |1,_=>rfl
 |2,_=>rfl
def uR.sm (x:uR):Prop:=x.v.sm/\x.name.length<=1048576/\x.shelf.length<=1048576/\x.feats.length<=1048576/\∀t∈x.feats,t.length<=1048576
def D2.sm (l:D2):Prop:=l.lines.length<=1048576/\(∀x∈l.lines,x.sm)/\∀i,(l.env.at i).length<=1048576
theorem bR {α:Type} [Inhabited α]{l:List α}{i:Nat}(h:i<l.length):l[i]! ∈l:=by
 simp[h]
structure Kp where
 name:au
 v:cy
 deriving Inhabited,DecidableEq
def Kp.D (x:Kp):D:=.agg [.str x.name,.int .i64 x.v.major,.int .i64 x.v.minor,.int .i64 x.v.patch,.str x.v.pre,.str x.v.build]
theorem pF {α:Type} [Inhabited α] [DecidableEq α]{a b:List α}(h:a.length=b.length):decide (a=b)=cQ (fun i=>decide (a[i]! =b[i]!)) 0 a.length:=by
 rw[Bool.eq_iff_iff,aT,fG];constructor
 .rintro rfl j _ _;simp
 .intro hj;apply List.ext_getElem h
  grind
def uR.same {a b:uR}(e1:a.name=b.name)(e2:a.v=b.v)(e3:a.shelf=b.shelf)(e4:a.sum=b.sum)(e5:a.feats.length=b.feats.length):decide (a=b)=cQ (fun i=>decide (a.feats[i]! =b.feats[i]!)) 0 a.feats.length:=by
 rw[<-pF e5];obtain⟨a1,a2,a3,a4,a5⟩:=a;obtain⟨b1,b2,b3,b4,b5⟩:=b
 grind
def aV (b:au):List au->au
 |[]=>[]
 |[t]=>t
 |t::u::r=>t++b++aV b (u::r)
theorem gM (b t:au)(r:List au)(h:r≠[]):aV b (t::r)=t++b++aV b r:=by
 cases r with
 |nil=>exact absurd rfl h
 |cons u r=>rfl
def qQ {α:Type}(q:α->au)(B:Nat):∀l:List α,(∀x∈l,(q x).length<=B)->((l.map q).flatten).length<=l.length*B
 |[],_=>aR
 |a::r,h=>by
  have h1:=h a (.head _);have h2:=qQ q B r fun x hx=>h x (.tail _ hx)
  simp only[List.map_cons,List.flatten_cons,cb,ax,Nat.succ_mul];omega
def Az (v:cy)(h:v.sm):(oq v).length<=2097200:=by
 unfold oq;split
 .rename_i hv;simp only[fT,bG]at hv;obtain⟨⟨⟨⟨hv1,hv2⟩,hv3⟩,_⟩,_⟩:=hv;simp only[qw,bG,aT]at hv1 hv2 hv3;have hl1:=eP 4 v.major.toNat ae ae;have hl2:=eP 4 v.minor.toNat ae ae;have hl3:=eP 4 v.patch.toNat ae ae;obtain⟨h1,h2⟩:=h
  grind [xj]
 .simp
def Env.sm (e:Env):Prop:=∀i,(e.at i).length<=1048576
end Go.Abs
section
namespace Go.Abs
def Vk (v n:Int):Int:=if n<1 then 0 else if v.tmod n<0 then v.tmod n+n else v.tmod n
def atI (l:List Int)(i:Int):Int:=if i<0\/(l.length:Int)<=i then i.tmod 3 else l[i.toNat]!
structure Gs where
 l:List Int
 i:Int
 deriving Inhabited
def Gs.D (g:Gs):D:=.agg [.sl 1 (g.l.map (D.int .i64)),.int .i64 g.i]
def Gs.val (g:Gs)(n:Int):Int:=Vk (atI g.l g.i) n
def Gs.AP (g:Gs):Gs:=⟨g.l,g.i+1⟩
def ir (s:au)(b:UInt8):au×au×Bool:=match s.findIdx? (fun c=>c==b)with
 |some k=>(s.take k,s.drop (k+1),true)
 |none=>(s,[],false)
def cO (s p:au):au×Bool:=if p.isPrefixOf s=true then(s.drop p.length,true)else(s,false)
def NZ (s:au)(b:UInt8):(ir s b).1.length<=s.length/\((ir s b).2.2=true->(ir s b).1.length+1<=s.length):=by
 unfold ir;split
 .rename_i k h;have:=List.findIdx?_eq_some_iff_findIdx_eq.1 h;simp only[fX];omega
 .simp
structure SR where
 s:au
 at':Nat
 n:Nat
def SR.D (r:SR):D:=.agg [.str r.s,.int .i64 (r.at':Nat),.int .i64 (r.n:Nat)]
def SR.ln (r:SR):au×au×Bool:=ir (r.s.drop r.at') 10
def SR.AP (r:SR):SR:=⟨r.s,if r.ln.2.2=true then r.at'+(r.ln.1.length+1)else r.at',r.n+1⟩
def gr:cy:=⟨0,0,0,[],[]⟩
def gL (s:au):Option cy:=
 let a:=aJ s 43
 let b:=aJ a.2 45
 let l:=ai b.2 46
 if l.length=3/\fS l[0]! =true/\fS l[1]! =true/\fS l[2]! =true then
  let v:cy:=⟨ei l[0]!,ei l[1]!,ei l[2]!,b.1,a.1⟩
  if fT v=true/\oq v=s then some v else none
 else none
def Ma (l:List au)(i:Nat):D:=.agg [.int .i64 (if 0<i then ei l[0]! else 0),.int .i64 (if 1<i then ei l[1]! else 0),.int .i64 (if 2<i then ei l[2]! else 0)]
def E7 (l:List au)(i:Nat)(h:i<3):vX (Ma l i) 3 1 (0+i*1) (.int .i64 (ei l[i]!))=Ma l (i+1):=by
 match i,h with
 |0,_=>rfl
 |1,_=>rfl
 |2,_=>rfl
def kg (s:au)(b:Int):(aJ s b).1.length<=s.length/\(aJ s b).2.length<=s.length:=by
 grind [aJ,ju]
def tC (b:Int):∀(s cur:au),∀t∈cC b s cur,t.length<=cur.length+s.length
 |[],cur,t,h=>by simp only[cC,dw]at h;subst h;simp
 |c::r,cur,t,h=>by
  simp only[cC]at h;split at h
  .rcases dp.1 h with rfl|h
   .simp
   .have:=tC b r [] t h;simp at this⊢;omega
  .have:=tC b r (cur++[c]) t h;simp at this⊢;omega
def dK (s:au)(b:Int){t:au}(h:t∈ai s b):t.length<=s.length:=by
 have:=tC b s [] t h;simpa using this
theorem qd (s:au)(b:Int){i:Nat}(h:i<(ai s b).length):((ai s b)[i]!).length<=s.length:=dK s b (bR h)
end Go.Abs
namespace Go.Abs
def oy (s:au):Int:=if(gL s).isSome=true then 0 else 5
end Go.Abs
namespace Go.Abs
end Go.Abs
namespace Go.Abs
def Ss {s:au}(h:s.length<=1048576):((gL s).getD gr).sm:=by
 have h0:gr.sm:=⟨by simp[gr],by simp[gr]⟩;cases hq:gL s with
 |none=>exact h0
 |some v=>
  simp only[Option.getD_some];simp only[gL]at hq;split at hq
  .split at hq
   .obtain rfl:=bM hq;have h1:=kg s 43;have h2:=kg (aJ s 43).2 45;exact⟨by simp only;omega,by simp only;omega⟩
   .cases hq
  .cases hq
def Ql (s:au):decide (oy s=0)=(gL s).isSome:=by
 unfold oy;cases(gL s)<;>simp
end Go.Abs
namespace Go.Abs
def G5 (s p:au):(cO s p).1.length<=s.length:=by
 unfold cO;split<;>simp
end Go.Abs
namespace Go.Abs
variable {e:Env} {f:Nat} {r:SR} {ls:List uR}
end Go.Abs
namespace Go.Abs
end Go.Abs
end
namespace Go.Abs
section
section
variable {Y:Ctx} {draw:Bool} {r:List GI} {env rs:List cd} {nx:Nat} {m:List (Nat×b7)} {K:List cd->St->Prop} {g:Option (Nat×Bool)} {f:Bool}
def ZK {i:aU}{j:Nat}{w:Bool}(d:D)(h:aN Y draw r env (⟨false,d⟩::rs) nx m K)(hC:i.pure=true:=by exact rfl)(hg:GF rs (some (j,w)) false:=by exact⟨_,_,rfl,rfl⟩):aN Y draw (⟨i,some (j,w)⟩::r) env rs nx m K:=
 ca hC hg d (fun h=>by cases h) (fun h=>by cases h) (fun _=>h)
def cz {n:Nat}{args:List Src}{akq:List D}{v:D}{nx':Nat}{m':List (Nat×b7)}(h:aN Y draw r env (⟨true,v⟩::rs) nx' m' K)
  (hc:∀K':D->St->Prop,K' v ⟨nx'+rs.length,m'⟩->Y.tr n akq ⟨nx+rs.length,m⟩ K') (hn:nx<=nx') (ha:jf (cP env rs) args=akq:=by exact rfl)
  (ho:wI (cP env rs) args:=by repeat' first|exact trivial|exact rfl|refine And.intro ?_ ?_):aN Y draw (⟨.callM n args,none⟩::r) env rs nx m K:=by
 unfold aN;show True/\(true=true->wI (Src.ev env rs.reverse) args/\Y.tr n (jf (Src.ev env rs.reverse) args) {nx:=nx+rs.reverse.length,m:=m} _)/\(true=false->_)
 grind [nr,aN]
def VC {l k i0 n:Nat}{x y z:Src}{fx fy fz:Bool}{kh km:IntKind}{h' m':Int}(j:Nat)(h:aN Y draw r env (⟨f,.own l k i0 j⟩::rs) nx m K)(hg:GF rs g f:=by exact du)(hx:cP env rs x=⟨fx,.own l k i0 n⟩:=by exact rfl)(hy:cP env rs y=⟨fy,.int kh h'⟩:=by exact rfl)(hz:cP env rs z=⟨fz,.int km m'⟩:=by exact rfl)
  (kx:f=true->fx=true:=by exact ct) (ky:f=true->fy=true:=by exact ct) (kz:f=true->fz=true:=by exact ct)
  (hj:f=true->h'=(j:Int)) (hb:f=true->(j:Int)<=m'/\m'<=(n:Int)):aN Y draw (⟨.slX k x y z,g⟩::r) env rs nx m K:=
 ca rfl hg _ (fun hf=>by have h1:=hj hf;have h2:=hb hf;simp only[aU.eA,hx,hy,hz];exact⟨kx hf,ky hf,kz hf,ae,ae,trivial,h2.2⟩) (fun hf=>by simp only[aU.val,hx,hy];rw[hj hf,Int.toNat_natCast]) (fun _=>h)
def VB {α:Type}{q:α->D}{s:List α}{k:Nat}{x y z:Src}{fx fy fz:Bool}{kh km:IntKind}{h' m':Int}(j:Nat)(h:aN Y draw r env (⟨f,.sl k ((s.take j).map q)⟩::rs) nx m K)(hg:GF rs g f:=by exact du)(hx:cP env rs x=⟨fx,.sl k (s.map q)⟩:=by exact rfl)(hy:cP env rs y=⟨fy,.int kh h'⟩:=by exact rfl)(hz:cP env rs z=⟨fz,.int km m'⟩:=by exact rfl)
  (kx:f=true->fx=true:=by exact ct) (ky:f=true->fy=true:=by exact ct) (kz:f=true->fz=true:=by exact ct)
  (hj:f=true->h'=(j:Int)) (hb:f=true->(j:Int)<=m'/\m'<=(s.length:Int)):aN Y draw (⟨.slX k x y z,g⟩::r) env rs nx m K:=
 ca rfl hg _ (fun hf=>by have h1:=hj hf;have h2:=hb hf;simp only[aU.eA,hx,hy,hz,bQ];exact⟨kx hf,ky hf,kz hf,ae,ae,trivial,h2.2⟩) (fun hf=>by simp only[aU.val,hx,hy];rw[hj hf,Int.toNat_natCast,List.map_take]) (fun _=>h)
def gJ {n:Nat}{args:List Src}{akq:List D}{ι:Type}(P:ι->Prop)(V:ι->D)(nx':Nat)(M:ι->List (Nat×b7))(h:∀i,P i->aN Y draw r env (⟨true,V i⟩::rs) nx' (M i) K)
  (hc:∀K':D->St->Prop,(∀i,P i->K' (V i) ⟨nx'+rs.length,M i⟩)->Y.tr n akq ⟨nx+rs.length,m⟩ K') (hn:nx<=nx') (ha:jf (cP env rs) args=akq:=by exact rfl)
  (ho:wI (cP env rs) args:=by repeat' first|exact trivial|exact rfl|refine And.intro ?_ ?_):aN Y draw (⟨.callM n args,none⟩::r) env rs nx m K:=by
 unfold aN;show True/\(true=true->wI (Src.ev env rs.reverse) args/\Y.tr n (jf (Src.ev env rs.reverse) args) {nx:=nx+rs.reverse.length,m:=m} _)/\(true=false->_)
 grind [nr,aN]
def vP {n j:Nat}{w:Bool}{args:List Src}{akq:List D}{ι:Type}(P:ι->Prop)(V:ι->D)(nx':Nat)(M:ι->List (Nat×b7))(h:∀i,P i->aN Y draw r env (⟨true,V i⟩::rs) nx' (M i) K)(hg:GF rs (some (j,w)) true:=by exact⟨_,_,rfl,rfl⟩)
  (hc:∀K':D->St->Prop,(∀i,P i->K' (V i) ⟨nx'+rs.length,M i⟩)->Y.tr n akq ⟨nx+rs.length,m⟩ K') (hn:nx<=nx') (ha:jf (cP env rs) args=akq:=by exact rfl)
  (ho:wI (cP env rs) args:=by repeat' first|exact trivial|exact rfl|refine And.intro ?_ ?_):aN Y draw (⟨.callM n args,some (j,w)⟩::r) env rs nx m K:=by
 unfold aN;show A2 rs.reverse (some (j,w))/\(flag rs.reverse (some (j,w))=true->wI (Src.ev env rs.reverse) args/\Y.tr n (jf (Src.ev env rs.reverse) args) {nx:=nx+rs.reverse.length,m:=m} _)/\(flag rs.reverse (some (j,w))=false->_);obtain⟨hg1,hg2⟩:=hg.flag
 grind [nr,aN]
def Dk {n j:Nat}{w:Bool}{args:List Src}(h:aN Y draw r env (⟨false,.any⟩::rs) nx m K)(hg:GF rs (some (j,w)) false:=by exact⟨_,_,rfl,rfl⟩):aN Y draw (⟨.callM n args,some (j,w)⟩::r) env rs nx m K:=by
 unfold aN;show A2 rs.reverse (some (j,w))/\(flag rs.reverse (some (j,w))=true->_)/\(flag rs.reverse (some (j,w))=false->_);obtain⟨hg1,hg2⟩:=hg.flag
 grind [aN]
def Pu {c a:Src}{fc t:Bool}(h:aN Y draw r env (⟨f,.bool false⟩::rs) nx m K)(hg:GF rs g f:=by exact du)(hc:cP env rs c=⟨fc,.bool t⟩:=by exact rfl)(kc:f=true->fc=true:=by exact fun _=>rfl)(ht:t=false:=by exact rfl):aN Y draw (⟨.pick c a (.c (.bool false)),g⟩::r) env rs nx m K:=by
 subst ht;refine ca rfl hg _ (fun hf=>?_) (fun hf=>?_) (fun _=>h)
 .simp only[aU.eA,hc];exact⟨kc hf,⟨fun h=>absurd h aR,fun _=>rfl⟩⟩
 .simp only[aU.val,hc];have:cP env rs (.c (.bool false))=⟨true,.bool false⟩:=rfl;rw[this];cases(cP env rs a).d<;>rfl
def nG {n:Nat}{x:Src}{caps:List D}{args:List Src}{akq:List D}{ι:Type}(P:ι->Prop)(V:ι->D)(nx':Nat)(M:ι->List (Nat×b7))(h:∀i,P i->aN Y draw r env (⟨true,V i⟩::rs) nx' (M i) K)
  (hc:∀K':D->St->Prop,(∀i,P i->K' (V i) ⟨nx'+rs.length,M i⟩)->Y.tr (CO n) akq ⟨nx+rs.length,m⟩ K') (hn:nx<=nx') (hx:cP env rs x=⟨true,.fn n caps⟩:=by exact rfl) (ha:AU n (jf (cP env rs) args) caps=akq:=by exact rfl)
  (ho:wI (cP env rs) args:=by repeat' first|exact trivial|exact rfl|refine And.intro ?_ ?_):aN Y draw (⟨.callvM x args,none⟩::r) env rs nx m K:=by
 unfold aN;show Ol rs.reverse (.callvM x args) none/\(Src.ev env rs.reverse x).ok=true/\wI (Src.ev env rs.reverse) args/\match(Src.ev env rs.reverse x).d with
   | .fn n caps=>Y.tr (CO n) (AU n (jf (Src.ev env rs.reverse) args) caps) {nx:=nx+rs.reverse.length,m:=m} _
   |_=>False
 rw[nr,List.length_reverse];simp only[hx,ha];refine⟨trivial,trivial,ho,hc _ fun i hi=>⟨by show nx+rs.length<=nx'+rs.length;omega, ?_⟩⟩
 grind [aN]
def Pz {x:Src}{fx:Bool}{α:Type} [Inhabited α]{n k i o:Nat}{ag:Bool}{q:α->D}{xs:List α}(v:D)(h:aN Y draw r env (⟨f,v⟩::rs) nx m K)(hg:GF rs g f:=by exact du)(hx:cP env rs x=⟨fx,.ref k (xs.map q) i o⟩:=by exact rfl)(kx:f=true->fx=true:=by exact ct)(hi:f=true->i<xs.length:=by exact uI)(hv:f=true->po (q xs[i]!) k n o ag=v:=by exact fun _=>rfl)(ho:o+n<=k:=by omega):aN Y draw (⟨.ldU n ag x,g⟩::r) env rs nx m K:=
 iS rfl hg _ (fun hf=>by simp only[aU.eA,hx,E2,bQ];exact⟨kx hf,hi hf,ho⟩) (fun hf=>by simp only[aU.val,hx,D6];rw[getD_map (hi hf)];exact hv hf) m rfl (fun ha=>h)
def Py {x:Src}{fx:Bool}{n l k o:Nat}{ag:Bool}{d:D}(v:D)(h:aN Y draw r env (⟨f,v⟩::rs) nx m K)(hg:GF rs g f:=by exact du)(hx:cP env rs x=⟨fx,.ptr l k 0 o⟩:=by exact rfl)(kx:f=true->fx=true:=by exact ct)(hl:f=true->look m l=some (.buf k [d]):=by exact fun _=>rfl)(hv:f=true->po d k n o ag=v:=by exact fun _=>rfl)(ho:o+n<=k:=by omega)(hd:f=true->d.bK=false:=by exact fun _=>rfl):aN Y draw (⟨.ldU n ag x,g⟩::r) env rs nx m K:=
 iS rfl hg _ (fun hf=>by simp only[aU.eA,hx,E2,fN,hl hf];exact⟨kx hf,⟨⟨trivial,aR⟩,ho⟩,by simp only[bz,hl hf,bE,hd hf];rfl⟩) (fun hf=>by simp only[aU.val,hx,D6,bz,hl hf,kf];exact hv hf) m rfl (fun ha=>h)
end
end
end Go.Abs
section
namespace Go.Abs
def RW:List au->D
 |[]=>.aF
 |a::r=>.sl 1 ((a::r).map D.str)
def BV:∀l,(RW l).bK=true
 |[]=>rfl
 |a::r=>rfl
def uR.N (x:uR):Go.Abs.D:=.agg [.str x.name,.int .i64 x.v.major,.int .i64 x.v.minor,.int .i64 x.v.patch,.str x.v.pre,.str x.v.build,.str x.shelf,.int .u64 x.sum,RW x.feats]
def uR.oz (x:uR):x.N.bK=true:=by
 have:=BV x.feats;simp only[uR.N,D.bK,bE,this,m3]
end Go.Abs
namespace Go.Abs
def uR.F (name:au)(v:cy)(shelf:au)(sum:Int)(fs:Go.Abs.D):Go.Abs.D:=.agg [.str name,.int .i64 v.major,.int .i64 v.minor,.int .i64 v.patch,.str v.pre,.str v.build,.str shelf,.int .u64 sum,fs]
mutual
theorem UQ (l k:Nat)(es:List D):∀d:D,d.bK=true->iQ l k es d=d
 | .agg a,h=>by simp only[iQ,pU l k es a (by simpa[D.bK]using h)]
 | .tup a,h=>by simp only[iQ,pU l k es a (by simpa[D.bK]using h)]
 | .fn n a,h=>by simp only[iQ,pU l k es a (by simpa[D.bK]using h)]
 | .own ..,h=>by simp[D.bK]at h
 | .ptr ..,h=>by simp[D.bK]at h
 | .it ..,h=>by simp[D.bK]at h
 | .any,_| .bool _,_| .int ..,_| .str _,_| .aF,_| .sl ..,_| .ref ..,_| .nilp,_| .nilf,_=>rfl
theorem pU (l k:Nat)(es:List D):∀ds:List D,bE ds=true->iX l k es ds=ds
 |[],_=>rfl
 |d::r,h=>by
  simp only[bE,bG]at h;simp only[iX,UQ l k es d h.1,pU l k es r h.2]
end
end Go.Abs
namespace Go.Abs
end Go.Abs
namespace Go.Abs
end Go.Abs
namespace Go.Abs
end Go.Abs
namespace Go.Abs
end Go.Abs
namespace Go.Abs
end Go.Abs
end
section
namespace Go.Abs
end Go.Abs
namespace Go.Abs
def Kp.eq (a b:Kp):jg (Kp.D a).cells (Kp.D b).cells=decide (a=b):=by
 obtain⟨n1,⟨a1,a2,a3,a4,a5⟩⟩:=a;obtain⟨n2,⟨b1,b2,b3,b4,b5⟩⟩:=b
 grind [Kp.D,D.cells,jg,tZ,xu]
structure uR.ok (n:Nat)(x:uR):Prop where
 pre:x.v.pre.length<=3
 build:x.v.build.length<=2
 name:x.name.length<=16
 shelf:x.shelf.length<=16
 nf:x.feats.length<=n
 ft:∀t∈x.feats,t.length<=16
 sum:0<=x.sum/\x.sum<18446744073709551616
structure D2.ok (n:Nat)(l:D2):Prop where
 len:l.lines.length<=4
 lines:∀x∈l.lines,x.ok n
 env:∀i,(l.env.at i).length<=16
def D2.ok.sm {n:Nat}{l:D2}(h:l.ok n)(hn:n<=1000):l.sm:=by
 refine⟨by have:=h.len;omega,fun x hx=>?_,fun i=>by have:=h.env i;omega⟩;have k:=h.lines x hx;have k1:=k.pre;have k2:=k.build;have k3:=k.name;have k4:=k.shelf;have k5:=k.nf;exact⟨⟨ae,ae⟩,ae,ae,ae,fun t ht=>by have:=k.ft t ht;omega⟩
def uR.ok.mono {n m:Nat}{x:uR}(h:x.ok n)(hm:n<=m):x.ok m:=⟨h.pre,h.build,h.name,h.shelf,dD h.nf hm,h.ft,h.sum⟩
end Go.Abs
end
namespace Go.Abs
section
def lk {α:Type}:List (Nat×α)->Nat->α->α
 |[],_,d=>d
 |(a,b)::r,n,d=>bif Nat.beq a n then b else lk r n d
structure Row where
 key:Nat
 pre:List D->Prop
 val:List D->D
structure Zb where
 pre:D->List D->Prop
 val:D->List D->D
 new:D->List D->D
def Row.no:Row:=⟨0,fun _=>False,fun _=>.any⟩
def Zb.no:Zb:=⟨fun _ _=>False,fun _ _=>.any,fun _ _=>.any⟩
section
variable [dI] {P:Program} {ν:List (Nat×Nat)} {cU:List Nat} {Y:Ctx}
end
end
section
variable [dI]
section
variable {P:Program} {ν:List (Nat×Nat)} {cU:List Nat} {Y:Ctx}
def RD.re {x x':X}{σ:List (Nat×Nat)}(hw:x'.w=x.w)(hI:x'.I=x.I)(hβ:∀l l',lV 0 σ l=some l'->x'.β l'=x.β l){v:Value}{d d':D}(hv:RD ν x v d)(hd:QE 0 σ d d'):RD ν x' v d':=by
 rcases hd with⟨rfl,hn⟩|hd|hd
 .exact hv.bK hn (fun _ h=>by rw[hI];exact h) (fun _ _=>by rw[hw])
 .grind [RD.rn]
 grind [RD.nl]
def oN.re {x x':X}{σ:List (Nat×Nat)}(hw:x'.w=x.w)(hI:x'.I=x.I)(hβ:∀l l',lV 0 σ l=some l'->x'.β l'=x.β l){b base tot:Nat}{b0 blk:b7}(o2:oN ν x b base tot b0)(q3:rH 0 σ b0 blk):oN ν x' b base tot blk:=by
 cases b0 with
 |iter s p=>
  cases blk with
  |iter s' p'=>simp only[rH]at q3;obtain⟨rfl,rfl⟩:=q3;simp only[oN,hw]at o2⊢;exact o2
  |_=>simp[rH]at q3
 |row s=>
  cases blk with
  |row s'=>simp only[rH]at q3;subst q3;simp only[oN,hw]at o2⊢;exact o2
  |_=>simp[rH]at q3
 |bld o n u=>
  cases blk with
  |bld o' n' u'=>
   simp only[rH]at q3;obtain⟨q3,rfl,rfl⟩:=q3;obtain⟨p1,v,p2,p3⟩:=o2;refine⟨p1,v,by rw[hw];exact p2, ?_⟩;cases o with
   |none=>simp only at q3;subst q3;exact p3
   |some l0=>
    obtain⟨l1,q4,rfl⟩:=q3;obtain⟨g,t,p4,p5,p6⟩:=p3;exact⟨g,t,p4,p5,by rw[hβ l0 l1 q4];exact p6⟩
  |_=>simp[rH]at q3
 |buf k es=>
  cases blk with
  |iter s' p'=>simp[rH]at q3
  |row s'=>simp[rH]at q3
  |bld o' n' u'=>simp[rH]at q3
  |buf k' es'=>
   simp only[rH]at q3;obtain⟨rfl,q3⟩:=q3;obtain⟨p1,p2,cc,T,fr,p3,p4,p5,p6⟩:=o2;rw[<-hw]at p3;rcases q3 with⟨rfl,hn⟩|q3|q3
   .exact⟨p1,p2,cc,T,fr,p3,p4,p5,fun i hi=>⟨(p6 i hi).1,fun j hj=>⟨((p6 i hi).2 j hj).1,RD.re hw hI hβ ((p6 i hi).2 j hj).2 (.inl ⟨rfl,lN (dz hn i) j⟩)⟩⟩⟩
   .obtain⟨r1,r2⟩:=mD q3;refine⟨p1,ae,cc,T,fr,p3,p4,p5,fun i hi=>?_⟩;have hi':i<es.length:=ae;obtain⟨s1,s2⟩:=B9 (r2 i hi');exact⟨s1.trans (p6 i hi').1,fun j hj=>⟨((p6 i hi').2 j hj).1,RD.re hw hI hβ ((p6 i hi').2 j hj).2 (.inr (.inl (s2 j (by rw[(p6 i hi').1];exact hj))))⟩⟩
   .obtain⟨r1,r2⟩:=qB q3;refine⟨p1,ae,cc,T,fr,p3,p4,p5,fun i hi=>?_⟩;have hi':i<es.length:=ae;obtain⟨s1,s2⟩:=Bl (r2 i hi');exact⟨s1.trans (p6 i hi').1,fun j hj=>⟨((p6 i hi').2 j hj).1,RD.re hw hI hβ ((p6 i hi').2 j hj).2 (.inr (.inr (s2 j (by rw[(p6 i hi').1];exact hj))))⟩⟩
def JE {lo c:Nat}{σ:List (Nat×Nat)}{l l':Nat}(h0:gS 0 c σ=true)(h:lV 0 σ l=some l'):l'<c/\(l,l')∈σ:=by
 obtain⟨h1,h2⟩:=uA h0 h
 grind
def uq {c:Nat}:∀{σ:List (Nat×Nat)}{a b:Nat},gS 0 c σ=true->(a,b)∈σ->lV 0 σ a=some b
 |[],a,b,_,h=>by cases h
 |(a0,b0)::r,a,b,h0,h=>by
  unfold lV;simp only[gS,bG,List.all_eq_true,bg]at h0;obtain⟨_,_,p4,p5⟩:=h0;rcases dp.1 h with h|h
  .simp only[ez]at h;obtain⟨rfl,rfl⟩:=h;simp
  .have:=(p4 _ h).1;simp only at this;have hne:Nat.beq a0 a=false:=by
    cases hb:Nat.beq a0 a with
    |false=>rfl
    |true=>obtain rfl:=Nat.eq_of_beq_eq_true hb;simp at this
   rw[hne];exact uq p5 h
structure Fr (σi σo:List (Nat×Nat))(q q1:Nat)(m0 m1:List (Nat×b7))(st st':St):Prop where
 oki:gS 0 q σi=true
 oko:gS 0 st'.nx σo=true
 nx:st.nx<=st'.nx
 lt:∀l i,(l,i)∈σi->look st.m l≠none
 io:∀i l,(i,l)∈σo->(l,i)∈σi\/st.nx<=l
 m0:∀i b,look m0 i=some b->∃l b',(l,i)∈σi/\look st.m l=some b'/\rH 0 σi b' b
 m1:∀l b,look st'.m l=some b->(∃i b1,(i,l)∈σo/\look m1 i=some b1/\rH 0 σo b1 b)\/(mr σo l=none/\(∀i,(l,i)∉σi)/\look st.m l=some b)
def Rn {fid:Nat}{fn:Func}{af:aE}{K:D->St->Prop}(hΓ:Ok P ν cU Y)(hmix:P.follows .mixedOrders=true)(hf:P.funcs[fid]? =some fn)(hc:compile P ν cU fn=some af)
  {x:X} {args:Array Value} {ds cs:List D} {st:St} {σi:List (Nat×Nat)} {q:Nat} {m0:List (Nat×b7)} (hl:args.size=ds.length) (hargs:∀i,i<ds.length->RD ν x (args.getD i undef) (ds.getD i .any))
  (hs:gw ν x (look st.m)) (hfr:gu st x) (hlen:cs.length=ds.length) (hds:∀i,i<ds.length->QE 0 σi (ds.getD i .any) (cs.getD i .any)) (hnp:cs.length=af.np)
  (oki:gS 0 q σi=true) (hlt:∀l i,(l,i)∈σi->look st.m l≠none) (hm0:∀i b,look m0 i=some b->∃l b',(l,i)∈σi/\look st.m l=some b'/\rH 0 σi b' b)
  (hw:bP (Y.at q) af.body (fun e env st1=>e.home/\qy st1.m env af.res/\∃(σo:List (Nat×Nat)) (q1:Nat) (m1:List (Nat×b7)) (st':St) (vd':D),Fr σi σo q q1 m0 m1 st st'/\QE 0 σo (lU af env st1) vd'/\K vd' st'/\∀i,look st1.m i=look m1 i) (fH af cs) ⟨q,m0⟩):
  Calls P fid args x.w fun
   | .returned v,w'=>∃x' d st',K d st'/\x'.w=w'/\Step x x'/\RD ν x' v d/\gw ν x' (look st'.m)/\gu st' x'
   |_,_=>False:=by
 obtain⟨body,c1,c2,c3,c4,c5,c6⟩:=jv hc
 let x0:X:=⟨x.w,x.I,fun i=>(mr σi i).bind x.β⟩
 have hx0:∀l i,(l,i)∈σi->x0.β i=x.β l:=fun l i h=>by simp only[x0,xE oki h,Option.bind_some]
 have hβ0:∀l i,lV 0 σi l=some i->x0.β i=x.β l:=fun l i h=>hx0 l i (JE (lo:=0) oki h).2
 have hx0':∀i p,x0.β i=some p->∃l,(l,i)∈σi/\x.β l=some p/\i<q:=by
  intro i p h;obtain⟨l,h1,h2⟩:=Option.bind_eq_some_iff.1 (show(mr σi i).bind x.β=some p from h);exact⟨l,mw h1,h2,rI oki (mw h1)⟩
 have hs0:gw ν x0 (look m0):=by
  refine⟨fun i blk b base tot e1 e2=>?_,fun i j b base tot base' tot' e1 e2 e3 e4=>?_,hs.imm,fun i b base tot e=>?_,dI.le x _ (fun _ h=>h) (fun _ _=>rfl) hs.gd⟩
  .obtain⟨l,b',h1,h2,h3⟩:=hm0 i blk e1;rw[hx0 l i h1]at e2;obtain⟨o1,o2⟩:=hs.own l b' b base tot h2 e2;exact⟨o1,oN.re (x:=x) (x':=x0) rfl rfl hβ0 o2 h3⟩
  .obtain⟨l,h1,h2,_⟩:=hx0' i _ e3;obtain⟨l',h1',h2',_⟩:=hx0' j _ e4;have:=hs.inj l l' b base tot base' tot' (hlt _ _ h1) (hlt _ _ h1') h2 h2';subst this;have:=uq oki h1;rw[uq oki h1']at this;exact(bM this).symm
  .obtain⟨l,_,h2,_⟩:=hx0' i _ e;exact hs.eZ l b base tot h2
 have hf0:gu ⟨q,m0⟩ x0:=by
  refine⟨fun i hi=>?_,fun i hi=>?_⟩
  .cases h:x0.β i with
   |none=>rfl
   |some p=>obtain⟨_,_,_,h4⟩:=hx0' i p h;simp only at hi;omega
  .cases h:look m0 i with
   |none=>exact absurd h hi
   |some b=>obtain⟨l,b',h1,_⟩:=hm0 i b h;exact rI oki h1
 have hi:=vY (P:=P) (ν:=ν) (cU:=cU) (x:=x0) (ds:=cs) (st:=⟨q,m0⟩) c4 c5 c6 (args:=args) ae hnp (fun i hi=>RD.re (x:=x) (x':=x0) rfl rfl hβ0 (hargs i ae) (hds i ae)) hs0 hf0;have hcs:=sP (C:={P,ν,cU,slots:=slotsOf fn,ntmps:=fn.ntmps,vm:=M3 P fn}) (hΓ.at q) (oF fn).1 hmix x0 (fun l h=>hf0.β l h) body af.body c2 _ _ _ _ x0 hw hi (.refl _);refine calls_of_wp hf c1 (wp_mono hcs fun e a w' hp=>?_);obtain⟨e',x',env',st1,he,hxw,hst,hi',hh,hro,σo,q1,m1,st',vd',hfm,hvd,hK,hlk⟩:=hp;subst hxw;obtain⟨v,r1,r2,r3⟩:=rl hi' c3 hro
 let x2:X:=⟨x'.w,x'.I,fun l=>match mr σo l with|some i=>x'.β i|none=>x.β l⟩
 have hx2:∀i l,(i,l)∈σo->x2.β l=x'.β i:=fun i l h=>by simp only[x2,xE hfm.oko h]
 have hx2n:∀l,mr σo l=none->x2.β l=x.β l:=fun l h=>by simp only[x2,h]
 have hβ2:∀i l,lV 0 σo i=some l->x2.β l=x'.β i:=fun i l h=>hx2 i l (JE (lo:=0) hfm.oko h).2
 have hx0s:∀l i p,(l,i)∈σi->x.β l=some p->x'.β i=some p:=fun l i p h e=>hst.β _ _ (by rw[hx0 l i h];exact e)

 have hnew:∀i p,x'.β i=some p->(∃l,(l,i)∈σi/\x.β l=some p)\/x.w.heap.size<=p.1\/∃l p',(∃j,(l,j)∈σi)/\x.β l=some p'/\p'.1=p.1:=by
  intro i p e;rcases hst.newβ i p e with h|h|⟨j,p',h1,h2⟩
  .obtain⟨l,h3,h4,_⟩:=hx0' i p h;exact .inl ⟨l,h3,h4⟩
  .exact .inr (.inl h)
  .obtain⟨l,h3,h4,_⟩:=hx0' j p' h1;exact .inr (.inr ⟨l,p',⟨j,h3⟩,h4,h2⟩)
 have hstep:Step x x2:=by
  refine⟨hst.os,hst.tape,hst.output,hst.size,hst.I,hst.pX,fun l p hp=>?_,fun b hb hn=>hst.old b hb fun i p h e=>?_,fun b h=>?_,fun l p h=>?_⟩
  .cases h:mr σo l with
   |none=>rw[hx2n l h];exact hp
   |some i=>
    have hm:=mw h;rw[hx2 i l hm];rcases hfm.io i l hm with h2|h2
    .exact hx0s l i p h2 hp
    .rw[hfr.β l h2]at hp;cases hp
  .obtain⟨l,_,h2,_⟩:=hx0' i p h;exact hn l p h2 e
  .rcases hst.newI b h with h|h|⟨i,p,h1,h2⟩
   .exact .inl h
   .exact .inr (.inl h)
   .obtain⟨l,_,h3,_⟩:=hx0' i p h1;exact .inr (.inr ⟨l,p,h3,h2⟩)
  .cases h1:mr σo l with
   |none=>rw[hx2n l h1]at h;exact .inl h
   |some i=>
    have hm:=mw h1;rw[hx2 i l hm]at h;rcases hnew i p h with⟨l',h2,h3⟩|h2|⟨l',p',_,h3,h4⟩
    .exact .inr (.inr ⟨l',p,h3,rfl⟩)
    .exact .inr (.inl h2)
    .exact .inr (.inr ⟨l',p',h3,h4⟩)
 have hsim:gw ν x2 (look st'.m):=by
  refine⟨fun l blk b base tot e1 e2=>?_,fun l1 l2 b base tot base' tot' e1 e2 e3 e4=>?_,hi'.ox.imm,fun l b base tot e=>?_,dI.le x' _ (fun _ h=>h) (fun _ _=>rfl) hi'.ox.gd⟩
  .rcases hfm.m1 l blk e1 with⟨i,b1,h1,h2,h3⟩|⟨h1,h2,h3⟩
   .rw[hx2 i l h1]at e2;obtain⟨o1,o2⟩:=hi'.ox.own i b1 b base tot (by rw[hlk];exact h2) e2;exact⟨o1,oN.re (x:=x') (x':=x2) rfl rfl hβ2 o2 h3⟩
   .rw[hx2n l h1]at e2;obtain⟨o1,o2⟩:=hs.own l blk b base tot h3 e2;have hlt:=hs.eZ l b base tot e2;have hno:∀i p,x0.β i=some p->p.1≠b:=by
     rintro i ⟨b',base',tot'⟩ h e;simp only at e;subst e;obtain⟨l',h4,h5,_⟩:=hx0' i _ h;have:=hs.inj l' l b' base' tot' base tot (hfm.lt _ _ h4) (by rw[h3];simp) h5 e2;subst this;exact h2 _ h4
    refine⟨fun h=>?_,o2.mono hstep.le (hst.old b hlt hno)⟩;rcases hst.newI b h with h|h|⟨i,p,h4,h5⟩
    .exact o1 h
    .exact absurd hlt (Nat.not_lt.2 h)
    .exact hno i p h4 h5
  .have mix:∀l1 l2 base tot base' tot',(∃i b1,(i,l1)∈σo/\look m1 i=some b1)->mr σo l2=none->(∀i,(l2,i)∉σi)->look st.m l2≠none->x2.β l1=some (b,base,tot)->x2.β l2=some (b,base',tot')->False:=by
    rintro l1 l2 base tot base' tot' ⟨i,b1,h1,h2⟩ h3 h4 h5 e3 e4;rw[hx2 i l1 h1]at e3;rw[hx2n l2 h3]at e4;rcases hnew i _ e3 with⟨l',h6,h7⟩|h6|⟨l',⟨pb,pt,pq⟩,⟨j,h6⟩,h7,h8⟩
    .have:=hs.inj l' l2 b base tot base' tot' (hfm.lt _ _ h6) h5 h7 e4;subst this;exact h4 _ h6
    .have:=hs.eZ l2 b base' tot' e4;simp only at h6;omega
    .simp only at h8;subst h8;have:=hs.inj l' l2 pb pt pq base' tot' (hfm.lt _ _ h6) h5 h7 e4;subst this;exact h4 _ h6
   cases f1:look st'.m l1 with
   |none=>exact absurd f1 e1
   |some b1=>
    cases f2:look st'.m l2 with
    |none=>exact absurd f2 e2
    |some b2=>
     rcases hfm.m1 l1 b1 f1 with⟨i,c1,h1,h2,_⟩|⟨h1,h2,h3⟩<;>rcases hfm.m1 l2 b2 f2 with⟨j,c2,k1,k2,_⟩|⟨k1,k2,k3⟩
     .rw[hx2 i l1 h1]at e3;rw[hx2 j l2 k1]at e4;have:=hi'.ox.inj i j b base tot base' tot' (by rw[hlk,h2];simp) (by rw[hlk,k2];simp) e3 e4;subst this;have:=uq hfm.oko h1;rw[uq hfm.oko k1]at this;exact(bM this).symm
     .exact(mix l1 l2 base tot base' tot' ⟨i,c1,h1,h2⟩ k1 k2 (by rw[k3];simp) e3 e4).elim
     .exact(mix l2 l1 base' tot' base tot ⟨j,c2,k1,k2⟩ h1 h2 (by rw[h3];simp) e4 e3).elim
     .rw[hx2n l1 h1]at e3;rw[hx2n l2 k1]at e4;exact hs.inj l1 l2 b base tot base' tot' (by rw[h3];simp) (by rw[k3];simp) e3 e4
  .cases h1:mr σo l with
   |none=>rw[hx2n l h1]at e;exact fj (hs.eZ l b base tot e) hst.size
   |some i=>
    rw[hx2 i l (mw h1)]at e;exact hi'.ox.eZ i b base tot e
 have hfr2:gu st' x2:=by
  refine⟨fun l hl=>?_,fun l hl=>?_⟩
  .cases h1:mr σo l with
   |none=>rw[hx2n l h1];exact hfr.β l (by have:=hfm.nx;omega)
   |some i=>have:=rI hfm.oko (mw h1);omega
  .cases f1:look st'.m l with
   |none=>exact absurd f1 hl
   |some b1=>
    rcases hfm.m1 l b1 f1 with⟨i,c1,h1,_⟩|⟨_,_,h3⟩
    .exact rI hfm.oko h1
    .have:=hfr.m l (by rw[h3];simp);have:=hfm.nx;omega
 have hrd:=RD.re (ν:=ν) (x:=x') (x':=x2) rfl rfl hβ2 r2 hvd;rcases Ex.Dd hh with h|h<;>rw[h]at he<;>subst he<;>exact⟨hi'.defers,v,r1,x2,vd',st',hK,rfl,hstep,hrd,hsim,hfr2⟩
end
end
section
structure Zc where
 tr:List D->St->(D->St->Prop)->Prop
 mu:List D->St->Nat
 mono:∀(ds:List D) (st:St) (K K':D->St->Prop),(∀d st',K d st'->K' d st')->tr ds st K->tr ds st K'
def Zc.no:Zc:=⟨fun _ _ _=>False,fun _ _=>0,fun _ _ _ _ _ h=>h⟩
def kv (af:aE)(Q:D->List (Nat×b7)->Prop):Ex->List cd->St->Prop:=fun e env st=>e.home/\qy st.m env af.res/\∃m1,(∀i,look st.m i=look m1 i)/\Q (lU af env st) m1
def bW {af:aE}{Q:D->List (Nat×b7)->Prop}{vd:D}{m1:List (Nat×b7)}{e:Ex}{env:List cd}{st:St}(h1:e.home)(h2:qy st.m env af.res)(h3:lU af env st=vd)(h4:st.m=m1)(h5:Q vd m1):kv af Q e env st:=⟨h1,h2,m1,fun i=>by rw[h4],by rw[h3];exact h5⟩
def One (vd:D)(m1:List (Nat×b7)):D->List (Nat×b7)->Prop:=fun d m=>d=vd/\m=m1
def oneq (vd:D)(m1:List (Nat×b7)):One vd m1 vd m1:=⟨rfl,rfl⟩
section
variable [dI] {P:Program} {ν:List (Nat×Nat)} {cU:List Nat} {Y:Ctx}
def ND (P:Program)(ν:List (Nat×Nat))(Γ':Ctx)(cU:List Nat)(tr:List D->St->(D->St->Prop)->Prop)(fid:Nat):Prop:=
 ∀(ds:List D) (st:St) (K:D->St->Prop),tr ds st K->Ok P ν cU Γ'->∀(x:X) (args:Array Value),args.size=ds.length->(∀i,i<ds.length->RD ν x (args.getD i undef) (ds.getD i .any))->gw ν x (look st.m)->gu st x->
  jV P x (fun v x'=>∃d st',K d st'/\Step x x'/\RD ν x' v d/\gw ν x' (look st'.m)/\gu st' x') ((callFunc fid args).run P x.w)
end
end
end Go.Abs
