/- A part of the proofs. -/
import Derived.IntWalk
import Derived.KernelRfl
import Derived.Lib.TrimUEq
import Derived.Test.YtpdlhpamcaocgaaGreatDoorP03
set_option linter.all false
set_option maxRecDepth 4000
namespace Go.Abs
section
section
variable {Y:Ctx} {Q Q':Ex->List ca->St->Prop} {env:List ca} {st:St}
def Ctx.bz (Y:Ctx):Prop:=∀f ds st (K K':D->St->Prop),(∀d st,K d st->K' d st)->Y.tr f ds st K->Y.tr f ds st K'
def mc {draw:Bool}{K K':List ca->St->Prop}(h:∀vs st,K vs st->K' vs st)(htr:Y.bz):∀(l:List GI)(env vs:List ca)(st:St),jY Y draw l env vs st K->jY Y draw l env vs st K'
 |[],env,vs,st,hh=>h _ _ hh
 |⟨i,g⟩::r,env,vs,st,hh=>by
  cases hcm:i.dR with
  |true=>
   cases i<;>simp only[aW.dR]at hcm<;>try(cases hcm;done)
   ·exact⟨hh.1,fun hf=>⟨(hh.2.1 hf).1,htr _ _ _ _ _ (fun d st' ⟨h1,h2⟩=>⟨h1,mc h htr r _ _ _ h2⟩) (hh.2.1 hf).2⟩,fun hf=>mc h htr r _ _ _ (hh.2.2 hf)⟩
   ·rename_i fv args;simp only[jY]at hh⊢;refine⟨hh.1,hh.2.1,hh.2.2.1, ?_⟩;have h3:=hh.2.2.2;cases hd:(Src.ev env vs fv).d<;>simp only[hd]at h3⊢;exact htr _ _ _ _ _ (fun d st' ⟨h1,h2⟩=>⟨h1,mc h htr r _ _ _ h2⟩) h3
  |false=>
   cases hf:i.vP draw g with
   |true=>
    rw[Az hcm hf]at hh⊢;exact⟨hh.1,fun e=>⟨(hh.2.1 e).1,mc h htr r _ _ _ (hh.2.1 e).2⟩,fun e=>mc h htr r _ _ _ (hh.2.2 e)⟩
   |false=>
    rw[nO hcm hf]at hh⊢;exact⟨hh.1,hh.2.1,fun ha=>(hh.2.2 ha).imp fun _ h2=>⟨h2.1,mc h htr r _ _ _ h2.2⟩⟩
def Gh.mono {lo:Nat}{p q:List ca->St->Prop}(h:∀env st,p env st->q env st):Gh lo p env st->Gh lo q env st
 |⟨e,s,h1,h2⟩=>⟨e,s,h1,h _ _ h2⟩
def Gh.intro {lo:Nat}{p:List ca->St->Prop}(h:p env st):Gh lo p env st:=⟨env,st,.refl _ _,h⟩
def gZ (htr:Y.bz):∀(a:AC)(Q Q':Ex->List ca->St->Prop)(env:List ca)(st:St),(∀e env st,Q e env st->Q' e env st)->bX Y a Q env st->bX Y a Q' env st
 | .reg draw ins cm,Q,Q',env,st,h,hh=>Gh.mono (fun env st h2=>mc (fun vs st=>h _ _ _) htr _ _ _ _ h2) hh
 | .seq a b,Q,Q',env,st,h,hh=>Gh.mono (fun env st h2=>gZ htr a _ _ env st (fun e env st h2=>by
   cases e with
   |normal=>exact gZ htr b Q Q' env st h h2
   |exit id=>exact h _ _ _ h2
   |ret=>exact h _ _ _ h2) h2) hh
 | .cond c a b,Q,Q',env,st,h,hh=>Gh.mono (fun env st h2=>by
  refine⟨h2.1, ?_⟩;have:=h2.2;cases hd:(c.ev env []).d<;>simp only[hd]at this⊢;exact⟨fun ht=>gZ htr a Q Q' env st h (this.1 ht),fun ht=>gZ htr b Q Q' env st h (this.2 ht)⟩) hh
 | .block id a,Q,Q',env,st,h,hh=>Gh.mono (fun env st h2=>gZ htr a _ _ env st (fun e env st h2=>by
   cases e with
   |normal=>exact h _ _ _ h2
   |exit j=>simp only at h2⊢;split<;>rename_i hj<;>simp only[hj,aH,aI]at h2<;>exact h _ _ _ h2
   |ret=>exact h _ _ _ h2) h2) hh
 | .loop a,Q,Q',env,st,h,hh=>Gh.mono (fun env st h2=>by
  obtain⟨I,μ,h1,h2⟩:=h2;refine⟨I,μ,h1,fun env st hi=>gZ htr a _ _ env st (fun e env' st' h3=>?_) (h2 env st hi)⟩;cases e with
  |normal=>exact h3
  |exit id=>exact h _ _ _ h3
  |ret=>exact h _ _ _ h3) hh
 | .exit id,Q,Q',env,st,h,hh=>Gh.mono (fun _ _=>h _ _ _) hh
 | .ret,Q,Q',env,st,h,hh=>Gh.mono (fun _ _=>h _ _ _) hh
 | .skip,Q,Q',env,st,h,hh=>Gh.mono (fun _ _=>h _ _ _) hh
def gY {a:AC}{env':List ca}{st':St}(g:bg Y.lo env st env' st')(h:bX Y a Q env' st'):bX Y a Q env st:=by
 cases a<;>(obtain⟨e2,s2,g2,h2⟩:=h;exact⟨e2,s2,.trans _ _ _ _ _ _ g g2,h2⟩)
def BQ (Y:Ctx)(id:Nat)(r:AC)(Q:Ex->List ca->St->Prop):Ex->List ca->St->Prop:=fun e env st=>match e with
 | .normal=>bX Y r Q env st
 | .exit j=>if j=id then bX Y r Q env st else Q (.exit j) env st
 | .ret=>Q .ret env st
def LQ (Y:Ctx)(id:Nat)(r:AC)(next:List ca->St->Prop)(Q:Ex->List ca->St->Prop):Ex->List ca->St->Prop:=fun e env st=>match e with
 | .normal=>next env st
 | .exit j=>if j=id then bX Y r Q env st else Q (.exit j) env st
 | .ret=>Q .ret env st
def BQ.normal {id:Nat}{r:AC}(h:bX Y r Q env st):BQ Y id r Q .normal env st:=h
def BQ.out {id:Nat}{r:AC}(h:bX Y r Q env st):BQ Y id r Q (.exit id) env st:=by simp only[BQ,aH];exact h
def BQ.other {id j:Nat}{r:AC}(hj:(j==id)=false)(h:Q (.exit j) env st):BQ Y id r Q (.exit j) env st:=by simp only[BQ,aj (by simpa using hj)];exact h
def BQ.ret {id:Nat}{r:AC}(h:Q .ret env st):BQ Y id r Q .ret env st:=h
def LQ.normal {id:Nat}{r:AC}{next:List ca->St->Prop}(h:next env st):LQ Y id r next Q .normal env st:=h
def LQ.out {id:Nat}{r:AC}{next:List ca->St->Prop}(h:bX Y r Q env st):LQ Y id r next Q (.exit id) env st:=by simp only[LQ,aH];exact h
def LQ.other {id j:Nat}{r:AC}{next:List ca->St->Prop}(hj:(j==id)=false)(h:Q (.exit j) env st):LQ Y id r next Q (.exit j) env st:=by simp only[LQ,aj (by simpa using hj)];exact h
def LQ.ret {id:Nat}{r:AC}{next:List ca->St->Prop}(h:Q .ret env st):LQ Y id r next Q .ret env st:=h
def L7 {a b c:AC}(h:bX Y (.seq a (.seq b c)) Q env st):bX Y (.seq (.seq a b) c) Q env st:=by
 obtain⟨e1,s1,g1,h1⟩:=h;refine⟨e1,s1,g1,e1,s1,.refl _ _, ?_⟩;have:∀(Q1 Q2:Ex->List ca->St->Prop),Q1=Q2->bX Y a Q1 e1 s1->bX Y a Q2 e1 s1:=fun _ _ e h=>e▸h
 refine this _ _ ?_ h1;funext e env st;cases e with
 |normal=>exact propext ⟨fun⟨e2,s2,g2,h2⟩=>gY g2 h2,fun h=>⟨_,_,.refl _ _,h⟩⟩
 |exit id=>rfl
 |ret=>rfl
def FW {b:AC}(h:bX Y b Q env st):bX Y (.seq .skip b) Q env st:=.intro (.intro h)
def wp_skip (h:Q .normal env st):bX Y .skip Q env st:=.intro h
def I6 {b:AC}(h:Q .ret env st):bX Y (.seq .ret b) Q env st:=.intro (.intro h)
def wp_ret (h:Q .ret env st):bX Y .ret Q env st:=.intro h
def FV {id:Nat}{b:AC}(h:Q (.exit id) env st):bX Y (.seq (.exit id) b) Q env st:=.intro (.intro h)
def wp_exit {id:Nat}(h:Q (.exit id) env st):bX Y (.exit id) Q env st:=.intro h
def D7 {id:Nat}{a r:AC}(h:bX Y a (BQ Y id r Q) env st)(htr:Y.bz):bX Y (.seq (.block id a) r) Q env st:=by
 refine .intro (.intro (gZ htr a _ _ _ _ (fun e env st h=>?_) h));cases e with
 |normal=>exact h
 |exit j=>simp only[BQ]at h⊢;split<;>rename_i hj<;>simp only[hj,aH,aI]at h<;>exact h
 |ret=>exact h
def wp_block {id:Nat}{a:AC}(h:bX Y a (BQ Y id .skip Q) env st)(htr:Y.bz)(hQ:∀e env env' st st',bg Y.lo env st env' st'->Q e env' st'->Q e env st):bX Y (.block id a) Q env st:=by
 refine .intro (gZ htr a _ _ _ _ (fun e env st h=>?_) h);have hs:∀env st,bX Y .skip Q env st->Q .normal env st:=fun env st ⟨e2,s2,g2,h2⟩=>hQ _ _ _ _ _ g2 h2
 cases e with
 |normal=>exact hs _ _ h
 |exit j=>simp only[BQ]at h⊢;split<;>rename_i hj<;>simp only[hj,aH,aI]at h<;>first|exact hs _ _ h|exact h
 |ret=>exact h
def CQ (next:List ca->St->Prop)(Q:Ex->List ca->St->Prop):Ex->List ca->St->Prop:=fun e env st=>match e with
 | .normal=>next env st
 | .exit j=>Q (.exit j) env st
 | .ret=>Q .ret env st
def CQ.normal {next:List ca->St->Prop}(h:next env st):CQ next Q .normal env st:=h
def CQ.other {next:List ca->St->Prop}{j:Nat}(h:Q (.exit j) env st):CQ next Q (.exit j) env st:=h
def CQ.ret {next:List ca->St->Prop}(h:Q .ret env st):CQ next Q .ret env st:=h
def D9 (id:Nat)(Q:Ex->List ca->St->Prop):Ex->List ca->St->Prop:=fun e env st=>match e with
 | .normal=>Q .normal env st
 | .exit j=>if j=id then Q .normal env st else Q (.exit j) env st
 | .ret=>Q .ret env st
def D9.normal {id:Nat}(h:Q .normal env st):D9 id Q .normal env st:=h
def D9.out {id:Nat}(h:Q .normal env st):D9 id Q (.exit id) env st:=by simp only[D9,aH];exact h
def D9.other {id j:Nat}(hj:(j==id)=false)(h:Q (.exit j) env st):D9 id Q (.exit j) env st:=by simp only[D9,aj (by simpa using hj)];exact h
def D9.ret {id:Nat}(h:Q .ret env st):D9 id Q .ret env st:=h
def I5 {id:Nat}{a:AC}(h:bX Y a (D9 id Q) env st)(htr:Y.bz):bX Y (.block id a) Q env st:=by
 refine .intro (gZ htr a _ _ _ _ (fun e env st h=>?_) h);cases e with
 |normal=>exact h
 |exit j=>simp only[D9]at h⊢;split<;>rename_i hj<;>simp only[hj,aH,aI]at h<;>exact h
 |ret=>exact h
def rI (htr:Y.bz){a b:AC}{ι:Type}(F:ι->List ca)(G:ι->List (Nat×bV))(c:Nat)(P:ι->Prop)
  (h1:bX Y a (CQ (fun env' st'=>∃j,P j/\bg Y.lo env' st' (F j) ⟨c,G j⟩) Q) env st)
  (h2:∀i,P i->bX Y b Q (F i) ⟨c,G i⟩):bX Y (.seq a b) Q env st:=by
 refine .intro (gZ htr a _ _ _ _ (fun e env st h=>?_) h1);cases e with
 |normal=>obtain⟨j,hj,g⟩:=h;exact gY g (h2 j hj)
 |exit j=>exact h
 |ret=>exact h
def bw (htr:Y.bz){a r:AC}{id:Nat}{ι:Type}(F:ι->List ca)(G:ι->List (Nat×bV))(c:Nat)(P:ι->Prop)(μ:ι->Nat)(i0:ι)
  (hP:P i0) (h0:bg Y.lo env st (F i0) ⟨c,G i0⟩)
  (hr:∀i,P i->bX Y a (LQ Y id r (fun env' st'=>∃j,P j/\μ j<μ i/\bg Y.lo env' st' (F j) ⟨c,G j⟩) Q) (F i) ⟨c,G i⟩):bX Y (.seq (.block id (.loop a)) r) Q env st:=by
 let W:List ca->St->Nat->Prop:=fun env st k=>∃i,env=F i/\st=⟨c,G i⟩/\P i/\μ i=k
 have least:∀env st,(∃k,W env st k)->∃k,W env st k/\∀k',W env st k'->k<=k':=by
  intro env st ⟨k,hk⟩;induction k using Nat.strongRecOn with
  |_ k ih=>
   by_cases h:∃k',k'<k/\W env st k'
   ·obtain⟨k',h1,h2⟩:=h;exact ih k' h1 h2
   ·exact⟨k,hk,fun k' hk'=>by
     rcases fR k' k with h1|h1
     ·exact absurd ⟨k',h1,hk'⟩ h
     ·exact h1⟩
 open Classical in
 refine .intro (.intro ⟨_,_,h0,fun env st=>∃k,W env st k,fun env st=>if h:∃k,W env st k then Classical.choose (least env st h)else 0,⟨_,i0,rfl,rfl,hP,rfl⟩,fun env st hk=>?_⟩);obtain⟨⟨i,e1,e2,e3,e5⟩,hmin⟩:=Classical.choose_spec (least env st hk);have:=hr i e3;rw[<-e1,<-e2]at this;refine gZ htr a _ _ env st ?_ this
 ·intro e env' st' h;cases e with
  |normal=>
   obtain⟨j,b3,b5,g⟩:=h;have hW:W (F j) ⟨c,G j⟩ (μ j):=⟨j,rfl,rfl,b3,rfl⟩;refine⟨F j,⟨c,G j⟩,g,⟨_,hW⟩, ?_⟩;show(if h:∃k,W (F j) ⟨c,G j⟩ k then Classical.choose (least _ _ h)else 0)<(if h:∃k,W env st k then Classical.choose (least env st h)else 0);rw[dif_pos ⟨_,hW⟩,dif_pos hk,<-e5];exact Nat.lt_of_le_of_lt ((Classical.choose_spec (least _ _ ⟨_,hW⟩)).2 _ hW) b5
  |exit j=>simp only[LQ]at h⊢;split<;>rename_i hj<;>simp only[hj,aH,aI]at h<;>exact h
  |ret=>exact h
def Eb (id:Nat)(next:List ca->St->Prop)(Q:Ex->List ca->St->Prop):Ex->List ca->St->Prop:=fun e env st=>match e with
 | .normal=>next env st
 | .exit j=>if j=id then Q .normal env st else Q (.exit j) env st
 | .ret=>Q .ret env st
def Eb.normal {id:Nat}{next:List ca->St->Prop}(h:next env st):Eb id next Q .normal env st:=h
def Eb.out {id:Nat}{next:List ca->St->Prop}(h:Q .normal env st):Eb id next Q (.exit id) env st:=by simp only[Eb,aH];exact h
def Eb.other {id j:Nat}{next:List ca->St->Prop}(hj:(j==id)=false)(h:Q (.exit j) env st):Eb id next Q (.exit j) env st:=by simp only[Eb,aj (by simpa using hj)];exact h
def Eb.ret {id:Nat}{next:List ca->St->Prop}(h:Q .ret env st):Eb id next Q .ret env st:=h
def p8 (htr:Y.bz){a:AC}{id:Nat}{ι:Type}(F:ι->List ca)(G:ι->List (Nat×bV))(c:Nat)(P:ι->Prop)(μ:ι->Nat)(i0:ι)
  (hP:P i0) (h0:bg Y.lo env st (F i0) ⟨c,G i0⟩)
  (hr:∀i,P i->bX Y a (Eb id (fun env' st'=>∃j,P j/\μ j<μ i/\bg Y.lo env' st' (F j) ⟨c,G j⟩) Q) (F i) ⟨c,G i⟩):bX Y (.block id (.loop a)) Q env st:=by
 let W:List ca->St->Nat->Prop:=fun env st k=>∃i,env=F i/\st=⟨c,G i⟩/\P i/\μ i=k
 have least:∀env st,(∃k,W env st k)->∃k,W env st k/\∀k',W env st k'->k<=k':=by
  intro env st ⟨k,hk⟩;induction k using Nat.strongRecOn with
  |_ k ih=>
   by_cases h:∃k',k'<k/\W env st k'
   ·obtain⟨k',h1,h2⟩:=h;exact ih k' h1 h2
   ·exact⟨k,hk,fun k' hk'=>by
     rcases fR k' k with h1|h1
     ·exact absurd ⟨k',h1,hk'⟩ h
     ·exact h1⟩
 open Classical in
 refine .intro ⟨_,_,h0,fun env st=>∃k,W env st k,fun env st=>if h:∃k,W env st k then Classical.choose (least env st h)else 0,⟨_,i0,rfl,rfl,hP,rfl⟩,fun env st hk=>?_⟩;obtain⟨⟨i,e1,e2,e3,e5⟩,hmin⟩:=Classical.choose_spec (least env st hk);have:=hr i e3;rw[<-e1,<-e2]at this;refine gZ htr a _ _ env st ?_ this
 ·intro e env' st' h;cases e with
  |normal=>
   obtain⟨j,b3,b5,g⟩:=h;have hW:W (F j) ⟨c,G j⟩ (μ j):=⟨j,rfl,rfl,b3,rfl⟩;refine⟨F j,⟨c,G j⟩,g,⟨_,hW⟩, ?_⟩;show(if h:∃k,W (F j) ⟨c,G j⟩ k then Classical.choose (least _ _ h)else 0)<(if h:∃k,W env st k then Classical.choose (least env st h)else 0);rw[dif_pos ⟨_,hW⟩,dif_pos hk,<-e5];exact Nat.lt_of_le_of_lt ((Classical.choose_spec (least _ _ ⟨_,hW⟩)).2 _ hW) b5
  |exit j=>simp only[Eb]at h⊢;split<;>rename_i hj<;>simp only[hj,aH,aI]at h<;>exact h
  |ret=>exact h
def nth:List ca->Nat->ca
 |[],_=>.un
 |a::_,0=>a
 |_::r,n+1=>nth r n
def yg:∀(l:List ca)(n:Nat),l.getD n .un=nth l n
 |[],n=>by simp[nth]
 |a::_,0=>by simp[nth]
 |_::r,n+1=>by simpa[nth]using yg r n
def cS (env rs:List ca):Src->ca
 | .s n=>nth env n
 | .l p=>bif Nat.blt p rs.length then nth rs (rs.length-1-p)else .un
 | .c d=>⟨true,d⟩
def nv (env rs:List ca):Src.ev env rs.reverse=cS env rs:=by
 funext s;cases s with
 |s n=>exact yg env n
 |l p=>
  simp only[Src.ev,cS];cases h:Nat.blt p rs.length with
  |true=>
   have:p<rs.length:=by simp[Nat.blt]at h;omega
   rw[cond_true,<-yg];simp only[List.getD];rw[List.getElem?_reverse this]
  |false=>
   have:¬p<rs.length:=by intro e;have:Nat.blt p rs.length=true:=by {simp[Nat.blt];omega};rw[this]at h;cases h
   rw[cond_false];simp[List.getD,List.getElem?_eq_none (show rs.reverse.length<=p by simp;omega)]
 |c d=>rfl
def aQ (Y:Ctx)(draw:Bool)(l:List GI)(env rs:List ca)(nx:Nat)(m:List (Nat×bV))(K:List ca->St->Prop):Prop:=jY Y draw l env rs.reverse ⟨nx,m⟩ K
def JN (env rs:List ca):List (Nat×Nat)->List ca
 |[]=>env
 |(s,p)::r=>JN (env.set s (cS [] rs (.l p))) rs r
def Ew (rs:List ca):∀(cm:List (Nat×Nat))(env:List ca),ja env rs.reverse cm=JN env rs cm
 |[],env=>rfl
 |(s,p)::r,env=>by
  simp only[ja,JN];rw[Ew rs r,<-congrFun (nv [] rs) (.l p)];rfl
def au {draw:Bool}{ins:List GI}{cm:List (Nat×Nat)}{b:AC}{nx:Nat}{m:List (Nat×bV)}
  (h:aQ Y draw ins env [] nx m (fun vs st'=>bX Y b Q (ja env vs cm) st')):bX Y (.seq (.reg draw ins cm) b) Q env ⟨nx,m⟩:=.intro (.intro h)
def Rc {draw:Bool}{ins:List GI}{cm:List (Nat×Nat)}{nx:Nat}{m:List (Nat×bV)}
  (h:aQ Y draw ins env [] nx m (fun vs st'=>Q .normal (ja env vs cm) st')):bX Y (.reg draw ins cm) Q env ⟨nx,m⟩:=.intro h
def NP {draw:Bool}{cm:List (Nat×Nat)}{b:AC}{nx nx':Nat}{m:List (Nat×bV)}{rs fI env':List ca}(h:bX Y b Q env' ⟨nx',m⟩)
  (he:JN env rs cm=env':=by exact rfl) (hn:nx+rs.length=nx':=by exact vD):aQ Y draw [] fI rs nx m (fun vs st'=>bX Y b Q (ja env vs cm) st'):=by
 subst he;subst hn;simp only[aQ,jY,List.length_reverse,Ew];exact h
def NQ {draw:Bool}{cm:List (Nat×Nat)}{nx nx':Nat}{m:List (Nat×bV)}{rs fI env':List ca}(h:Q .normal env' ⟨nx',m⟩)
  (he:JN env rs cm=env':=by exact rfl) (hn:nx+rs.length=nx':=by exact vD):aQ Y draw [] fI rs nx m (fun vs st'=>Q .normal (ja env vs cm) st'):=by
 subst he;subst hn;simp only[aQ,jY,List.length_reverse,Ew];exact h
def aw {c:Src}{a b r:AC}{t:Bool}(h1:t=true->bX Y (.seq a r) Q env st)(h2:t=false->bX Y (.seq b r) Q env st)(hc:cS env [] c=⟨true,.bool t⟩:=by exact rfl):bX Y (.seq (.cond c a b) r) Q env st:=by
 have hc':c.ev env []=⟨true,.bool t⟩:=by rw[<-hc,<-nv];rfl
 refine .intro (.intro ?_);simp only[hc'];refine⟨trivial,fun ht=>?_,fun ht=>?_⟩
 ·obtain⟨e,s,g,h⟩:=h1 ht;exact gY g h
 ·obtain⟨e,s,g,h⟩:=h2 ht;exact gY g h
def wp_cond {c:Src}{a b:AC}{t:Bool}(h1:t=true->bX Y a Q env st)(h2:t=false->bX Y b Q env st)(hc:cS env [] c=⟨true,.bool t⟩:=by exact rfl):bX Y (.cond c a b) Q env st:=by
 have hc':c.ev env []=⟨true,.bool t⟩:=by rw[<-hc,<-nv];rfl
 refine .intro ?_;simp only[hc'];exact⟨trivial,h1,h2⟩
def bg.to {lo c nx nx':Nat}{env env':List ca}{m m':List (Nat×bV)}(σ:List (Nat×Nat))(hc:nx'=c)(h:iy lo c σ=true)(he:dz lo σ env env')(hm:aY lo c σ m m'):bg lo env ⟨nx,m⟩ env' ⟨nx',m'⟩:=by
 subst hc;exact .ren σ nx' env env' nx m m' h he hm
def aP {α β:Type}(q:α->β)(xs:List α):(xs.map q).take xs.length=xs.map q:=eK aN
def bJ {α:Type}{q:α->D}(h:∀x,(q x).bG=true):∀xs:List α,bx (xs.map q)=true
 |[]=>rfl
 |a::r=>by simp only[List.map_cons,bx,h a,bJ h r,iO]
def bg.fz {lo:Nat}{env env' env2:List ca}{nx k:Nat}{m m':List (Nat×bV)}{es:List D}{st2:St}(l:Nat)(hl:look m l=some (.buf k es))(hn:bx es=true)(he:ll l k es env=env')(hm:lO l k es (cD m l)=m')(h:bg lo env' ⟨nx,m'⟩ env2 st2):bg lo env ⟨nx,m⟩ env2 st2:=by
 have:=bg.Jb (lo:=lo) l env ⟨nx,m⟩;simp only[Abs.Jb,hl,hn,cond_true,he,hm]at this;exact .trans _ _ _ _ _ _ this h
def eR {a:AC}{nx k:Nat}{m m':List (Nat×bV)}{es:List D}{env env':List ca}(l:Nat)(h:bX Y a Q env' ⟨nx,m'⟩)(hl:look m l=some (.buf k es):=by exact rfl)(hn:bx es=true:=by first|exact rfl|exact bJ (fun _=>rfl) _)
  (he:ll l k es env=env':=by simp only[ll,hY,iK,lO,mU,cD,Nat.reduceEqDiff,aH,aI,cr,bU,b9,cL,cN,bK,bI,aM,bR,aP,reduceCtorEq,ax,az,Nat.reduceAdd,Nat.reduceLeDiff];exact rfl)
  (hm:lO l k es (cD m l)=m':=by simp only[ll,hY,iK,lO,mU,cD,Nat.reduceEqDiff,aH,aI,cr,bU,b9,cL,cN,bK,bI,aM,bR,aP,reduceCtorEq,ax,az,Nat.reduceAdd,Nat.reduceLeDiff];exact rfl):bX Y a Q env ⟨nx,m⟩:=
 gY (bg.fz l hl hn he hm (.refl _ _)) h
def Ou.rf:∀e:List ca,Ou e e
 |[]=>trivial
 |_::r=>⟨⟨rfl,.refl _⟩,Ou.rf r⟩
def Ec.nil:Ec [] []:=⟨rfl,fun _=>.refl _⟩
def Ec.cons {x y:D}{a b:List D}(h:wL x y)(h2:Ec a b):Ec (x::a) (y::b):=⟨by simp[h2.1],fun i=>by cases i with
 |zero=>exact h
 |succ i=>simpa using h2.2 i⟩
def Ec.rf (a:List D):Ec a a:=⟨rfl,fun _=>.refl _⟩
def Ec.map {α:Type}{q p:α->D}:∀{xs:List α},(∀x∈xs,wL (q x) (p x))->Ec (xs.map q) (xs.map p)
 |[],_=>.nil
 |x::r,h=>.cons (h x (.head _)) (Ec.map fun y hy=>h y (.tail _ hy))
def wL.ag {a b:List D}(h:Ec a b):wL (.agg a) (.agg b):=.agg _ _ h.1 h.2
def wL.ss {k:Nat}{a b:List D}(h:Ec a b):wL (.sl k a) (.sl k b):=.sl _ _ _ h.1 h.2
def Hl.nil {m:List (Nat×bV)}:Hl m []:=trivial
def Hl.id {m r:List (Nat×bV)}{l:Nat}{b:bV}(h:look m l=some b)(h2:Hl m r):Hl m ((l,b)::r):=⟨⟨b,h,by cases b<;>first|exact⟨rfl,.rf _⟩|exact rfl⟩,h2⟩
def Hl.bf {m r:List (Nat×bV)}{l k:Nat}{es es':List D}(h:look m l=some (.buf k es))(hw:Ec es es')(h2:Hl m r):Hl m ((l,.buf k es')::r):=⟨⟨_,h,rfl,hw⟩,h2⟩
def lh {a:AC}{nx:Nat}{m:List (Nat×bV)}{env:List ca}(m':List (Nat×bV))(hm:Hl m m')(h:bX Y a Q env ⟨nx,m'⟩):bX Y a Q env ⟨nx,m⟩:=gY (.nz _ _ _ _ _ (Ou.rf _) hm) h
def dz.nil {lo:Nat}{σ:List (Nat×Nat)}:dz lo σ [] []:=trivial
def dz.un {lo:Nat}{σ:List (Nat×Nat)}{a:ca}{r s:List ca}(h:dz lo σ r s):dz lo σ (a::r) (.un::s):=⟨.inr rfl,h⟩
def dz.eq {lo:Nat}{σ:List (Nat×Nat)}{ok:Bool}{d d':D}{r s:List ca}(hd:tm lo σ d=some d')(h:dz lo σ r s):dz lo σ (⟨ok,d⟩::r) (⟨ok,d'⟩::s):=⟨.inl ⟨rfl,.inr (.inl hd)⟩,h⟩
def dz.nl {lo:Nat}{σ:List (Nat×Nat)}{ok:Bool}{d d':D}{r s:List ca}(hd:d'=d)(hn:d.bG=true)(h:dz lo σ r s):dz lo σ (⟨ok,d⟩::r) (⟨ok,d'⟩::s):=⟨.inl ⟨rfl,.inl ⟨hd,hn⟩⟩,h⟩
def dz.ni {lo:Nat}{σ:List (Nat×Nat)}{ok:Bool}{d d':D}{r s:List ca}(hd:ur d d')(h:dz lo σ r s):dz lo σ (⟨ok,d⟩::r) (⟨ok,d'⟩::s):=⟨.inl ⟨rfl,.inr (.inr hd)⟩,h⟩
section
variable {lo c:Nat} {σ:List (Nat×Nat)} {m r:List (Nat×bV)}
def aY.nil:aY lo c σ m []:=trivial
def aY.nl {k l':Nat}{es es':List D}(l:Nat)(hl:m5 lo σ l=some l')(hm:look m l=some (.buf k es))(he:es'=es)(hn:bx es=true)(h:aY lo c σ m r):aY lo c σ m ((l',.buf k es')::r):=
 ⟨.inl ⟨l,_,hl,hm,rfl,.inl ⟨he,hn⟩⟩,h⟩
def aY.eq {k l':Nat}{es es':List D}(l:Nat)(hl:m5 lo σ l=some l')(hm:look m l=some (.buf k es))(he:p0 lo σ es=some es')(h:aY lo c σ m r):aY lo c σ m ((l',.buf k es')::r):=
 ⟨.inl ⟨l,_,hl,hm,rfl,.inr (.inl he)⟩,h⟩
def aY.ni {k l':Nat}{es es':List D}(l:Nat)(hl:m5 lo σ l=some l')(hm:look m l=some (.buf k es))(he:A4 es es')(h:aY lo c σ m r):aY lo c σ m ((l',.buf k es')::r):=
 ⟨.inl ⟨l,_,hl,hm,rfl,.inr (.inr he)⟩,h⟩
def aY.ez {k l':Nat}{es':List D}(hl:m5 lo σ l'=some l')(hm:look m l'=some (.buf k es'))(hn:bx es'=true)(h:aY lo c σ m r):aY lo c σ m ((l',.buf k es')::r):=.nl l' hl hm rfl hn h
def aY.lr {k l':Nat}{es' es:List D}(hl:m5 lo σ l'=some l')(hm:look m l'=some (.buf k es))(he:p0 lo σ es=some es')(h:aY lo c σ m r):aY lo c σ m ((l',.buf k es')::r):=.eq l' hl hm he h
def aY.mt {k l':Nat}{es':List D}(h1:Nat.ble lo l'=true)(h2:Nat.blt l' c=true)(h3:σ.all (fun p=>!Nat.beq p.2 l')=true)(he:es'=[])(h:aY lo c σ m r):aY lo c σ m ((l',.buf k es')::r):=
 ⟨.inr ⟨h1,h2,h3,k,by rw[he]⟩,h⟩
def aY.it {l' p p':Nat}{s s':List UInt8}(l:Nat)(hl:m5 lo σ l=some l')(hm:look m l=some (.iter s p))(hs:s'=s)(hp:p'=p)(h:aY lo c σ m r):aY lo c σ m ((l',.iter s' p')::r):=
 ⟨.inl ⟨l,_,hl,hm,hs,hp⟩,h⟩
def aY.nI {l' p p':Nat}{s s':List UInt8}(hl:m5 lo σ l'=some l')(hm:look m l'=some (.iter s p))(hs:s'=s)(hp:p'=p)(h:aY lo c σ m r):aY lo c σ m ((l',.iter s' p')::r):=.it l' hl hm hs hp h
def aY.rw {l':Nat}{s s':List UInt8}(l:Nat)(hl:m5 lo σ l=some l')(hm:look m l=some (.row s))(hs:s'=s)(h:aY lo c σ m r):aY lo c σ m ((l',.row s')::r):=
 ⟨.inl ⟨l,_,hl,hm,hs⟩,h⟩
def aY.bl {l' l1 l2 n n':Nat}{u u':Bool}(l:Nat)(hl:m5 lo σ l=some l')(hm:look m l=some (.bld (some l1) n u))(h1:m5 lo σ l1=some l2)(hn:n'=n)(hu:u'=u)(h:aY lo c σ m r):aY lo c σ m ((l',.bld (some l2) n' u')::r):=
 ⟨.inl ⟨l,_,hl,hm,⟨l2,h1,rfl⟩,hn,hu⟩,h⟩
def aY.b0 {l' n n':Nat}{u u':Bool}(l:Nat)(hl:m5 lo σ l=some l')(hm:look m l=some (.bld none n u))(hn:n'=n)(hu:u'=u)(h:aY lo c σ m r):aY lo c σ m ((l',.bld none n' u')::r):=
 ⟨.inl ⟨l,_,hl,hm,rfl,hn,hu⟩,h⟩
end
mutual
def xC (m:List (Nat×bV)):Sh->D->D
 | .a,d=>match d with
  | .aC=>.sl 0 []
  |d=>d
 | .sl k cs,d=>match d with
  | .aC=>.sl k []
  | .own l k' i c=>.sl k' ((((bq m l).drop i).take c).map fun e=>match e with
   | .agg ds=>.agg (xL m cs ds)
   |e=>xH m cs e)
  |d=>d
 | .pt cs,d=>match d with
  | .ptr l k i o=>.ref k ((bq m l).map fun e=>match e with
   | .agg ds=>.agg (xL m cs ds)
   |e=>xH m cs e) i o
  |d=>d
def xH (m:List (Nat×bV)):List Sh->D->D
 |[],d=>d
 |s::_,d=>xC m s d
def xL (m:List (Nat×bV)):List Sh->List D->List D
 |[],ds=>ds
 |s::r,ds=>match ds with
  |[]=>[]
  |d::ds=>xC m s d::xL m r ds
end
def xV (m:List (Nat×bV))(cs:List Sh):D->D
 | .agg ds=>.agg (xL m cs ds)
 |e=>xH m cs e
mutual
def OP (m:List (Nat×bV)):Sh->D->Prop
 | .a,d=>d.bG=true
 | .sl _ cs,d=>match d with
  | .own l k' i c=>fW m l k' (i+c)/\∀e∈((bq m l).drop i).take c,(match e with
   | .agg ds=>Mf m cs ds
   |e=>OQ m cs e)
  |d=>d.bG=true
 | .pt cs,d=>match d with
  | .ptr l k _ _=>fW m l k 0/\∀e∈bq m l,(match e with
   | .agg ds=>Mf m cs ds
   |e=>OQ m cs e)
  |d=>d.bG=true
def OQ (m:List (Nat×bV)):List Sh->D->Prop
 |[],d=>d.bG=true
 |s::_,d=>OP m s d
def Mf (m:List (Nat×bV)):List Sh->List D->Prop
 |[],ds=>bx ds=true
 |s::r,ds=>match ds with
  |[]=>True
  |d::ds=>OP m s d/\Mf m r ds
end
def Mg (m:List (Nat×bV))(cs:List Sh):D->Prop
 | .agg ds=>Mf m cs ds
 |e=>OQ m cs e
mutual
theorem L8 (m:List (Nat×bV)):∀(s:Sh)(d:D),po m s d=xC m s d/\(mH m s d↔OP m s d)
 | .a,d=>by cases d<;>simp only[po,xC,mH,OP]<;>exact⟨trivial,trivial⟩
 | .sl k cs,d=>by
  cases d<;>simp only[po,xC,mH,OP]<;>first
   |exact⟨trivial,trivial⟩
   |skip
  rename_i l k' i c;exact⟨ak (D.sl k') (List.map_congr_left fun e _=>(D8 m cs e).1),and_congr_right fun _=>forall_congr' fun e=>imp_congr_right fun _=>(D8 m cs e).2⟩
 | .pt cs,d=>by
  cases d<;>simp only[po,xC,mH,OP]<;>first
   |exact⟨trivial,trivial⟩
   |skip
  rename_i l k' i c;exact⟨ak (fun x=>D.ref k' x i c) (List.map_congr_left fun e _=>(D8 m cs e).1),and_congr_right fun _=>forall_congr' fun e=>imp_congr_right fun _=>(D8 m cs e).2⟩
theorem D8 (m:List (Nat×bV)):∀(cs:List Sh)(d:D),kG m cs d=(match d with
   | .agg ds=>.agg (xL m cs ds)
   |e=>xH m cs e)/\(jf m cs d↔(match d with
   | .agg ds=>Mf m cs ds
   |e=>OQ m cs e))
 |[],d=>by cases d<;>simp only[kG,xH,xL,jf,OQ,Mf,D.bG]<;>first|exact⟨trivial,Iff.rfl⟩|exact⟨trivial,trivial⟩
 |s::r,d=>by
  cases d<;>simp only[kG,xH,jf,OQ]<;>first
   |exact L8 m s _
   |skip
  rename_i ds;exact⟨ak D.agg (Hd m (s::r) ds).1,(Hd m (s::r) ds).2⟩
theorem Hd (m:List (Nat×bV)):∀(cs:List Sh)(ds:List D),pr m cs ds=xL m cs ds/\(ng m cs ds↔Mf m cs ds)
 |[],ds=>by simp only[pr,xL,ng,Mf];exact⟨trivial,trivial⟩
 |s::r,[]=>by simp only[pr,xL,ng,Mf];exact⟨trivial,trivial⟩
 |s::r,d::ds=>by
  simp only[pr,xL,ng,Mf,(L8 m s d).1,(Hd m r ds).1];exact⟨trivial,and_congr (L8 m s d).2 (Hd m r ds).2⟩
end
def AZ (m:List (Nat×bV))(cs:List Sh)(d:D):kG m cs d=xV m cs d/\(jf m cs d↔Mg m cs d):=by
 have:=D8 m cs d;cases d<;>exact this
def oO (m:List (Nat×bV)):List (List Sh)->List D->List D
 |_,[]=>[]
 |[],d::r=>xV m [.a] d::oO m [] r
 |s::ss,d::r=>xV m s d::oO m ss r
def mn (m:List (Nat×bV)):List (List Sh)->List D->Prop
 |_,[]=>True
 |[],d::r=>Mg m [.a] d/\mn m [] r
 |s::ss,d::r=>Mg m s d/\mn m ss r
def eW (m:List (Nat×bV)):∀(ss:List (List Sh))(ds:List D),gO m ss ds=oO m ss ds/\(kB m ss ds↔mn m ss ds)
 |ss,[]=>by simp[gO,oO,kB,mn]
 |[],d::r=>by
  simp only[gO,oO,kB,mn,(AZ m [.a] d).1,(eW m [] r).1];exact⟨trivial,and_congr (AZ m _ d).2 (eW m [] r).2⟩
 |s::ss,d::r=>by
  simp only[gO,oO,kB,mn,(AZ m s d).1,(eW m ss r).1];exact⟨trivial,and_congr (AZ m _ d).2 (eW m ss r).2⟩
def P1 (a:aJ)(d:D):Ex->List ca->St->Prop:=fun e env st=>e.home/\qo st.m env a.res/\G2 a env st/\NT a env st=d
def I7 (a:aJ)(env:List ca)(m:List (Nat×bV)):D:=match a.res with
 |[r]=>xV m (a.rsh.getD 0 []) (DJ m env r)
 |rs=>.tup (oO m a.rsh (qp m env rs))
def A0 (a:aJ)(env:List ca)(m:List (Nat×bV)):Prop:=match a.res with
 |[r]=>Mg m (a.rsh.getD 0 []) (DJ m env r)
 |rs=>mn m a.rsh (qp m env rs)
def QY {a:aJ}{d:D}{e:Ex}{nx:Nat}{m:List (Nat×bV)}(he:e.home)(h1:qo m env a.res)(h2:A0 a env m)(h3:I7 a env m=d):P1 a d e env ⟨nx,m⟩:=by
 refine⟨he,h1, ?_, ?_⟩
 ·unfold G2;unfold A0 at h2;split<;>rename_i hr
  ·rw[hr]at h2;exact(AZ _ _ _).2.2 h2
  ·split at h2
   ·rename_i hr2;exact absurd hr2 (hr _)
   ·exact(eW _ _ _).2.2 h2
 ·unfold NT;unfold I7 at h3;split<;>rename_i hr
  ·rw[hr]at h3;rw[(AZ _ _ _).1];exact h3
  ·split at h3
   ·rename_i hr2;exact absurd hr2 (hr _)
   ·rw[(eW _ _ _).1];exact h3
def Hk (a:aJ)(k:Nat)(vd sd:D):Ex->List ca->St->Prop:=fun e env st=>e.home/\qo st.m env a.res/\(me a env st).bG=true/\me a env st=vd/\look st.m 0=some (.buf k [sd])/\sd.bG=true
def ir {a:aJ}{k:Nat}{vd sd:D}{e:Ex}{nx:Nat}{m:List (Nat×bV)}(he:e.home)(h1:qo m env a.res)(h2:me a env ⟨nx,m⟩=vd)(h3:look m 0=some (.buf k [sd]))(hn:vd.bG=true)(hs:sd.bG=true):Hk a k vd sd e env ⟨nx,m⟩:=⟨he,h1,by rw[h2];exact hn,h2,h3,hs⟩
end
end
section
section
variable {Y:Ctx} {draw:Bool} {r:List GI} {env rs:List ca} {nx:Nat} {m:List (Nat×bV)} {K:List ca->St->Prop} {g:Option (Nat×Bool)} {f:Bool}
def at8 (s:List UInt8)(i:Nat):Int:=((s.getD i 0).toNat:Int)
def JE (s:List UInt8)(i:Nat):0<=at8 s i/\at8 s i<256:=by
 have:=(s.getD i 0).toNat_lt;unfold at8;omega
def D.Qm:D->Bool
 | .str _=>true
 |_=>false
def wrap_i64 {a:Int}(h1:-9223372036854775808<=a)(h2:a<=9223372036854775807):IntKind.i64.wrap a=a:=IntWalk.i64_in _ ae
def pJ (a b:List UInt8):(a==b)=decide (a=b):=by
 by_cases h:a=b
 ·subst h;simp
 ·simp[h]
def getD_map {α:Type} [Inhabited α]{q:α->D}{xs:List α}{i:Nat}(h:i<xs.length):(xs.map q).getD i .any=q xs[i]! :=by
 simp[List.getD,h]
def Q8 (b:UInt8):(D.int .u8 b.toNat).u8=b:=by simp[D.u8]
def MH (s:List UInt8):D.str ((s.map fun b=>D.int .u8 b.toNat).map D.u8)=.str s:=by
 congr 1;rw[List.map_map]
 conv=>rhs;rw[<-List.map_id s]
 apply List.map_congr_left;intro b _;exact Q8 b
def GF (rs:List ca):Option (Nat×Bool)->Bool->Prop
 |none,f=>f=true
 |some (j,w),f=>∃ok b,cS [] rs (.l j)=⟨ok,.bool b⟩/\(ok&&(b==w))=f
def GF.flag (h:GF rs g f):flag rs.reverse g=f/\zr rs.reverse g:=by
 cases g with
 |none=>exact⟨h.symm,trivial⟩
 |some jw=>
  obtain⟨j,w⟩:=jw;obtain⟨ok,b,h1,h2⟩:=h;have h3:rs.reverse.getD j .un=⟨ok,.bool b⟩:=by rw[<-h1,<-nv];rfl
  simp only[Abs.flag,zr,h3,h2,D.isBool];exact⟨trivial,fun _=>trivial⟩
def Li {i:aW}(hM:i.dR=false)(hF:i.vP draw g=false)(hC:g.isSome=true->i.calm=true)(hg:GF rs g f)(d:D)(ho:f=true->i.er Y (cS env rs) m)
  (hv:f=true->i.val Y (cS env rs) m (nx+rs.length)=d) (m':List (Nat×bV)) (hm:i.cQ Y (cS env rs) m (nx+rs.length)=m')
  (h:(f=true->i.Ep draw (cS env rs))->aQ Y draw r env (⟨f,d⟩::rs) nx m' K):aQ Y draw (⟨i,g⟩::r) env rs nx m K:=by
 obtain⟨hf,hb⟩:=hg.flag;unfold aQ;rw[nO hM hF,nv,hf];refine⟨?_,ho,fun ha=>⟨d,by simpa using hv, ?_⟩⟩
 ·cases g with
  |none=>trivial
  |some jw=>exact⟨hC rfl,hb⟩
 ·have:=h ha;unfold aQ at this;simp only[List.reverse_cons]at this;simpa only[List.length_reverse,hm]using this
def iN {i:aW}(hC:i.calm=true)(hg:GF rs g f)(d:D)(ho:f=true->i.er Y (cS env rs) m)
  (hv:f=true->i.val Y (cS env rs) m (nx+rs.length)=d) (m':List (Nat×bV)) (hm:i.cQ Y (cS env rs) m (nx+rs.length)=m')
  (h:(f=true->i.Ep draw (cS env rs))->aQ Y draw r env (⟨f,d⟩::rs) nx m' K):aQ Y draw (⟨i,g⟩::r) env rs nx m K:=
 Li (by cases i<;>first|rfl|cases hC) (by simp[aW.vP,hC]) (fun _=>hC) hg d ho hv m' hm h
def cd {i:aW}(hC:i.pure=true)(hg:GF rs g f)(d:D)(ho:f=true->i.er Y (cS env rs) m)
  (hv:f=true->i.val Y (cS env rs) m (nx+rs.length)=d) 
  (h:(f=true->i.Ep draw (cS env rs))->aQ Y draw r env (⟨f,d⟩::rs) nx m K):aQ Y draw (⟨i,g⟩::r) env rs nx m K:=
 iN (Iu hC) hg d ho hv m (K6 hC) h
def rk {i:aW}(hM:i.dR=false)(d:D)(ho:i.er Y (cS env rs) m)
  (hv:i.val Y (cS env rs) m (nx+rs.length)=d) (m':List (Nat×bV)) (hm:i.cQ Y (cS env rs) m (nx+rs.length)=m')
  (h:i.Ep draw (cS env rs)->aQ Y draw r env (⟨true,d⟩::rs) nx m' K):aQ Y draw (⟨i,none⟩::r) env rs nx m K:=
 Li hM (by simp[aW.vP]) (fun h=>by cases h) rfl d (fun _=>ho) (fun _=>hv) m' hm (fun ha=>h (ha rfl))
def r_mv {x:Src}{fx:Bool}{d:D}(h:aQ Y draw r env (⟨f,d⟩::rs) nx m K)(hg:GF rs g f:=by exact dw)(hx:cS env rs x=⟨fx,d⟩:=by exact rfl)(kx:f=true->fx=true:=by exact cx):aQ Y draw (⟨.mv x,g⟩::r) env rs nx m K:=
 cd rfl hg _ (fun hf=>by simp[aW.er,hx,kx hf]) (fun hf=>by simp[aW.val,hx]) (fun ha=>h)
def Ux {x:Src}{fx:Bool}{b:Bool}(h:aQ Y draw r env (⟨f,.bool (!b)⟩::rs) nx m K)(hg:GF rs g f:=by exact dw)(hx:cS env rs x=⟨fx,.bool b⟩:=by exact rfl)(kx:f=true->fx=true:=by exact cx):aQ Y draw (⟨.un .not x,g⟩::r) env rs nx m K:=
 cd rfl hg _ (fun hf=>by simp[aW.er,hx,kx hf]) (fun hf=>by simp[aW.val,hx]) (fun ha=>h)
def Uz {c b:Src}{fc fb t y:Bool}(h:aQ Y draw r env (⟨f,.bool (t ||y)⟩::rs) nx m K)(hg:GF rs g f:=by exact dw)(hc:cS env rs c=⟨fc,.bool t⟩:=by exact rfl)(hb:cS env rs b=⟨fb,.bool y⟩:=by exact rfl)(kc:f=true->fc=true:=by exact cx)(kb:f=true->t=false->fb=true:=by intro h1 h2;first|(rw[h2];exact rfl)|(rw[h2,h1];rfl)|(rw[h1,h2];rfl)|simp_all):aQ Y draw (⟨.pick c (.c (.bool true)) b,g⟩::r) env rs nx m K:=
 cd rfl hg _ (fun hf=>by simp only[aW.er,hc,hb];exact⟨kc hf,fun _=>rfl,fun e=>kb hf e⟩) (fun hf=>by simp only[aW.val,hc,hb];cases t<;>rfl) (fun _=>h)
def La {c a:Src}{fc fa t y:Bool}(h:aQ Y draw r env (⟨f,.bool (t&&y)⟩::rs) nx m K)(hg:GF rs g f:=by exact dw)(hc:cS env rs c=⟨fc,.bool t⟩:=by exact rfl)(ha:cS env rs a=⟨fa,.bool y⟩:=by exact rfl)(kc:f=true->fc=true:=by exact cx)(ka:f=true->t=true->fa=true:=by intro h1 h2;first|(rw[h2];exact rfl)|(rw[h2,h1];rfl)|(rw[h1,h2];rfl)|simp_all):aQ Y draw (⟨.pick c a (.c (.bool false)),g⟩::r) env rs nx m K:=
 cd rfl hg _ (fun hf=>by simp only[aW.er,hc,ha];exact⟨kc hf,fun e=>ka hf e,fun _=>rfl⟩) (fun hf=>by simp only[aW.val,hc,ha];cases t<;>rfl) (fun _=>h)
def NJ {x y:Src}{fx fy:Bool}{a b:Int}(h:aQ Y draw r env (⟨f,.int .i64 (a+b)⟩::rs) nx m K)(hg:GF rs g f:=by exact dw)(hx:cS env rs x=⟨fx,.int .i64 a⟩:=by exact rfl)(hy:cS env rs y=⟨fy,.int .i64 b⟩:=by exact rfl)(kx:f=true->fx=true:=by exact cx)(ky:f=true->fy=true:=by exact cx)(hb:f=true->-9223372036854775808<=a+b/\a+b<=9223372036854775807:=by exact FX):aQ Y draw (⟨.bin .add x y,g⟩::r) env rs nx m K:=
 cd rfl hg _ (fun hf=>by simp[aW.er,hx,hy,kx hf,ky hf,kL]) (fun hf=>by simp only[aW.val,hx,hy,lI];rw[wrap_i64 (hb hf).1 (hb hf).2]) (fun ha=>h)
def K9 {x y:Src}{fx fy:Bool}{k:IntKind}{a b:Int}(v:Int)(h:aQ Y draw r env (⟨f,.int k v⟩::rs) nx m K)(hg:GF rs g f:=by exact dw)(hx:cS env rs x=⟨fx,.int k a⟩:=by exact rfl)(hy:cS env rs y=⟨fy,.int k b⟩:=by exact rfl)(kx:f=true->fx=true:=by exact cx)(ky:f=true->fy=true:=by exact cx)(hb:f=true->k.wrap (a+b)=v):aQ Y draw (⟨.bin .add x y,g⟩::r) env rs nx m K:=
 cd rfl hg _ (fun hf=>by simp[aW.er,hx,hy,kx hf,ky hf,kL]) (fun hf=>by simp only[aW.val,hx,hy,lI];rw[hb hf]) (fun ha=>h)
def NL {x y:Src}{fx fy:Bool}{a b:Int}(h:aQ Y draw r env (⟨f,.int .i64 (a-b)⟩::rs) nx m K)(hg:GF rs g f:=by exact dw)(hx:cS env rs x=⟨fx,.int .i64 a⟩:=by exact rfl)(hy:cS env rs y=⟨fy,.int .i64 b⟩:=by exact rfl)(kx:f=true->fx=true:=by exact cx)(ky:f=true->fy=true:=by exact cx)(hb:f=true->-9223372036854775808<=a-b/\a-b<=9223372036854775807:=by exact FX):aQ Y draw (⟨.bin .sub x y,g⟩::r) env rs nx m K:=
 cd rfl hg _ (fun hf=>by simp[aW.er,hx,hy,kx hf,ky hf,kL]) (fun hf=>by simp only[aW.val,hx,hy,lI];rw[wrap_i64 (hb hf).1 (hb hf).2]) (fun ha=>h)
def Lq {x y:Src}{fx fy:Bool}{k:IntKind}{a b:Int}(v:Int)(h:aQ Y draw r env (⟨f,.int k v⟩::rs) nx m K)(hg:GF rs g f:=by exact dw)(hx:cS env rs x=⟨fx,.int k a⟩:=by exact rfl)(hy:cS env rs y=⟨fy,.int k b⟩:=by exact rfl)(kx:f=true->fx=true:=by exact cx)(ky:f=true->fy=true:=by exact cx)(hb:f=true->k.wrap (a-b)=v):aQ Y draw (⟨.bin .sub x y,g⟩::r) env rs nx m K:=
 cd rfl hg _ (fun hf=>by simp[aW.er,hx,hy,kx hf,ky hf,kL]) (fun hf=>by simp only[aW.val,hx,hy,lI];rw[hb hf]) (fun ha=>h)
def wZ {x y:Src}{fx fy:Bool}{a b:Int}(h:aQ Y draw r env (⟨f,.int .i64 (a*b)⟩::rs) nx m K)(hg:GF rs g f:=by exact dw)(hx:cS env rs x=⟨fx,.int .i64 a⟩:=by exact rfl)(hy:cS env rs y=⟨fy,.int .i64 b⟩:=by exact rfl)(kx:f=true->fx=true:=by exact cx)(ky:f=true->fy=true:=by exact cx)(hb:f=true->-9223372036854775808<=a*b/\a*b<=9223372036854775807:=by exact FX):aQ Y draw (⟨.bin .mul x y,g⟩::r) env rs nx m K:=
 cd rfl hg _ (fun hf=>by simp[aW.er,hx,hy,kx hf,ky hf,kL]) (fun hf=>by simp only[aW.val,hx,hy,lI];rw[wrap_i64 (hb hf).1 (hb hf).2]) (fun ha=>h)
def UA {x y:Src}{fx fy:Bool}{k:IntKind}{a b:Int}(v:Int)(h:aQ Y draw r env (⟨f,.int k v⟩::rs) nx m K)(hg:GF rs g f:=by exact dw)(hx:cS env rs x=⟨fx,.int k a⟩:=by exact rfl)(hy:cS env rs y=⟨fy,.int k b⟩:=by exact rfl)(kx:f=true->fx=true:=by exact cx)(ky:f=true->fy=true:=by exact cx)(hn:f=true->b≠0)(hb:f=true->k.wrap (a.tdiv b)=v):aQ Y draw (⟨.bin .quo x y,g⟩::r) env rs nx m K:=
 cd rfl hg _ (fun hf=>by simp[aW.er,hx,hy,kx hf,ky hf,kL,hn hf]) (fun hf=>by simp only[aW.val,hx,hy,lI];rw[hb hf]) (fun ha=>h)
def GW {x y:Src}{fx fy:Bool}{k:IntKind}{a b:Int}(v:Int)(h:aQ Y draw r env (⟨f,.int k v⟩::rs) nx m K)(hg:GF rs g f:=by exact dw)(hx:cS env rs x=⟨fx,.int k a⟩:=by exact rfl)(hy:cS env rs y=⟨fy,.int k b⟩:=by exact rfl)(kx:f=true->fx=true:=by exact cx)(ky:f=true->fy=true:=by exact cx)(hn:f=true->b≠0)(hb:f=true->a.tmod b=v):aQ Y draw (⟨.bin .rem x y,g⟩::r) env rs nx m K:=
 cd rfl hg _ (fun hf=>by simp[aW.er,hx,hy,kx hf,ky hf,kL,hn hf]) (fun hf=>by simp only[aW.val,hx,hy,lI];rw[hb hf]) (fun ha=>h)
def GX {x y:Src}{fx fy:Bool}{k k2:IntKind}{a b:Int}(v:Int)(h:aQ Y draw r env (⟨f,.int k v⟩::rs) nx m K)(hg:GF rs g f:=by exact dw)(hx:cS env rs x=⟨fx,.int k a⟩:=by exact rfl)(hy:cS env rs y=⟨fy,.int k2 b⟩:=by exact rfl)(kx:f=true->fx=true:=by exact cx)(ky:f=true->fy=true:=by exact cx)(hn:f=true->0<=b:=by exact uq)(hb:f=true->a.fdiv (2^(min b.toNat k.bits))=v):aQ Y draw (⟨.bin .shr x y,g⟩::r) env rs nx m K:=
 cd rfl hg _ (fun hf=>by simp[aW.er,hx,hy,kx hf,ky hf,kL,hn hf]) (fun hf=>by simp only[aW.val,hx,hy,lI];rw[hb hf]) (fun ha=>h)
def BG {x y:Src}{fx fy:Bool}{k:IntKind}{a b:Int}(v:Int)(h:aQ Y draw r env (⟨f,.int k v⟩::rs) nx m K)(hg:GF rs g f:=by exact dw)(hx:cS env rs x=⟨fx,.int k a⟩:=by exact rfl)(hy:cS env rs y=⟨fy,.int k b⟩:=by exact rfl)(kx:f=true->fx=true:=by exact cx)(ky:f=true->fy=true:=by exact cx)(hb:f=true->k.wrap (((BitVec.ofInt k.bits a)&&&(BitVec.ofInt k.bits b)).toNat)=v):aQ Y draw (⟨.bin .and x y,g⟩::r) env rs nx m K:=
 cd rfl hg _ (fun hf=>by simp[aW.er,hx,hy,kx hf,ky hf,kL]) (fun hf=>by simp only[aW.val,hx,hy,lI];rw[hb hf]) (fun ha=>h)
def QQ {x y:Src}{fx fy:Bool}{k:IntKind}{a b:Int}(h:aQ Y draw r env (⟨f,.bool (decide (a<b))⟩::rs) nx m K)(hg:GF rs g f:=by exact dw)(hx:cS env rs x=⟨fx,.int k a⟩:=by exact rfl)(hy:cS env rs y=⟨fy,.int k b⟩:=by exact rfl)(kx:f=true->fx=true:=by exact cx)(ky:f=true->fy=true:=by exact cx):aQ Y draw (⟨.bin .lss x y,g⟩::r) env rs nx m K:=
 cd rfl hg _ (fun hf=>by simp[aW.er,hx,hy,kx hf,ky hf,kL]) (fun hf=>by simp only[aW.val,hx,hy,lI]<;>rfl) (fun ha=>h)
def QO {x y:Src}{fx fy:Bool}{k:IntKind}{a b:Int}(h:aQ Y draw r env (⟨f,.bool (decide (a<=b))⟩::rs) nx m K)(hg:GF rs g f:=by exact dw)(hx:cS env rs x=⟨fx,.int k a⟩:=by exact rfl)(hy:cS env rs y=⟨fy,.int k b⟩:=by exact rfl)(kx:f=true->fx=true:=by exact cx)(ky:f=true->fy=true:=by exact cx):aQ Y draw (⟨.bin .leq x y,g⟩::r) env rs nx m K:=
 cd rfl hg _ (fun hf=>by simp[aW.er,hx,hy,kx hf,ky hf,kL]) (fun hf=>by simp only[aW.val,hx,hy,lI]<;>rfl) (fun ha=>h)
def E7 {x y:Src}{fx fy:Bool}{k:IntKind}{a b:Int}(h:aQ Y draw r env (⟨f,.bool (decide (b<a))⟩::rs) nx m K)(hg:GF rs g f:=by exact dw)(hx:cS env rs x=⟨fx,.int k a⟩:=by exact rfl)(hy:cS env rs y=⟨fy,.int k b⟩:=by exact rfl)(kx:f=true->fx=true:=by exact cx)(ky:f=true->fy=true:=by exact cx):aQ Y draw (⟨.bin .gtr x y,g⟩::r) env rs nx m K:=
 cd rfl hg _ (fun hf=>by simp[aW.er,hx,hy,kx hf,ky hf,kL]) (fun hf=>by simp only[aW.val,hx,hy,lI]<;>rfl) (fun ha=>h)
def QJ {x y:Src}{fx fy:Bool}{k:IntKind}{a b:Int}(h:aQ Y draw r env (⟨f,.bool (decide (b<=a))⟩::rs) nx m K)(hg:GF rs g f:=by exact dw)(hx:cS env rs x=⟨fx,.int k a⟩:=by exact rfl)(hy:cS env rs y=⟨fy,.int k b⟩:=by exact rfl)(kx:f=true->fx=true:=by exact cx)(ky:f=true->fy=true:=by exact cx):aQ Y draw (⟨.bin .geq x y,g⟩::r) env rs nx m K:=
 cd rfl hg _ (fun hf=>by simp[aW.er,hx,hy,kx hf,ky hf,kL]) (fun hf=>by simp only[aW.val,hx,hy,lI]<;>rfl) (fun ha=>h)
def QH {x y:Src}{fx fy:Bool}{k:IntKind}{a b:Int}(h:aQ Y draw r env (⟨f,.bool (decide (a=b))⟩::rs) nx m K)(hg:GF rs g f:=by exact dw)(hx:cS env rs x=⟨fx,.int k a⟩:=by exact rfl)(hy:cS env rs y=⟨fy,.int k b⟩:=by exact rfl)(kx:f=true->fx=true:=by exact cx)(ky:f=true->fy=true:=by exact cx):aQ Y draw (⟨.bin .eql x y,g⟩::r) env rs nx m K:=
 cd rfl hg _ (fun hf=>by simp[aW.er,hx,hy,kx hf,ky hf,kL]) (fun hf=>by simp only[aW.val,hx,hy,lI]<;>rfl) (fun ha=>h)
def QS {x y:Src}{fx fy:Bool}{k:IntKind}{a b:Int}(h:aQ Y draw r env (⟨f,.bool (!decide (a=b))⟩::rs) nx m K)(hg:GF rs g f:=by exact dw)(hx:cS env rs x=⟨fx,.int k a⟩:=by exact rfl)(hy:cS env rs y=⟨fy,.int k b⟩:=by exact rfl)(kx:f=true->fx=true:=by exact cx)(ky:f=true->fy=true:=by exact cx):aQ Y draw (⟨.bin .neq x y,g⟩::r) env rs nx m K:=
 cd rfl hg _ (fun hf=>by simp[aW.er,hx,hy,kx hf,ky hf,kL]) (fun hf=>by simp only[aW.val,hx,hy,lI]<;>rfl) (fun ha=>h)
def QR {x y:Src}{fx fy:Bool}{a b:List UInt8}(h:aQ Y draw r env (⟨f,.bool (Op.bytesLess a b)⟩::rs) nx m K)(hg:GF rs g f:=by exact dw)(hx:cS env rs x=⟨fx,.str a⟩:=by exact rfl)(hy:cS env rs y=⟨fy,.str b⟩:=by exact rfl)(kx:f=true->fx=true:=by exact cx)(ky:f=true->fy=true:=by exact cx):aQ Y draw (⟨.bin .lss x y,g⟩::r) env rs nx m K:=
 cd rfl hg _ (fun hf=>by simp[aW.er,hx,hy,kx hf,ky hf,kL]) (fun hf=>by simp only[aW.val,hx,hy,lI,pJ]) (fun ha=>h)
def QP {x y:Src}{fx fy:Bool}{a b:List UInt8}(h:aQ Y draw r env (⟨f,.bool (Op.bytesLess a b ||decide (a=b))⟩::rs) nx m K)(hg:GF rs g f:=by exact dw)(hx:cS env rs x=⟨fx,.str a⟩:=by exact rfl)(hy:cS env rs y=⟨fy,.str b⟩:=by exact rfl)(kx:f=true->fx=true:=by exact cx)(ky:f=true->fy=true:=by exact cx):aQ Y draw (⟨.bin .leq x y,g⟩::r) env rs nx m K:=
 cd rfl hg _ (fun hf=>by simp[aW.er,hx,hy,kx hf,ky hf,kL]) (fun hf=>by simp only[aW.val,hx,hy,lI,pJ]) (fun ha=>h)
def E8 {x y:Src}{fx fy:Bool}{a b:List UInt8}(h:aQ Y draw r env (⟨f,.bool (!(Op.bytesLess a b ||decide (a=b)))⟩::rs) nx m K)(hg:GF rs g f:=by exact dw)(hx:cS env rs x=⟨fx,.str a⟩:=by exact rfl)(hy:cS env rs y=⟨fy,.str b⟩:=by exact rfl)(kx:f=true->fx=true:=by exact cx)(ky:f=true->fy=true:=by exact cx):aQ Y draw (⟨.bin .gtr x y,g⟩::r) env rs nx m K:=
 cd rfl hg _ (fun hf=>by simp[aW.er,hx,hy,kx hf,ky hf,kL]) (fun hf=>by simp only[aW.val,hx,hy,lI,pJ]) (fun ha=>h)
def QK {x y:Src}{fx fy:Bool}{a b:List UInt8}(h:aQ Y draw r env (⟨f,.bool (!Op.bytesLess a b)⟩::rs) nx m K)(hg:GF rs g f:=by exact dw)(hx:cS env rs x=⟨fx,.str a⟩:=by exact rfl)(hy:cS env rs y=⟨fy,.str b⟩:=by exact rfl)(kx:f=true->fx=true:=by exact cx)(ky:f=true->fy=true:=by exact cx):aQ Y draw (⟨.bin .geq x y,g⟩::r) env rs nx m K:=
 cd rfl hg _ (fun hf=>by simp[aW.er,hx,hy,kx hf,ky hf,kL]) (fun hf=>by simp only[aW.val,hx,hy,lI,pJ]) (fun ha=>h)
def QI {x y:Src}{fx fy:Bool}{a b:List UInt8}(h:aQ Y draw r env (⟨f,.bool (decide (a=b))⟩::rs) nx m K)(hg:GF rs g f:=by exact dw)(hx:cS env rs x=⟨fx,.str a⟩:=by exact rfl)(hy:cS env rs y=⟨fy,.str b⟩:=by exact rfl)(kx:f=true->fx=true:=by exact cx)(ky:f=true->fy=true:=by exact cx):aQ Y draw (⟨.bin .eql x y,g⟩::r) env rs nx m K:=
 cd rfl hg _ (fun hf=>by simp[aW.er,hx,hy,kx hf,ky hf,kL]) (fun hf=>by simp only[aW.val,hx,hy,lI,pJ]) (fun ha=>h)
def QT {x y:Src}{fx fy:Bool}{a b:List UInt8}(h:aQ Y draw r env (⟨f,.bool (!decide (a=b))⟩::rs) nx m K)(hg:GF rs g f:=by exact dw)(hx:cS env rs x=⟨fx,.str a⟩:=by exact rfl)(hy:cS env rs y=⟨fy,.str b⟩:=by exact rfl)(kx:f=true->fx=true:=by exact cx)(ky:f=true->fy=true:=by exact cx):aQ Y draw (⟨.bin .neq x y,g⟩::r) env rs nx m K:=
 cd rfl hg _ (fun hf=>by simp[aW.er,hx,hy,kx hf,ky hf,kL]) (fun hf=>by simp only[aW.val,hx,hy,lI,pJ]) (fun ha=>h)
def cY {x y:Src}{fx fy:Bool}{a b:List UInt8}(h:aQ Y draw r env (⟨f,.str (a++b)⟩::rs) nx m K)(hg:GF rs g f:=by exact dw)(hx:cS env rs x=⟨fx,.str a⟩:=by exact rfl)(hy:cS env rs y=⟨fy,.str b⟩:=by exact rfl)(kx:f=true->fx=true:=by exact cx)(ky:f=true->fy=true:=by exact cx)(hb:f=true->a.length+b.length<=9223372036854775807):aQ Y draw (⟨.bin .add x y,g⟩::r) env rs nx m K:=
 cd rfl hg _ (fun hf=>by simp[aW.er,hx,hy,kx hf,ky hf,kL,hb hf]) (fun hf=>by simp only[aW.val,hx,hy,lI]) (fun ha=>h)
def Ur {x y:Src}{fx fy:Bool}{ag:Bool}{ks:List CK}{a b:D}{v:Bool}(h:aQ Y draw r env (⟨f,.bool (v)⟩::rs) nx m K)(hb:jb a.cells b.cells=v)(hg:GF rs g f:=by exact dw)(hx:cS env rs x=⟨fx,a⟩:=by exact rfl)(hy:cS env rs y=⟨fy,b⟩:=by exact rfl)(kx:f=true->fx=true:=by exact cx)(ky:f=true->fy=true:=by exact cx)(h1:f=true->a.isAgg=ag/\b.isAgg=ag/\gB ks a.cells/\gB ks b.cells:=by exact zJ):aQ Y draw (⟨.eqA false ag ks x y,g⟩::r) env rs nx m K:=
 cd rfl hg _ (fun hf=>by simp only[aW.er,hx,hy];exact⟨kx hf,ky hf,h1 hf⟩) (fun hf=>by simp only[aW.val,hx,hy];rw[hb];rfl) (fun ha=>h)
def OM {x y:Src}{fx fy:Bool}{ag:Bool}{ks:List CK}{a b:D}{v:Bool}(h:aQ Y draw r env (⟨f,.bool (!v)⟩::rs) nx m K)(hb:jb a.cells b.cells=v)(hg:GF rs g f:=by exact dw)(hx:cS env rs x=⟨fx,a⟩:=by exact rfl)(hy:cS env rs y=⟨fy,b⟩:=by exact rfl)(kx:f=true->fx=true:=by exact cx)(ky:f=true->fy=true:=by exact cx)(h1:f=true->a.isAgg=ag/\b.isAgg=ag/\gB ks a.cells/\gB ks b.cells:=by exact zJ):aQ Y draw (⟨.eqA true ag ks x y,g⟩::r) env rs nx m K:=
 cd rfl hg _ (fun hf=>by simp only[aW.er,hx,hy];exact⟨kx hf,ky hf,h1 hf⟩) (fun hf=>by simp only[aW.val,hx,hy];rw[hb];rfl) (fun ha=>h)
def vX {x:Src}{fx:Bool}{k k2:IntKind}{a:Int}(v:Int)(h:aQ Y draw r env (⟨f,.int k v⟩::rs) nx m K)(hg:GF rs g f:=by exact dw)(hx:cS env rs x=⟨fx,.int k2 a⟩:=by exact rfl)(kx:f=true->fx=true:=by exact cx)(hb:f=true->k.wrap a=v):aQ Y draw (⟨.cvi k x,g⟩::r) env rs nx m K:=
 cd rfl hg _ (fun hf=>by simp[aW.er,hx,kx hf]) (fun hf=>by simp only[aW.val,hx];rw[hb hf]) (fun ha=>h)
def Lp {x:Src}{fx:Bool}{s:List UInt8}(h:(f=true->draw=false->s.length<=9223372036854775807)->aQ Y draw r env (⟨f,.int .i64 s.length⟩::rs) nx m K)(hg:GF rs g f:=by exact dw)(hx:cS env rs x=⟨fx,.str s⟩:=by exact rfl)(kx:f=true->fx=true:=by exact cx):aQ Y draw (⟨.lenS x,g⟩::r) env rs nx m K:=
 cd rfl hg _ (fun hf=>by simp[aW.er,hx,kx hf]) (fun hf=>by simp[aW.val,hx]) (fun ha=>h (fun hf hd=>by have:=ha hf;subst hd;simpa[aW.Ep,hx,kx hf]using this))
def Ln {x:Src}{fx:Bool}{α:Type}{k:Nat}{q:α->D}{xs:List α}(h:(f=true->draw=false->xs.length<=9223372036854775807)->aQ Y draw r env (⟨f,.int .i64 xs.length⟩::rs) nx m K)(hg:GF rs g f:=by exact dw)(hx:cS env rs x=⟨fx,.sl k (xs.map q)⟩:=by exact rfl)(kx:f=true->fx=true:=by exact cx):aQ Y draw (⟨.len x,g⟩::r) env rs nx m K:=
 cd rfl hg _ (fun hf=>by simp[aW.er,hx,kx hf]) (fun hf=>by simp[aW.val,hx]) (fun ha=>h (fun hf hd=>by have:=ha hf;subst hd;simpa[aW.Ep,hx,kx hf]using this))
def Lo {x:Src}{fx:Bool}{l k i n:Nat}(h:(f=true->draw=false->n<=9223372036854775807)->aQ Y draw r env (⟨f,.int .i64 n⟩::rs) nx m K)(hg:GF rs g f:=by exact dw)(hx:cS env rs x=⟨fx,.own l k i n⟩:=by exact rfl)(kx:f=true->fx=true:=by exact cx):aQ Y draw (⟨.len x,g⟩::r) env rs nx m K:=
 cd rfl hg _ (fun hf=>by simp[aW.er,hx,kx hf]) (fun hf=>by simp[aW.val,hx]) (fun ha=>h (fun hf hd=>by have:=ha hf;subst hd;simpa[aW.Ep,hx,kx hf]using this))
def QN {x:Src}{fx:Bool}(h:aQ Y draw r env (⟨f,.int .i64 0⟩::rs) nx m K)(hg:GF rs g f:=by exact dw)(hx:cS env rs x=⟨fx,.aC⟩:=by exact rfl)(kx:f=true->fx=true:=by exact cx):aQ Y draw (⟨.len x,g⟩::r) env rs nx m K:=
 cd rfl hg _ (fun hf=>by simp[aW.er,hx,kx hf]) (fun hf=>by simp[aW.val,hx]) (fun ha=>h)
def QU {x:Src}{fx:Bool}{l k i o:Nat}(h:aQ Y draw r env (⟨f,.ptr l k i o⟩::rs) nx m K)(hg:GF rs g f:=by exact dw)(hx:cS env rs x=⟨fx,.ptr l k i o⟩:=by exact rfl)(kx:f=true->fx=true:=by exact cx):aQ Y draw (⟨.nilck x,g⟩::r) env rs nx m K:=
 cd rfl hg _ (fun hf=>by simp[aW.er,hx,kx hf]) (fun hf=>by simp[aW.val,hx]) (fun ha=>h)
def QV {x:Src}{fx:Bool}{k i o:Nat}{es:List D}(h:aQ Y draw r env (⟨f,.ref k es i o⟩::rs) nx m K)(hg:GF rs g f:=by exact dw)(hx:cS env rs x=⟨fx,.ref k es i o⟩:=by exact rfl)(kx:f=true->fx=true:=by exact cx):aQ Y draw (⟨.nilck x,g⟩::r) env rs nx m K:=
 cd rfl hg _ (fun hf=>by simp[aW.er,hx,kx hf]) (fun hf=>by simp[aW.val,hx]) (fun ha=>h)
def Us {x:Src}{fx:Bool}{off l k i o:Nat}(h:aQ Y draw r env (⟨f,.ptr l k i (o+off)⟩::rs) nx m K)(hg:GF rs g f:=by exact dw)(hx:cS env rs x=⟨fx,.ptr l k i o⟩:=by exact rfl)(kx:f=true->fx=true:=by exact cx):aQ Y draw (⟨.fa off x,g⟩::r) env rs nx m K:=
 cd rfl hg _ (fun hf=>by simp[aW.er,hx,kx hf]) (fun hf=>by simp[aW.val,hx]) (fun ha=>h)
def Ut {x:Src}{fx:Bool}{off k i o:Nat}{es:List D}(h:aQ Y draw r env (⟨f,.ref k es i (o+off)⟩::rs) nx m K)(hg:GF rs g f:=by exact dw)(hx:cS env rs x=⟨fx,.ref k es i o⟩:=by exact rfl)(kx:f=true->fx=true:=by exact cx):aQ Y draw (⟨.fa off x,g⟩::r) env rs nx m K:=
 cd rfl hg _ (fun hf=>by simp[aW.er,hx,kx hf]) (fun hf=>by simp[aW.val,hx]) (fun ha=>h)
def cg {x y:Src}{fx fy:Bool}{α:Type}{k:Nat}{q:α->D}{xs:List α}{i:Int}{kk:IntKind}(j:Nat)(h:aQ Y draw r env (⟨f,.ref k (xs.map q) j 0⟩::rs) nx m K)(hg:GF rs g f:=by exact dw)(hx:cS env rs x=⟨fx,.sl k (xs.map q)⟩:=by exact rfl)(hy:cS env rs y=⟨fy,.int kk i⟩:=by exact rfl)(kx:f=true->fx=true:=by exact cx)(ky:f=true->fy=true:=by exact cx)(hj:f=true->i=(j:Int):=by exact wK)(hb:f=true->j<xs.length:=by exact uq):aQ Y draw (⟨.ia k x y,g⟩::r) env rs nx m K:=
 cd rfl hg _ (fun hf=>by simp only[aW.er,hx,hy,bI];exact⟨kx hf,ky hf,trivial,by have:=hj hf;omega,by have:=hj hf;have:=hb hf;omega⟩) (fun hf=>by simp only[aW.val,hx,hy];rw[hj hf];rfl) (fun ha=>h)
def jG {x y:Src}{fx fy:Bool}{l k i0 n:Nat}{i:Int}{kk:IntKind}(j:Nat)(h:aQ Y draw r env (⟨f,.ptr l k (i0+j) 0⟩::rs) nx m K)(hg:GF rs g f:=by exact dw)(hx:cS env rs x=⟨fx,.own l k i0 n⟩:=by exact rfl)(hy:cS env rs y=⟨fy,.int kk i⟩:=by exact rfl)(kx:f=true->fx=true:=by exact cx)(ky:f=true->fy=true:=by exact cx)(hj:f=true->i=(j:Int):=by exact wK)(hb:f=true->j<n:=by exact uq):aQ Y draw (⟨.ia k x y,g⟩::r) env rs nx m K:=
 cd rfl hg _ (fun hf=>by simp only[aW.er,hx,hy];exact⟨kx hf,ky hf,trivial,by have:=hj hf;omega,by have:=hj hf;have:=hb hf;omega⟩) (fun hf=>by simp only[aW.val,hx,hy];rw[hj hf];rfl) (fun ha=>h)
def ri {x y:Src}{fx fy:Bool}{l k k2 n i0 o:Nat}{i:Int}{kk:IntKind}(j:Nat)(h:aQ Y draw r env (⟨f,.ptr l k2 i0 (o+j*k)⟩::rs) nx m K)(hg:GF rs g f:=by exact dw)(hx:cS env rs x=⟨fx,.ptr l k2 i0 o⟩:=by exact rfl)(hy:cS env rs y=⟨fy,.int kk i⟩:=by exact rfl)(kx:f=true->fx=true:=by exact cx)(ky:f=true->fy=true:=by exact cx)(hj:f=true->i=(j:Int):=by exact wK)(hb:f=true->j<n:=by exact uq):aQ Y draw (⟨.iaP n k x y,g⟩::r) env rs nx m K:=
 cd rfl hg _ (fun hf=>by simp only[aW.er,hx,hy];exact⟨kx hf,ky hf,by have:=hj hf;omega,by have:=hj hf;have:=hb hf;omega⟩) (fun hf=>by simp only[aW.val,hx,hy];rw[hj hf];rfl) (fun ha=>h)
def E9 {x y:Src}{fx fy:Bool}{k k2 n i0 o:Nat}{es:List D}{i:Int}{kk:IntKind}(j:Nat)(h:aQ Y draw r env (⟨f,.ref k2 es i0 (o+j*k)⟩::rs) nx m K)(hg:GF rs g f:=by exact dw)(hx:cS env rs x=⟨fx,.ref k2 es i0 o⟩:=by exact rfl)(hy:cS env rs y=⟨fy,.int kk i⟩:=by exact rfl)(kx:f=true->fx=true:=by exact cx)(ky:f=true->fy=true:=by exact cx)(hj:f=true->i=(j:Int):=by first|exact fun _=>rfl|(intro _;omega))(hb:f=true->j<n:=by intro _;omega):aQ Y draw (⟨.iaP n k x y,g⟩::r) env rs nx m K:=
 cd rfl hg _ (fun hf=>by simp only[aW.er,hx,hy];exact⟨kx hf,ky hf,by have:=hj hf;omega,by have:=hj hf;have:=hb hf;omega⟩) (fun hf=>by simp only[aW.val,hx,hy];rw[hj hf];rfl) (fun ha=>h)
def px {x y:Src}{fx fy:Bool}{s:List UInt8}{i:Int}{kk:IntKind}(j:Nat)(h:aQ Y draw r env (⟨f,.int .u8 (at8 s j)⟩::rs) nx m K)(hg:GF rs g f:=by exact dw)(hx:cS env rs x=⟨fx,.str s⟩:=by exact rfl)(hy:cS env rs y=⟨fy,.int kk i⟩:=by exact rfl)(kx:f=true->fx=true:=by exact cx)(ky:f=true->fy=true:=by exact cx)(hj:f=true->i=(j:Int):=by exact wK)(hb:f=true->j<s.length:=by exact uq):aQ Y draw (⟨.ixS x y,g⟩::r) env rs nx m K:=
 cd rfl hg _ (fun hf=>by simp only[aW.er,hx,hy];exact⟨kx hf,ky hf,by have:=hj hf;omega,by have:=hj hf;have:=hb hf;omega⟩) (fun hf=>by simp only[aW.val,hx,hy];rw[hj hf];rfl) (fun ha=>h)
def GV {x y:Src}{fx fy:Bool}{n k:Nat}{ag:Bool}{cs:List D}{i:Int}{kk:IntKind}(j:Nat)(v:D)(h:aQ Y draw r env (⟨f,v⟩::rs) nx m K)(hg:GF rs g f:=by exact dw)(hx:cS env rs x=⟨fx,.agg cs⟩:=by exact rfl)(hy:cS env rs y=⟨fy,.int kk i⟩:=by exact rfl)(kx:f=true->fx=true:=by exact cx)(ky:f=true->fy=true:=by exact cx)(hj:f=true->i=(j:Int):=by exact wK)(hb:f=true->j<n:=by exact uq)(hl:cs.length=n*k:=by exact rfl)(h1:ag=false->k=1:=by intro h;first|exact rfl|cases h)(hv:f=true->cut cs (j*k) k ag=v):aQ Y draw (⟨.ixA n k ag x y,g⟩::r) env rs nx m K:=
 cd rfl hg _ (fun hf=>by simp only[aW.er,hx,hy];exact⟨kx hf,ky hf,h1,by have:=hj hf;omega,by have:=hj hf;have:=hb hf;omega,hl⟩) (fun hf=>by simp only[aW.val,hx,hy];rw[<-hv hf,hj hf];rfl) (fun ha=>h)
def Lj {x y:Src}{fx fy:Bool}{α:Type}{k:Nat}{q:α->D}{xs:List α}{i:Int}{kk:IntKind}(h:aQ Y draw r env (⟨f,.ref k (xs.map q) i.toNat 0⟩::rs) nx m K)(hg:GF rs g f:=by exact dw)(hx:cS env rs x=⟨fx,.sl k (xs.map q)⟩:=by exact rfl)(hy:cS env rs y=⟨fy,.int kk i⟩:=by exact rfl)(kx:f=true->fx=true:=by exact cx)(ky:f=true->fy=true:=by exact cx)(hb:f=true->0<=i/\i<(xs.length:Nat):=by exact FX):aQ Y draw (⟨.ia k x y,g⟩::r) env rs nx m K:=
 cd rfl hg _ (fun hf=>by simp only[aW.er,hx,hy,bI];exact⟨kx hf,ky hf,trivial,(hb hf).1,(hb hf).2⟩) (fun hf=>by simp only[aW.val,hx,hy]<;>rfl) (fun ha=>h)
def QL {x y:Src}{fx fy:Bool}{l k i0 n:Nat}{i:Int}{kk:IntKind}(h:aQ Y draw r env (⟨f,.ptr l k (i0+i.toNat) 0⟩::rs) nx m K)(hg:GF rs g f:=by exact dw)(hx:cS env rs x=⟨fx,.own l k i0 n⟩:=by exact rfl)(hy:cS env rs y=⟨fy,.int kk i⟩:=by exact rfl)(kx:f=true->fx=true:=by exact cx)(ky:f=true->fy=true:=by exact cx)(hb:f=true->0<=i/\i<(n:Nat):=by exact FX):aQ Y draw (⟨.ia k x y,g⟩::r) env rs nx m K:=
 cd rfl hg _ (fun hf=>by simp only[aW.er,hx,hy,bI];exact⟨kx hf,ky hf,trivial,(hb hf).1,(hb hf).2⟩) (fun hf=>by simp only[aW.val,hx,hy]<;>rfl) (fun ha=>h)
def QM {x y:Src}{fx fy:Bool}{s:List UInt8}{i:Int}{kk:IntKind}(h:aQ Y draw r env (⟨f,.int .u8 (at8 s i.toNat)⟩::rs) nx m K)(hg:GF rs g f:=by exact dw)(hx:cS env rs x=⟨fx,.str s⟩:=by exact rfl)(hy:cS env rs y=⟨fy,.int kk i⟩:=by exact rfl)(kx:f=true->fx=true:=by exact cx)(ky:f=true->fy=true:=by exact cx)(hb:f=true->0<=i/\i<(s.length:Nat):=by exact FX):aQ Y draw (⟨.ixS x y,g⟩::r) env rs nx m K:=
 cd rfl hg _ (fun hf=>by simp only[aW.er,hx,hy,bI];exact⟨kx hf,ky hf,(hb hf).1,(hb hf).2⟩) (fun hf=>by simp only[aW.val,hx,hy]<;>rfl) (fun ha=>h)
def fe {x y:Src}{fx fy:Bool}{s:List UInt8}{k2:IntKind}{a:Int}(i:Nat)(h:aQ Y draw r env (⟨f,.str (s.drop i)⟩::rs) nx m K)(hg:GF rs g f:=by exact dw)(hx:cS env rs x=⟨fx,.str s⟩:=by exact rfl)(hy:cS env rs y=⟨fy,.int k2 a⟩:=by exact rfl)(kx:f=true->fx=true:=by exact cx)(ky:f=true->fy=true:=by exact cx)(hi:f=true->a=(i:Int):=by exact wK)(hb:f=true->i<=s.length:=by exact uq):aQ Y draw (⟨.slS x (some y) none,g⟩::r) env rs nx m K:=
 cd rfl hg _ (fun hf=>by simp only[aW.er,Jd,dO,hx,hy];have:=hb hf;have:=hi hf;refine⟨kx hf,ky hf,trivial, ?_⟩;simp only[pK,eS,bU,b9,Int.ofNat_eq_natCast];omega) (fun hf=>by simp only[aW.val,dO,eS,hx,hy];rw[hi hf];simp) (fun ha=>h)
def rl {x y:Src}{fx fy:Bool}{α:Type}{k:Nat}{q:α->D}{s:List α}{k2:IntKind}{a:Int}(i:Nat)(h:aQ Y draw r env (⟨f,.sl k ((s.drop i).map q)⟩::rs) nx m K)(hg:GF rs g f:=by exact dw)(hx:cS env rs x=⟨fx,.sl k (s.map q)⟩:=by exact rfl)(hy:cS env rs y=⟨fy,.int k2 a⟩:=by exact rfl)(kx:f=true->fx=true:=by exact cx)(ky:f=true->fy=true:=by exact cx)(hi:f=true->a=(i:Int):=by exact wK)(hb:f=true->i<=s.length:=by exact uq):aQ Y draw (⟨.slA k x (some y) none,g⟩::r) env rs nx m K:=
 cd rfl hg _ (fun hf=>by simp only[aW.er,Jd,dO,hx,hy,bI];have:=hb hf;have:=hi hf;refine⟨kx hf,ky hf,trivial,trivial, ?_⟩;simp only[pK,eS,bU,b9,Int.ofNat_eq_natCast];omega) (fun hf=>by simp only[aW.val,dO,eS,hx,hy];rw[hi hf];first|(simp only[List.take_length,Int.toNat_natCast,List.map_drop];done)|simp[List.map_drop,List.map_take]) (fun ha=>h)
def kQ {x z:Src}{fx fz:Bool}{s:List UInt8}{k3:IntKind}{c:Int}(j:Nat)(h:aQ Y draw r env (⟨f,.str (s.take j)⟩::rs) nx m K)(hg:GF rs g f:=by exact dw)(hx:cS env rs x=⟨fx,.str s⟩:=by exact rfl)(hz:cS env rs z=⟨fz,.int k3 c⟩:=by exact rfl)(kx:f=true->fx=true:=by exact cx)(kz:f=true->fz=true:=by exact cx)(hj:f=true->c=(j:Int):=by exact wK)(hb:f=true->j<=s.length:=by exact uq):aQ Y draw (⟨.slS x none (some z),g⟩::r) env rs nx m K:=
 cd rfl hg _ (fun hf=>by simp only[aW.er,Jd,dO,hx,hz];have:=hb hf;have:=hj hf;refine⟨kx hf,trivial,kz hf, ?_⟩;simp only[pK,eS,bU,b9,Int.ofNat_eq_natCast];omega) (fun hf=>by simp only[aW.val,dO,eS,hx,hz];rw[hj hf];simp) (fun ha=>h)
def py {x z:Src}{fx fz:Bool}{α:Type}{k:Nat}{q:α->D}{s:List α}{k3:IntKind}{c:Int}(j:Nat)(h:aQ Y draw r env (⟨f,.sl k ((s.take j).map q)⟩::rs) nx m K)(hg:GF rs g f:=by exact dw)(hx:cS env rs x=⟨fx,.sl k (s.map q)⟩:=by exact rfl)(hz:cS env rs z=⟨fz,.int k3 c⟩:=by exact rfl)(kx:f=true->fx=true:=by exact cx)(kz:f=true->fz=true:=by exact cx)(hj:f=true->c=(j:Int):=by exact wK)(hb:f=true->j<=s.length:=by exact uq):aQ Y draw (⟨.slA k x none (some z),g⟩::r) env rs nx m K:=
 cd rfl hg _ (fun hf=>by simp only[aW.er,Jd,dO,hx,hz,bI];have:=hb hf;have:=hj hf;refine⟨kx hf,trivial,kz hf,trivial, ?_⟩;simp only[pK,eS,bU,b9,Int.ofNat_eq_natCast];omega) (fun hf=>by simp only[aW.val,dO,eS,hx,hz];rw[hj hf];first|(simp only[List.take_length,Int.toNat_natCast,List.map_drop];done)|simp[List.map_drop,List.map_take]) (fun ha=>h)
def ue {x z:Src}{fx fz:Bool}{l k i0 n:Nat}{k3:IntKind}{c:Int}(j:Nat)(h:aQ Y draw r env (⟨f,.own l k i0 j⟩::rs) nx m K)(hg:GF rs g f:=by exact dw)(hx:cS env rs x=⟨fx,.own l k i0 n⟩:=by exact rfl)(hz:cS env rs z=⟨fz,.int k3 c⟩:=by exact rfl)(kx:f=true->fx=true:=by exact cx)(kz:f=true->fz=true:=by exact cx)(hj:f=true->c=(j:Int):=by exact wK)(hb:f=true->j<=n:=by exact uq):aQ Y draw (⟨.slA k x none (some z),g⟩::r) env rs nx m K:=
 cd rfl hg _ (fun hf=>by simp only[aW.er,Jd,dO,hx,hz];have:=hb hf;have:=hj hf;refine⟨kx hf,trivial,kz hf,trivial, ?_⟩;simp only[pK,eS,bU,b9,Int.ofNat_eq_natCast];omega) (fun hf=>by simp only[aW.val,dO,eS,hx,hz];rw[hj hf];simp) (fun ha=>h)
def yw {x y z:Src}{fx fy fz:Bool}{s:List UInt8}{k2:IntKind}{a:Int}(i:Nat){k3:IntKind}{c:Int}(j:Nat)(h:aQ Y draw r env (⟨f,.str ((s.take j).drop i)⟩::rs) nx m K)(hg:GF rs g f:=by exact dw)(hx:cS env rs x=⟨fx,.str s⟩:=by exact rfl)(hy:cS env rs y=⟨fy,.int k2 a⟩:=by exact rfl)(hz:cS env rs z=⟨fz,.int k3 c⟩:=by exact rfl)(kx:f=true->fx=true:=by exact cx)(ky:f=true->fy=true:=by exact cx)(kz:f=true->fz=true:=by exact cx)(hi:f=true->a=(i:Int):=by exact wK)(hj:f=true->c=(j:Int):=by exact wK)(hb:f=true->i<=j/\j<=s.length:=by exact FX):aQ Y draw (⟨.slS x (some y) (some z),g⟩::r) env rs nx m K:=
 cd rfl hg _ (fun hf=>by simp only[aW.er,Jd,dO,hx,hy,hz];have:=hb hf;have:=hi hf;have:=hj hf;refine⟨kx hf,ky hf,kz hf, ?_⟩;simp only[pK,eS,bU,b9,Int.ofNat_eq_natCast];omega) (fun hf=>by simp only[aW.val,dO,eS,hx,hy,hz];rw[hi hf,hj hf];simp) (fun ha=>h)
def fB {x:Src}{fx:Bool}{i:Nat}{ds:List D}(v:D)(h:aQ Y draw r env (⟨f,v⟩::rs) nx m K)(hg:GF rs g f:=by exact dw)(hx:cS env rs x=⟨fx,.tup ds⟩:=by exact rfl)(kx:f=true->fx=true:=by exact cx)(hv:f=true->ds.getD i .any=v:=by exact fun _=>rfl)(hb:f=true->i<ds.length:=by intro _;simp only[ax,az];omega):aQ Y draw (⟨.ext x i,g⟩::r) env rs nx m K:=
 cd rfl hg _ (fun hf=>by simp only[aW.er,hx];exact⟨kx hf,hb hf⟩) (fun hf=>by simp only[aW.val,hx];exact hv hf) (fun ha=>h)
def fj {z:List D}{ps:List (Nat×Nat×Src)}(v:List D)(h:aQ Y draw r env (⟨f,.agg v⟩::rs) nx m K)(hg:GF rs g f:=by exact dw)(hv:f=true->xD (cS env rs) z ps=v:=by exact fun _=>rfl)(ho:f=true->z7 (cS env rs) z.length ps:=by exact zJ):aQ Y draw (⟨.build z ps,g⟩::r) env rs nx m K:=
 cd rfl hg _ (fun hf=>ho hf) (fun hf=>by simp only[aW.val];rw[hv hf]) (fun _=>h)
def bo {z:List D}{ps:List (Nat×Nat×Src)}(d:D)(h:aQ Y draw r env (⟨f,d⟩::rs) nx m K)(hg:GF rs g f:=by exact dw)(hv:f=true->D.agg (xD (cS env rs) z ps)=d:=by exact fun _=>rfl)(ho:f=true->z7 (cS env rs) z.length ps:=by exact zJ):aQ Y draw (⟨.build z ps,g⟩::r) env rs nx m K:=
 cd rfl hg _ (fun hf=>ho hf) (fun hf=>by simp only[aW.val];exact hv hf) (fun _=>h)
def Qq {e:D}{n o:Nat}{ag:Bool}(h:e.isAgg=ag):pe e n n o ag=e:=by simp[pe,h]
def c8 {x:Src}{fx:Bool}{n l:Nat}{ag:Bool}{d:D}(h:aQ Y draw r env (⟨f,d⟩::rs) nx m K)(hg:GF rs g f:=by exact dw)(hx:cS env rs x=⟨fx,.ptr l n 0 0⟩:=by exact rfl)(kx:f=true->fx=true:=by exact cx)(hl:f=true->look m l=some (.buf n [d]):=by exact fun _=>rfl)(ha:f=true->d.isAgg=ag:=by exact fun _=>rfl):aQ Y draw (⟨.ld n ag x,g⟩::r) env rs nx m K:=
 iN rfl hg _ (fun hf=>by simp only[aW.er,hx,C1,fW,hl hf];exact⟨kx hf,⟨trivial,aN⟩,ae⟩) (fun hf=>by simp only[aW.val,hx,Ce,bq,hl hf,iw];exact Qq (ha hf)) m rfl (fun ha=>h)
def bA {x:Src}{fx:Bool}{n l k o:Nat}{ag:Bool}{d:D}(v:D)(h:aQ Y draw r env (⟨f,v⟩::rs) nx m K)(hg:GF rs g f:=by exact dw)(hx:cS env rs x=⟨fx,.ptr l k 0 o⟩:=by exact rfl)(kx:f=true->fx=true:=by exact cx)(hl:f=true->look m l=some (.buf k [d]):=by exact fun _=>rfl)(hv:f=true->pe d k n o ag=v:=by exact fun _=>rfl)(ho:o+n<=k:=by omega):aQ Y draw (⟨.ld n ag x,g⟩::r) env rs nx m K:=
 iN rfl hg _ (fun hf=>by simp only[aW.er,hx,C1,fW,hl hf];exact⟨kx hf,⟨trivial,aN⟩,ho⟩) (fun hf=>by simp only[aW.val,hx,Ce,bq,hl hf,iw];exact hv hf) m rfl (fun ha=>h)
def Lk {x:Src}{fx:Bool}{n l k i o:Nat}{ag:Bool}{es:List D}(v:D)(h:aQ Y draw r env (⟨f,v⟩::rs) nx m K)(hg:GF rs g f:=by exact dw)(hx:cS env rs x=⟨fx,.ptr l k i o⟩:=by exact rfl)(kx:f=true->fx=true:=by exact cx)(hl:f=true->look m l=some (.buf k es):=by exact fun _=>rfl)(hi:f=true->i<es.length)(hv:f=true->pe (es.getD i .any) k n o ag=v)(ho:o+n<=k:=by omega):aQ Y draw (⟨.ld n ag x,g⟩::r) env rs nx m K:=
 iN rfl hg _ (fun hf=>by simp only[aW.er,hx,C1,fW,hl hf];exact⟨kx hf,⟨trivial,by have:=hi hf;omega⟩,ho⟩) (fun hf=>by simp only[aW.val,hx,Ce,bq,hl hf];exact hv hf) m rfl (fun ha=>h)
def rj {x:Src}{fx:Bool}{α:Type} [Inhabited α]{n l k i o:Nat}{ag:Bool}{q:α->D}{xs:List α}(v:D)(h:aQ Y draw r env (⟨f,v⟩::rs) nx m K)(hg:GF rs g f:=by exact dw)(hx:cS env rs x=⟨fx,.ptr l k i o⟩:=by exact rfl)(kx:f=true->fx=true:=by exact cx)(hl:f=true->look m l=some (.buf k (xs.map q)):=by exact fun _=>rfl)(hi:f=true->i<xs.length:=by exact uq)(hv:f=true->pe (q xs[i]!) k n o ag=v:=by exact fun _=>rfl)(ho:o+n<=k:=by omega):aQ Y draw (⟨.ld n ag x,g⟩::r) env rs nx m K:=
 iN rfl hg _ (fun hf=>by simp only[aW.er,hx,C1,fW,hl hf,bI];exact⟨kx hf,⟨trivial,by have:=hi hf;omega⟩,ho⟩) (fun hf=>by simp only[aW.val,hx,Ce,bq,hl hf];rw[getD_map (hi hf)];exact hv hf) m rfl (fun ha=>h)
def cb {x:Src}{fx:Bool}{α:Type} [Inhabited α]{n k i o:Nat}{ag:Bool}{q:α->D}{xs:List α}(v:D)(h:aQ Y draw r env (⟨f,v⟩::rs) nx m K)(hg:GF rs g f:=by exact dw)(hx:cS env rs x=⟨fx,.ref k (xs.map q) i o⟩:=by exact rfl)(kx:f=true->fx=true:=by exact cx)(hi:f=true->i<xs.length:=by exact uq)(hv:f=true->pe (q xs[i]!) k n o ag=v:=by exact fun _=>rfl)(ho:o+n<=k:=by omega):aQ Y draw (⟨.ld n ag x,g⟩::r) env rs nx m K:=
 iN rfl hg _ (fun hf=>by simp only[aW.er,hx,C1,bI];exact⟨kx hf,hi hf,ho⟩) (fun hf=>by simp only[aW.val,hx,Ce];rw[getD_map (hi hf)];exact hv hf) m rfl (fun ha=>h)
def fk {x:Src}{fx:Bool}{n k i o:Nat}{ag:Bool}{es:List D}(v:D)(h:aQ Y draw r env (⟨f,v⟩::rs) nx m K)(hg:GF rs g f:=by exact dw)(hx:cS env rs x=⟨fx,.ref k es i o⟩:=by exact rfl)(kx:f=true->fx=true:=by exact cx)(hi:f=true->i<es.length:=by intro _;simp only[ax,az];omega)(hv:f=true->pe (es.getD i .any) k n o ag=v:=by exact fun _=>rfl)(ho:o+n<=k:=by omega):aQ Y draw (⟨.ld n ag x,g⟩::r) env rs nx m K:=
 iN rfl hg _ (fun hf=>by simp only[aW.er,hx,C1];exact⟨kx hf,hi hf,ho⟩) (fun hf=>by simp only[aW.val,hx,Ce];exact hv hf) m rfl (fun ha=>h)
def BI {x:Src}{fx:Bool}{n k i o:Nat}{ag:Bool}{es:List D}(v:D)(h:aQ Y draw r env (⟨f,v⟩::rs) nx m K)(hg:GF rs g f:=by exact dw)(hx:cS env rs x=⟨fx,.ref k es i o⟩:=by exact rfl)(kx:f=true->fx=true:=by exact cx)(hi:f=true->i<es.length:=by intro _;simp only[ax,az];omega)(hv:f=true->pe (es.getD i .any) k n o ag=v:=by exact fun _=>rfl)(ho:o+n<=k:=by omega):aQ Y draw (⟨.ldI n ag x,g⟩::r) env rs nx m K:=
 cd rfl hg _ (fun hf=>by simp only[aW.er,hx,C1];exact⟨kx hf,hi hf,ho⟩) (fun hf=>by simp only[aW.val,hx,Ce];exact hv hf) (fun ha=>h)
def Uq {x:Src}{fx:Bool}{k:Nat}{d:D}{L:Nat}{m2:List (Nat×bV)}(h:aQ Y draw r env (⟨f,.ptr L k 0 0⟩::rs) nx m2 K)(hg:GF rs g f:=by exact dw)(hx:cS env rs x=⟨fx,d⟩:=by exact rfl)(kx:f=true->fx=true:=by exact cx)(hc:d.cells.length=k:=by exact rfl)(hL:nx+rs.length=L:=by exact vD)(hm:du m L (.buf k [d])=m2:=by simp only[du,cD,Nat.reduceEqDiff,aH,aI,Nat.reduceAdd,reduceCtorEq];exact rfl):aQ Y draw (⟨.box k x,g⟩::r) env rs nx m K:=
 iN rfl hg _ (fun hf=>by simp only[aW.er,hx];exact⟨kx hf,hc⟩) (fun hf=>by simp only[aW.val,hx,hL]) _ (by simp only[aW.cQ,hx,hL];exact hm) (fun _=>h)
def Uu {L:Nat}{m2:List (Nat×bV)}(h:aQ Y draw r env (⟨f,.ptr L 2 0 0⟩::rs) nx m2 K)(hg:GF rs g f:=by exact dw)(hL:nx+rs.length=L:=by exact vD)(hm:du m L (.bld none 0 false)=m2:=by simp only[du,cD,Nat.reduceEqDiff,aH,aI,Nat.reduceAdd,reduceCtorEq];exact rfl):aQ Y draw (⟨.mkB,g⟩::r) env rs nx m K:=
 iN rfl hg _ (fun _=>trivial) (fun hf=>by simp only[aW.val,hL]) _ (by simp only[aW.cQ,hL];exact hm) (fun _=>h)
def UC {x:Src}{fx:Bool}{s:List UInt8}{L:Nat}{m2:List (Nat×bV)}(h:aQ Y draw r env (⟨f,.own L 1 0 s.length⟩::rs) nx m2 K)(hg:GF rs g f:=by exact dw)(hx:cS env rs x=⟨fx,.str s⟩:=by exact rfl)(kx:f=true->fx=true:=by exact cx)(hL:nx+rs.length=L:=by exact vD)(hm:du m L (.buf 1 (s.map fun b=>.int .u8 b.toNat))=m2:=by simp only[du,cD,Nat.reduceEqDiff,aH,aI,Nat.reduceAdd,reduceCtorEq];exact rfl):aQ Y draw (⟨.s2b x,g⟩::r) env rs nx m K:=
 iN rfl hg _ (fun hf=>by simp only[aW.er,hx];exact⟨kx hf,trivial⟩) (fun hf=>by simp only[aW.val,hx,hL]) _ (by simp only[aW.cQ,hx,hL];exact hm) (fun _=>h)
def UB {x:Src}{fx:Bool}{s:List UInt8}{L:Nat}{m2:List (Nat×bV)}(h:aQ Y draw r env (⟨f,.it L⟩::rs) nx m2 K)(hg:GF rs g f:=by exact dw)(hx:cS env rs x=⟨fx,.str s⟩:=by exact rfl)(kx:f=true->fx=true:=by exact cx)(hL:nx+rs.length=L:=by exact vD)(hm:du m L (.iter s 0)=m2:=by simp only[du,cD,Nat.reduceEqDiff,aH,aI,Nat.reduceAdd,reduceCtorEq];exact rfl):aQ Y draw (⟨.rng x,g⟩::r) env rs nx m K:=
 iN rfl hg _ (fun hf=>by simp only[aW.er,hx];exact⟨kx hf,trivial⟩) (fun hf=>by simp only[aW.val,hx,hL]) _ (by simp only[aW.cQ,hx,hL];exact hm) (fun _=>h)
def c7 {k n:Nat}{z:D}{ps:List (Nat×Src)}{L:Nat}{m2:List (Nat×bV)}(es:List D)(h:aQ Y draw r env (⟨f,.own L k 0 n⟩::rs) nx m2 K)(hg:GF rs g f:=by exact dw)(he:na (cS env rs) (List.replicate n z) ps=es:=by exact rfl)(ho:f=true->sT (cS env rs) k n ps:=by exact zJ)(hz:z.cells.length=k:=by exact rfl)(hL:nx+rs.length=L:=by exact vD)(hm:du m L (.buf k es)=m2:=by simp only[du,cD,Nat.reduceEqDiff,aH,aI,Nat.reduceAdd,reduceCtorEq];exact rfl):aQ Y draw (⟨.bsl k z n ps,g⟩::r) env rs nx m K:=
 iN rfl hg _ (fun hf=>⟨hz,ho hf⟩) (fun hf=>by simp only[aW.val,hL]) _ (by simp only[aW.cQ,he,hL];exact hm) (fun _=>h)
def Uw {k:Nat}{z:D}{x y:Src}{k1 k2:IntKind}{a c:Int}{L:Nat}{m2:List (Nat×bV)}(n:Nat)(h:aQ Y draw r env (⟨true,.own L k 0 n⟩::rs) nx m2 K)(hx:cS env rs x=⟨true,.int k1 a⟩:=by exact rfl)(hy:cS env rs y=⟨true,.int k2 c⟩:=by exact rfl)(hn:a=(n:Int):=by first|exact rfl|omega)(hc:a<=c/\c<=1073741824:=by constructor<;>omega)(hz:z.cells.length=k:=by exact rfl)(hL:nx+rs.length=L:=by exact vD)(hm:du m L (.buf k (List.replicate n z))=m2:=by simp only[du,cD,Nat.reduceEqDiff,aH,aI,Nat.reduceAdd,reduceCtorEq];exact rfl):aQ Y draw (⟨.mks k z x y,none⟩::r) env rs nx m K:=
 rk rfl _ (by simp only[aW.er,hx,hy];exact⟨trivial,trivial,hz,ae,hc.1,hc.2⟩) (by simp only[aW.val,hx,hL,D.nat,hn];rfl) _ (by simp only[aW.cQ,hx,hL,D.nat,hn];exact hm) (fun _=>h)
def aR {n l k o:Nat}{x y:Src}{d v:D}{m2:List (Nat×bV)}(e:D)(h:aQ Y draw r env (⟨true,.any⟩::rs) nx m2 K)(hx:cS env rs x=⟨true,.ptr l k 0 o⟩:=by exact rfl)(hy:cS env rs y=⟨true,v⟩:=by exact rfl)(hl:look m l=some (.buf k [d]):=by exact rfl)(hc:v.cells.length=n:=by exact rfl)(he:wG d k n o v=e:=by exact rfl)(ho:o+n<=k:=by omega)(hm:du m l (.buf k [e])=m2:=by simp only[du,cD,Nat.reduceEqDiff,aH,aI,Nat.reduceAdd,reduceCtorEq];exact rfl):aQ Y draw (⟨.st n x y,none⟩::r) env rs nx m K:=
 rk rfl _ (by simp only[aW.er,hx,hy,fW,hl];exact⟨trivial,trivial,hc,⟨trivial,aN⟩,ho⟩) rfl _ (by simp only[aW.cQ,hx,hy,bq,hl,iw,List.set_cons_zero,he];exact hm) (fun _=>h)
def uf {n l k i o:Nat}{x y:Src}{v:D}{es:List D}{m2:List (Nat×bV)}(es2:List D)(h:aQ Y draw r env (⟨true,.any⟩::rs) nx m2 K)(hx:cS env rs x=⟨true,.ptr l k i o⟩:=by exact rfl)(hy:cS env rs y=⟨true,v⟩:=by exact rfl)(hl:look m l=some (.buf k es):=by exact rfl)(hi:i<es.length)(hc:v.cells.length=n:=by exact rfl)(he:es.set i (wG (es.getD i .any) k n o v)=es2)(ho:o+n<=k:=by omega)(hm:du m l (.buf k es2)=m2:=by simp only[du,cD,Nat.reduceEqDiff,aH,aI,Nat.reduceAdd,reduceCtorEq];exact rfl):aQ Y draw (⟨.st n x y,none⟩::r) env rs nx m K:=
 rk rfl _ (by simp only[aW.er,hx,hy,fW,hl];exact⟨trivial,trivial,hc,⟨trivial,ae⟩,ho⟩) rfl _ (by simp only[aW.cQ,hx,hy,bq,hl,he];exact hm) (fun _=>h)
def sJ (m:List (Nat×bV))(k:Nat)(d:D)(ys:List D):Prop:=Bj m k d/\qk m d=ys
def sJ.sl {k:Nat}{es:List D}:sJ m k (.sl k es) es:=⟨rfl,rfl⟩
def sJ.aC {k:Nat}:sJ m k .aC []:=⟨trivial,rfl⟩
def sJ.own {l k i n:Nat}{es:List D}(hl:look m l=some (.buf k es))(hb:i+n<=es.length):sJ m k (.own l k i n) ((es.drop i).take n):=⟨⟨rfl,by simp only[fW,hl];exact⟨trivial,hb⟩⟩,by simp only[qk,bq,hl]⟩
def sJ.all {l k n:Nat}{es:List D}(hl:look m l=some (.buf k es))(hb:n=es.length):sJ m k (.own l k 0 n) es:=by
 have:=sJ.own (i:=0) (n:=n) hl ae;simpa[hb]using this
def sJ.str {s:List UInt8}:sJ m 1 (.str s) (s.map fun b=>.int .u8 b.toNat):=⟨rfl,rfl⟩
def Lc {k n:Nat}{x y:Src}{d:D}{ys:List D}{L:Nat}{m2:List (Nat×bV)}(h:aQ Y draw r env (⟨true,.own L k 0 n⟩::rs) nx m2 K)(hx:cS env rs x=⟨true,.aC⟩:=by exact rfl)(hy:cS env rs y=⟨true,d⟩:=by exact rfl)(he:sJ m k d ys)(hn:ys.length=n)(hb:n<=1073741824:=by omega)(hL:nx+rs.length=L:=by exact vD)(hm:du m L (.buf k ys)=m2:=by simp only[du,cD,Nat.reduceEqDiff,aH,aI,Nat.reduceAdd,reduceCtorEq];exact rfl):aQ Y draw (⟨.app k x y,none⟩::r) env rs nx m K:=
 rk rfl _ (by simp only[aW.er,hx,hy,he.2,hn];exact⟨trivial,trivial,he.1,hb⟩) (by simp only[aW.val,hx,hy,he.2,hn,hL]) _ (by simp only[aW.cQ,hx,hy,he.2,hL];exact hm) (fun _=>h)
def NK {k n:Nat}{y:Src}{fy:Bool}{d:D}{ys:List D}{L:Nat}{m2:List (Nat×bV)}(h:aQ Y draw r env (⟨f,.own L k 0 n⟩::rs) nx m2 K)(hg:GF rs g f:=by exact dw)(hy:cS env rs y=⟨fy,d⟩:=by exact rfl)(ky:f=true->fy=true:=by exact cx)(he:sJ m k d ys)(hn:ys.length=n)(hb:n<=1073741824:=by omega)(hL:nx+rs.length=L:=by exact vD)(hm:du m L (.buf k ys)=m2:=by simp only[du,cD,Nat.reduceEqDiff,aH,aI,Nat.reduceAdd,reduceCtorEq];exact rfl):aQ Y draw (⟨.appN k y,g⟩::r) env rs nx m K:=
 iN rfl hg _ (fun hf=>by simp only[aW.er,hy,he.2,hn];exact⟨ky hf,he.1,hb⟩) (fun hf=>by simp only[aW.val,hy,he.2,hn,hL]) _ (by simp only[aW.cQ,hy,he.2,hL];exact hm) (fun _=>h)
def vW {k l i a n:Nat}{x y:Src}{d:D}{xs ys:List D}{L:Nat}{m2:List (Nat×bV)}(zs:List D)(h:aQ Y draw r env (⟨true,.own L k 0 n⟩::rs) nx m2 K)(hx:cS env rs x=⟨true,.own l k i a⟩:=by exact rfl)(hy:cS env rs y=⟨true,d⟩:=by exact rfl)(hl:look m l=some (.buf k xs):=by exact rfl)(ha:i+a<=xs.length)(he:sJ m k d ys)(hz:(xs.drop i).take a++ys=zs)(hn:a+ys.length=n)(hb:n<=1073741824:=by omega)(hL:nx+rs.length=L:=by exact vD)(hm:du (cD m l) L (.buf k zs)=m2:=by simp only[du,cD,Nat.reduceEqDiff,aH,aI,Nat.reduceAdd,reduceCtorEq];exact rfl):aQ Y draw (⟨.app k x y,none⟩::r) env rs nx m K:=
 rk rfl _ (by simp only[aW.er,hx,hy,he.2,fW,hl,hn];exact⟨trivial,trivial,he.1,trivial,⟨trivial,ha⟩,hb⟩) (by simp only[aW.val,hx,hy,he.2,hn,hL]) _ (by simp only[aW.cQ,hx,hy,he.2,bq,hl,hz,hL];exact hm) (fun _=>h)
def jg {α:Type}{q:α->D}{xs:List α}{e:α}{k l ly:Nat}{x y:Src}{L:Nat}{m2:List (Nat×bV)}(h:aQ Y draw r env (⟨true,.own L k 0 (xs++[e]).length⟩::rs) nx m2 K)(hx:cS env rs x=⟨true,.own l k 0 xs.length⟩:=by exact rfl)(hy:cS env rs y=⟨true,.own ly k 0 1⟩:=by exact rfl)(hl:look m l=some (.buf k (xs.map q)):=by exact rfl)(he:look m ly=some (.buf k [q e]):=by exact rfl)(hb:xs.length+1<=1073741824:=by omega)(hL:nx+rs.length=L:=by exact vD)(hm:du (cD m l) L (.buf k ((xs++[e]).map q))=m2:=by simp only[du,cD,Nat.reduceEqDiff,aH,aI,Nat.reduceAdd,reduceCtorEq];exact rfl):aQ Y draw (⟨.app k x y,none⟩::r) env rs nx m K:=
 vW (zs:=(xs++[e]).map q) (hx:=hx) (hy:=hy) (hl:=hl) (ha:=aN) (he:=sJ.all (es:=[q e]) he rfl) (hz:=by rw[bR,eK aN];simp) (hn:=aN) (hb:=cX) (hL:=hL) (hm:=hm) (h:=h)
def Lg {α:Type}{q:α->D}{xs ys:List α}{k l:Nat}{x y:Src}{d:D}{L:Nat}{m2:List (Nat×bV)}(h:aQ Y draw r env (⟨true,.own L k 0 (xs++ys).length⟩::rs) nx m2 K)(hx:cS env rs x=⟨true,.own l k 0 xs.length⟩:=by exact rfl)(hy:cS env rs y=⟨true,d⟩:=by exact rfl)(hl:look m l=some (.buf k (xs.map q)):=by exact rfl)(he:sJ m k d (ys.map q))(hb:xs.length+ys.length<=1073741824:=by omega)(hL:nx+rs.length=L:=by exact vD)(hm:du (cD m l) L (.buf k ((xs++ys).map q))=m2:=by simp only[du,cD,Nat.reduceEqDiff,aH,aI,Nat.reduceAdd,reduceCtorEq];exact rfl):aQ Y draw (⟨.app k x y,none⟩::r) env rs nx m K:=
 vW (zs:=(xs++ys).map q) (hx:=hx) (hy:=hy) (hl:=hl) (ha:=aN) (he:=he) (hz:=by rw[bR,eK aN];simp) (hn:=aN) (hb:=cX) (hL:=hL) (hm:=hm) (h:=h)
def Lh {x:Src}{fx:Bool}{d:D}{ys:List D}(s:List UInt8)(h:aQ Y draw r env (⟨f,.str s⟩::rs) nx m K)(hg:GF rs g f:=by exact dw)(hx:cS env rs x=⟨fx,d⟩:=by exact rfl)(kx:f=true->fx=true:=by exact cx)(he:f=true->sJ m 1 d ys)(hs:f=true->ys=s.map fun b=>.int .u8 b.toNat)(hd:d.Qm=false:=by exact rfl):aQ Y draw (⟨.b2s x,g⟩::r) env rs nx m K:=
 iN rfl hg _ (fun hf=>by
  simp only[aW.er,hx,(he hf).2,hs hf];refine⟨kx hf,(by cases d<;>first|trivial|(cases hd)),(he hf).1,fun e hm=>?_⟩;obtain⟨b,_,rfl⟩:=fQ.1 hm;have:=b.toNat_lt;exact⟨rfl,ae,ae⟩) (fun hf=>by simp only[aW.val,hx,(he hf).2,hs hf];rw[MH]) m rfl (fun _=>h)
def BK {x:Src}{l pos:Nat}{s:List UInt8}{m2:List (Nat×bV)}(c w:Nat)(h:aQ Y draw r env (⟨true,.tup [.bool true,.int .i64 pos,.int .i32 c]⟩::rs) nx m2 K)(hx:cS env rs x=⟨true,.it l⟩:=by exact rfl)(hl:look m l=some (.iter s pos):=by exact rfl)(hp:pos<s.length)(hc:uF s pos=(c,w))(hm:du m l (.iter s (pos+w))=m2:=by simp only[du,cD,Nat.reduceEqDiff,aH,aI,Nat.reduceAdd,reduceCtorEq];exact rfl):aQ Y draw (⟨.zh x,none⟩::r) env rs nx m K:=
 rk rfl _ (by simp only[aW.er,hx,hl];exact⟨trivial,trivial⟩) (by simp only[aW.val,hx,hl,hc,hp,decide_true,cond_true]) _ (by simp only[aW.cQ,hx,hl,hc,hp,decide_true,cond_true];exact hm) (fun _=>h)
def BJ {x:Src}{l pos:Nat}{s:List UInt8}(h:aQ Y draw r env (⟨true,.tup [.bool false]⟩::rs) nx m K)(hx:cS env rs x=⟨true,.it l⟩:=by exact rfl)(hl:look m l=some (.iter s pos):=by exact rfl)(hp:¬pos<s.length):aQ Y draw (⟨.zh x,none⟩::r) env rs nx m K:=
 rk rfl _ (by simp only[aW.er,hx,hl];exact⟨trivial,trivial⟩) (by simp only[aW.val,hx,hl,hp,decide_false,cond_false]) _ (by simp only[aW.cQ,hx,hl,hp,decide_false,cond_false]) (fun _=>h)
def ar {n:Nat}{args:List Src}{sh:List (List Sh)}{afB:List D}{v:D}(h:aQ Y draw r env (⟨f,v⟩::rs) nx m K)(hg:GF rs g f:=by exact dw)(hc:Y.pre n afB/\Y.val n afB=v)(ha:f=true->oO m sh (jx (cS env rs) args)=afB:=by exact fun _=>rfl)(ho:f=true->wB (cS env rs) args:=by exact zJ)(hp:f=true->mn m sh (jx (cS env rs) args):=by exact zJ)(hk:f=true->uE (jx (cS env rs) args) v=true:=by exact fun _=>rfl):aQ Y draw (⟨.call n args sh,g⟩::r) env rs nx m K:=
 iN rfl hg _ (fun hf=>by simp only[aW.er,(eW _ _ _).1,ha hf,hc.2];exact⟨ho hf,(eW _ _ _).2.2 (hp hf),hc.1,hk hf⟩) (fun hf=>by simp only[aW.val,(eW _ _ _).1,ha hf,hc.2]) m rfl (fun _=>h)
def fT {n:Nat}{args:List Src}{sh:List (List Sh)}{afB:List D}{v:D}(h:aQ Y draw r env (⟨f,v⟩::rs) nx m K)(hg:GF rs g f:=by exact dw)(hc:f=true->Y.pre n afB/\Y.val n afB=v)(ha:f=true->oO m sh (jx (cS env rs) args)=afB:=by exact fun _=>rfl)(ho:f=true->wB (cS env rs) args:=by exact zJ)(hp:f=true->mn m sh (jx (cS env rs) args):=by exact zJ)(hk:f=true->uE (jx (cS env rs) args) v=true:=by exact fun _=>rfl):aQ Y draw (⟨.call n args sh,g⟩::r) env rs nx m K:=
 iN rfl hg _ (fun hf=>by simp only[aW.er,(eW _ _ _).1,ha hf,(hc hf).2];exact⟨ho hf,(eW _ _ _).2.2 (hp hf),(hc hf).1,hk hf⟩) (fun hf=>by simp only[aW.val,(eW _ _ _).1,ha hf,(hc hf).2]) m rfl (fun _=>h)
def Uv {n:Nat}{caps:List Src}(cs:List D)(h:aQ Y draw r env (⟨f,.fn n cs⟩::rs) nx m K)(hg:GF rs g f:=by exact dw)(hc:f=true->jx (cS env rs) caps=cs:=by exact fun _=>rfl)(ho:f=true->wB (cS env rs) caps:=by exact zJ):aQ Y draw (⟨.mkf n caps,g⟩::r) env rs nx m K:=
 cd rfl hg _ (fun hf=>ho hf) (fun hf=>by simp only[aW.val,hc hf]) (fun _=>h)
def nE {n l k:Nat}{x:Src}{args:List Src}{sh:List (List Sh)}{d v e:D}{afB:List D}{m2:List (Nat×bV)}(h:aQ Y draw r env (⟨true,v⟩::rs) nx m2 K)(hx:cS env rs x=⟨true,.ptr l k 0 0⟩:=by exact rfl)(hl:look m l=some (.buf k [d]):=by exact rfl)(hd:d.bG=true:=by exact rfl)(hc:Y.fp n d afB/\Y.fv n d afB=v/\Y.fs n d afB=e)(ha:oO [] sh (jx (cS env rs) args)=afB:=by exact rfl)(ho:wB (cS env rs) args:=by repeat' first|exact trivial|exact rfl|refine And.intro ?_ ?_|decide)(hn:bx (jx (cS env rs) args)=true:=by exact rfl)(hm:du m l (.buf k [e])=m2:=by simp only[du,cD,Nat.reduceEqDiff,aH,aI,Nat.reduceAdd,reduceCtorEq];exact rfl):aQ Y draw (⟨.callF n x args sh,none⟩::r) env rs nx m K:=
 rk rfl _ (by simp only[aW.er,hx,fW,bq,hl,iw,(eW _ _ _).1,ha];exact⟨trivial,ho,hn,trivial,trivial,⟨trivial,aN⟩,aN,hd,hc.1⟩) (by simp only[aW.val,hx,bq,hl,iw,(eW _ _ _).1,ha,hc.2.1]) _ (by simp only[aW.cQ,hx,bq,hl,iw,(eW _ _ _).1,ha,hc.2.2];exact hm) (fun _=>h)
end
end
end Go.Abs
section
namespace Go.Abs
abbrev aq:=List UInt8
structure cM where
 major:Int
 minor:Int
 patch:Int
 pre:aq
 build:aq
 deriving Inhabited,DecidableEq
def cM.D (v:cM):D:=.agg [.int .i64 v.major,.int .i64 v.minor,.int .i64 v.patch,.str v.pre,.str v.build]
structure uy where
 name:aq
 v:cM
 shelf:aq
 sum:Int
 feats:List aq
 deriving Inhabited,DecidableEq
def uy.D (x:uy):D:=.agg [.str x.name,.int .i64 x.v.major,.int .i64 x.v.minor,.int .i64 x.v.patch,.str x.v.pre,.str x.v.build,.str x.shelf,.int .u64 x.sum,.sl 1 (x.feats.map D.str)]
structure Env where
 e0:aq
 e1:aq
 e2:aq
 deriving Inhabited,DecidableEq
def Env.D (e:Env):D:=.agg [.str e.e0,.str e.e1,.str e.e2]
structure Cb where
 env:Env
 lines:List uy
 deriving Inhabited,DecidableEq
def Cb.D (l:Cb):D:=.agg [.str l.env.e0,.str l.env.e1,.str l.env.e2,.sl 9 (l.lines.map uy.D)]
end Go.Abs
namespace Go.Abs
def tK (a b:List UInt8):Qc (.str a) (.str b)=decide (a=b):=pJ a b
def wP (k k2:IntKind)(a b:Int):Qc (.int k a) (.int k2 b)=decide (a=b):=rfl
def cM.eq (a b:cM):jb (cM.D a).cells (cM.D b).cells=decide (a=b):=by
 obtain⟨a1,a2,a3,a4,a5⟩:=a;obtain⟨b1,b2,b3,b4,b5⟩:=b;simp only[cM.D,D.cells,jb,tK,wP,cM.mk.injEq,iO];simp only[Bool.decide_and]
def Env.eq (a b:Env):jb (Env.D a).cells (Env.D b).cells=decide (a=b):=by
 obtain⟨a1,a2,a3⟩:=a;obtain⟨b1,b2,b3⟩:=b;simp only[Env.D,D.cells,jb,tK,wP,Env.mk.injEq,iO];simp only[Bool.decide_and]
def cM.inj {a b:cM}(h:cM.D a=cM.D b):a=b:=by
 obtain⟨a1,a2,a3,a4,a5⟩:=a;obtain⟨b1,b2,b3,b4,b5⟩:=b;simp only[cM.D,D.agg.injEq,jq,D.int.injEq,D.str.injEq,bU,b9]at h;simp[h]
def Env.inj {a b:Env}(h:Env.D a=Env.D b):a=b:=by
 obtain⟨a1,a2,a3⟩:=a;obtain⟨b1,b2,b3⟩:=b;simp only[Env.D,D.agg.injEq,jq,D.int.injEq,D.str.injEq,bU,b9]at h;simp[h]
def map_inj {α:Type}{q:α->D}(hq:∀a b,q a=q b->a=b):∀{xs ys:List α},xs.map q=ys.map q->xs=ys
 |[],[],_=>rfl
 |[],_::_,h=>by simp at h
 |_::_,[],h=>by simp at h
 |a::r,b::s,h=>by
  simp only[List.map_cons,jq]at h;rw[hq a b h.1,map_inj hq h.2]
def str_inj (a b:List UInt8)(h:D.str a=D.str b):a=b:=by simpa using h
def uy.inj {a b:uy}(h:uy.D a=uy.D b):a=b:=by
 obtain⟨a1,⟨v1,v2,v3,v4,v5⟩,a2,a3,a4⟩:=a;obtain⟨b1,⟨w1,w2,w3,w4,w5⟩,b2,b3,b4⟩:=b;simp only[uy.D,D.agg.injEq,jq,D.int.injEq,D.str.injEq,D.sl.injEq,bU,b9]at h;have:=map_inj str_inj h.2.2.2.2.2.2.2.2;simp[h,this]
def Cb.inj {a b:Cb}(h:Cb.D a=Cb.D b):a=b:=by
 obtain⟨⟨a1,a2,a3⟩,a4⟩:=a;obtain⟨⟨b1,b2,b3⟩,b4⟩:=b;simp only[Cb.D,D.agg.injEq,jq,D.str.injEq,D.sl.injEq,bU,b9]at h;have:=map_inj (fun _ _=>uy.inj) h.2.2.2;simp[h,this]
end Go.Abs
end
section
namespace Go.Abs
def allI (p:Nat->Bool):Nat->Nat->Bool
 |_,0=>true
 |i,k+1=>p i&&allI p (i+1) k
def cO (p:Nat->Bool)(i n:Nat):Bool:=allI p i (n-i)
def aX {p:Nat->Bool}{i n:Nat}(h:i<n):cO p i n=(p i&&cO p (i+1) n):=by
 unfold cO;rw[show n-i=(n-(i+1))+1 by omega];rfl
def cj {p:Nat->Bool}{i n:Nat}(h:n<=i):cO p i n=true:=by
 unfold cO;rw[show n-i=0 by omega];rfl
def Cq {p:Nat->Bool}:∀{k i:Nat},allI p i k=true↔∀j,i<=j->j<i+k->p j=true
 |0,i=>by simp[allI];intro j h1 h2;omega
 |k+1,i=>by
  simp only[allI,bh,Cq (k:=k)];constructor
  ·rintro⟨h1,h2⟩ j hj1 hj2;rcases Nat.eq_or_lt_of_le hj1 with h|h
   ·exact h▸h1
   ·exact h2 j h ae
  ·intro h;exact⟨h i (aM _) ae,fun j h1 h2=>h j ae ae⟩
def eE {p:Nat->Bool}{i n:Nat}:cO p i n=true↔∀j,i<=j->j<n->p j=true:=by
 unfold cO;rw[Cq];constructor
 ·intro h j h1 h2;exact h j h1 ae
 ·intro h j h1 h2;exact h j h1 ae
end Go.Abs
namespace Go.Abs
def aU {a a' b b':D}(h1:a=a')(h2:b=b'):D.tup [a,b]=D.tup [a',b']:=by rw[h1,h2]
def e7 {a a' b b' c c':D}(h1:a=a')(h2:b=b')(h3:c=c'):D.tup [a,b,c]=D.tup [a',b',c']:=by rw[h1,h2,h3]
end Go.Abs
namespace Go.Abs
end Go.Abs
namespace Go.Abs
def tH (s:aq)(pos:Nat)(h:pos<s.length):∃c w,uF s pos=(c,w)/\1<=w/\((w=1/\(c:Int)=at8 s pos/\c<128)\/(128<=c/\128<=at8 s pos)):=by
 refine⟨(uF s pos).1,(uF s pos).2,rfl, ?_⟩;have e:uF s pos=Lib.decodeN (s.length-pos) (s.getD pos 0).toNat (s.getD (pos+1) 0).toNat (s.getD (pos+2) 0).toNat (s.getD (pos+3) 0).toNat:=Lib.decode_N ⟨⟨s⟩⟩ pos;rw[e];unfold at8;generalize (s.getD pos 0).toNat=b0;generalize (s.getD (pos+1) 0).toNat=b1;generalize (s.getD (pos+2) 0).toNat=b2;generalize (s.getD (pos+3) 0).toNat=b3;generalize s.length-pos=n;by_cases hb:b0<128
 ·unfold Lib.decodeN;rw[av hb];exact⟨aM _,.inl ⟨rfl,rfl,hb⟩⟩
 ·unfold Lib.decodeN;rw[aj hb];have h2:(128:Int)<=(b0:Int):=ae;repeat' split
  all_goals exact⟨ae,.inr ⟨by simp only;omega,h2⟩⟩
end Go.Abs
namespace Go.Abs
def uo {α:Type}{q:α->D}{xs:List α}{m:List (Nat×bV)}{l:Nat}(hq:∀x,xV m [.a] (q x)=q x)(hl:look m l=some (.buf 1 (xs.map q))):xV m [.sl 1 [.a]] (.own l 1 0 xs.length)=.sl 1 (xs.map q):=by
 show D.sl 1 _=_;simp only[bq,hl,bR,aP,List.map_map];congr 1;apply List.map_congr_left;intro x _;have:=hq x;simp only[Function.comp];generalize q x=d at this;cases d<;>exact this
def rJ {α:Type}{q:α->D}{xs:List α}{m:List (Nat×bV)}{l:Nat}(hq:∀x,Mg m [.a] (q x))(hl:look m l=some (.buf 1 (xs.map q))):Mg m [.sl 1 [.a]] (.own l 1 0 xs.length):=by
 simp only[Mg,OQ,OP];refine⟨by simp[fW,hl], ?_⟩;simp only[bq,hl,bR,aP];intro e he;obtain⟨x,_,rfl⟩:=fQ.1 he;have:=hq x;generalize q x=d at this;cases d<;>exact this
end Go.Abs
end
namespace Go.Abs
def jc (c:Int):Bool:=decide (97<=c)&&decide (c<=122)
def bB (c:Int):Bool:=decide (48<=c)&&decide (c<=57)
def yZ (c:Int):Bool:=jc c ||bB c ||decide (c=95)
def cC (s:aq):Bool:=decide (1<=s.length)&&decide (s.length<=12)&&cO (fun i=>yZ (at8 s i)) 0 s.length
def Rk (s:aq)(i:Nat):Bool:=(jc (at8 s i) ||bB (at8 s i) ||decide (at8 s i=45))&& !(decide (at8 s i=45)&&decide (at8 s (i-1)=45))
def fZ (s:aq):Bool:=decide (1<=s.length)&&decide (s.length<=16)&&jc (at8 s 0)&& !decide (at8 s (s.length-1)=45)&&cO (Rk s) 1 s.length
def oM (s:aq)(i:Nat):Bool:=jc (at8 s i) ||(bB (at8 s i)&& !decide (i=0)) ||(decide (at8 s i=45)&& !decide (i=0)&& !decide (i=s.length-1)&& !decide (at8 s (i-1)=45))
def Nt (s:aq)(h1:1<=s.length)(h2:s.length<=16):fZ s=cO (oM s) 0 s.length:=by
 rw[Bool.eq_iff_iff];simp only[fZ,bS h1,bS h2,fA,bh,bn,bj,eE];constructor
 ·rintro⟨⟨h3,h4⟩,h5⟩ j _ hj;rcases Nat.eq_zero_or_pos j with rfl|hp
  ·simp[oM,h3]
  ·have:=h5 j hp hj;simp only[Rk,bh,cR,bn,dt,aS,bj]at this;simp only[oM,bh,cR,bn,aS,bj];rcases this with⟨(h6|h6)|h6,h7⟩
   ·exact Or.inl (Or.inl h6)
   ·exact Or.inl (Or.inr ⟨h6,ae⟩)
   ·refine Or.inr ⟨⟨⟨h6,ae⟩, ?_⟩, ?_⟩
    ·rintro rfl;exact h4 h6
    ·rcases h7 with h7|h7
     ·exact absurd h6 h7
     ·exact h7
 ·intro h;have h0:=h 0 ae ae;have hlow:jc (at8 s 0)=true:=by simpa[oM]using h0
  refine⟨⟨hlow, ?_⟩,fun j hj1 hj2=>?_⟩
  ·intro he;have hl:=h (s.length-1) ae ae;rcases Nat.eq_or_lt_of_le h1 with e|e
   ·rw[<-e]at he;simp only[Nat.sub_self]at he;simp only[jc,bh,aS]at hlow;omega
   ·simp only[oM,he,jc,bB]at hl;simp at hl
  ·have:=h j ae hj2;simp only[oM,bh,cR,bn,aS,bj]at this;simp only[Rk,bh,cR,bn,dt,aS,bj];rcases this with(h6|h6)|h6
   ·refine⟨Or.inl (Or.inl h6),Or.inl ?_⟩;simp only[jc,bh,aS]at h6;omega
   ·refine⟨Or.inl (Or.inr h6.1),Or.inl ?_⟩;have:=h6.1;simp only[bB,bh,aS]at this;omega
   ·exact⟨Or.inr h6.1.1.1,Or.inr h6.2⟩
def dJ (s:aq):Nat:=s.foldl (fun n b=>n*10+(b.toNat-48)) 0
def fo (s:aq):Bool:=decide (1<=s.length)&&decide (s.length<=9)&& !(decide (1<s.length)&&decide (at8 s 0=48))&&cO (fun i=>bB (at8 s i)) 0 s.length&&decide (dJ s<=9999)
def dU (s:aq):Int:=if fo s=true then(dJ s:Int)else 0
def um (s:aq)(i:Nat)(h:i<s.length):s.take (i+1)=s.take i++[s.getD i 0]:=by
 rw[List.take_succ];simp[h]
def vT (s:aq)(i:Nat)(h:i<s.length):dJ (s.take (i+1))=dJ (s.take i)*10+((at8 s i).toNat-48):=by
 rw[um s i h];simp[dJ,List.foldl_append,at8]
def Im (s:aq):dJ s+23<=23*10^s.length:=by
 have:∀(s:aq) (n k:Nat),n+23<=23*10^k->s.foldl (fun n b=>n*10+(b.toNat-48)) n+23<=23*10^(k+s.length):=by
  intro s;induction s with
  |nil=>intro n k h;simpa using h
  |cons b r ih=>
   intro n k h;have hb:=b.toNat_lt;have:=ih (n*10+(b.toNat-48)) (k+1) (by rw[Nat.pow_succ];omega);simp only[List.foldl_cons,ax];rw[show k+(r.length+1)=k+1+r.length by omega];exact this
 have:=this s 0 0 aN;simpa[dJ]using this
def ub (s:aq)(i:Nat)(h:i<=9):dJ (s.take i)<=23000000000:=by
 have h1:=Im (s.take i);have h2:(s.take i).length<=9:=cX;have h3:10^(s.take i).length<=10^9:=Nat.pow_le_pow_right ae h2;omega
def Da (s:aq):∀n:Nat,s.foldl (fun n b=>n*10+(b.toNat-48)) n=n*10^s.length+dJ s:=by
 unfold dJ;induction s with
 |nil=>intro n;simp
 |cons b r ih=>
  intro n;simp only[List.foldl_cons,ax];rw[ih,ih (0*10+(b.toNat-48)),Nat.pow_succ];simp only[Nat.zero_mul,bK,Nat.add_mul];rw[Nat.mul_assoc n 10,Nat.mul_comm 10];omega
def vS (b:UInt8)(r:aq):dJ (b::r)=(b.toNat-48)*10^r.length+dJ r:=by
 have:=Da r (0*10+(b.toNat-48));simp only[dJ,List.foldl_cons]at this⊢;rw[this];simp
def vK {b:UInt8}{r:aq}(h:cO (fun i=>bB (at8 (b::r) i)) 0 (b::r).length=true):bB b.toNat=true/\cO (fun i=>bB (at8 r i)) 0 r.length=true:=by
 rw[eE]at h;refine⟨by simpa[at8]using h 0 ae aN, ?_⟩;rw[eE];intro j _ hj;simpa[at8]using h (j+1) ae cX
def Av:∀(s:aq),cO (fun i=>bB (at8 s i)) 0 s.length=true->dJ s<10^s.length
 |[],_=>by simp[dJ]
 |b::r,h=>by
  obtain⟨h1,h2⟩:=vK h;have:=Av r h2;rw[vS,ax,Nat.pow_succ];simp only[bB,bh,aS]at h1;have h3:b.toNat-48<=9:=ae;have:=ff (10^r.length) h3;omega
def Au {b:UInt8}{r:aq}(h:49<=b.toNat):10^r.length<=dJ (b::r):=by
 rw[vS];have:=ff (10^r.length) (show 1<=b.toNat-48 by omega);omega
def E2 (s:aq):fo s=(decide (1<=s.length)&&decide (s.length<=4)&& !(decide (1<s.length)&&decide (at8 s 0=48))&&cO (fun i=>bB (at8 s i)) 0 s.length):=by
 unfold fo;cases hd:cO (fun i=>bB (at8 s i)) 0 s.length with
 |false=>simp
 |true=>
  have hlt:=Av s hd;by_cases h4:s.length<=4
  ·have:10^s.length<=10^4:=Nat.pow_le_pow_right ae h4;rw[bS h4,bS (by omega:s.length<=9),bS (by omega:dJ s<=9999)];simp
  ·rw[cJ h4]
   match s,hd,h4 with
   |b::r,hd,h4=>
    by_cases h0:at8 (b::r) 0=48
    ·rw[bS h0,bS (by omega:1<(b::r).length)];simp
    ·have h1:=(vK hd).1;simp only[bB,bh,aS]at h1;have h2:49<=b.toNat:=by
      simp[at8]at h0;omega
     have h3:=Au (r:=r) h2;have:10^4<=10^r.length:=Nat.pow_le_pow_right ae (by simp at h4;omega);rw[cJ (by omega:¬dJ (b::r)<=9999)];simp
def dg (n:Nat):UInt8:=UInt8.ofNat (48+n)
def Bh:Nat->Nat->aq
 |0,n=>[dg n]
 |f+1,n=>if n<10 then [dg n]else Bh f (n/10)++[dg (n%10)]
def dQ (n:Nat):aq:=Bh n n
def Ga:∀(f g n:Nat),n<=f->n<=g->Bh f n=Bh g n
 |0,0,n,_,_=>rfl
 |0,g+1,n,h,_=>by
  obtain rfl:n=0:=ae;simp[Bh]
 |f+1,0,n,_,h=>by
  obtain rfl:n=0:=ae;simp[Bh]
 |f+1,g+1,n,h1,h2=>by
  simp only[Bh];split
  ·rfl
  ·rw[Ga f g (n/10) ae ae]
def pN {n:Nat}(h:n<10):dQ n=[dg n]:=by
 unfold dQ;cases n<;>simp[Bh,h]
def pM {n:Nat}(h:9<n):dQ n=dQ (n/10)++[dg (n%10)]:=by
 unfold dQ;obtain⟨k,rfl⟩:∃k,n=k+1:=⟨n-1,ae⟩
 simp only[Bh];rw[aj ae,Ga k ((k+1) /10) _ ae ae]
def eG:∀(k n:Nat),n<10^k->0<k->(dQ n).length<=k:=by
 intro k;induction k with
 |zero=>intro n _ h;omega
 |succ k ih=>
  intro n h _;by_cases h10:n<10
  ·rw[pN h10];simp
  ·rw[pM ae];have hk:0<k:=by
    rcases Nat.eq_zero_or_pos k with rfl|h0
    ·simp at h;omega
    ·exact h0
   have:=ih (n/10) (by rw[Nat.pow_succ]at h;omega) hk;simp;omega
def JU {n:Nat}(h:n<10):((dg n).toNat:Int)=48+n:=by
 have:(48+n)%256=48+n:=Nat.mod_eq_of_lt ae;simp[dg,this]
def cy (b:Int):aq->aq->List aq
 |[],cur=>[cur]
 |c::r,cur=>if(c.toNat:Int)=b then cur::cy b r []else cy b r (cur++[c])
def ai (s:aq)(b:Int):List aq:=cy b s []
def mi (s:aq)(i:Nat)(h:i<s.length):s.drop i=s.getD i 0::s.drop (i+1):=by
 rw[jP h];simp[h]
def AK {s:aq}{b:Int}{i fr:Nat}(h:i<s.length)(he:at8 s i=b):cy b (s.drop i) ((s.take i).drop fr)=((s.take i).drop fr)::cy b (s.drop (i+1)) ((s.take (i+1)).drop (i+1)):=by
 rw[mi s i h];have h2:(s.take (i+1)).drop (i+1)=[]:=aN;rw[h2];simp only[cy];rw[av (by simpa[at8]using he)]
def AL {s:aq}{b:Int}{i fr:Nat}(h:i<s.length)(hf:fr<=i)(he:¬at8 s i=b):cy b (s.drop i) ((s.take i).drop fr)=cy b (s.drop (i+1)) ((s.take (i+1)).drop fr):=by
 rw[mi s i h,um s i h,List.drop_append_of_le_length cX];simp only[cy];rw[aj (by simpa[at8]using he)]
def yP {s:aq}{b:Int}{i fr:Nat}(h:s.length<=i):cy b (s.drop i) ((s.take i).drop fr)=[s.drop fr]:=by
 rw[mg h,eK h];rfl
def tq (b:Int):∀(s cur:aq),(cy b s cur).length<=s.length+1
 |[],cur=>by simp[cy]
 |c::r,cur=>by
  simp only[cy];split
  ·have:=tq b r [];simp;omega
  ·have:=tq b r (cur++[c]);simp;omega
def de (s:aq)(b:Int):(ai s b).length<=s.length+1:=tq b s []
def fq (b:Int)(s cur:aq):1<=(cy b s cur).length:=by
 induction s generalizing cur with
 |nil=>simp[cy]
 |cons c r ih=>
  simp only[cy];split
  ·simp
  ·exact ih _
def ju (s:aq)(b:Int)(i:Nat):aq×aq:=match(s.drop i).findIdx? (fun c=>decide ((c.toNat:Int)=b))with
 |some k=>(s.drop (i+k+1),s.take (i+k))
 |none=>([],s)
def aD (s:aq)(b:Int):aq×aq:=ju s b 0
def xo {s:aq}{b:Int}{i:Nat}(h:i<s.length)(he:at8 s i=b):ju s b i=(s.drop (i+1),s.take i):=by
 unfold ju;rw[mi s i h,List.findIdx?_cons];simp only[at8]at he;rw[av (by simpa using he)];rfl
def xp {s:aq}{b:Int}{i:Nat}(h:i<s.length)(he:¬at8 s i=b):ju s b i=ju s b (i+1):=by
 unfold ju;rw[mi s i h,List.findIdx?_cons];simp only[at8]at he;simp only[he,decide_false,ey,aI];cases(s.drop (i+1)).findIdx? (fun c=>decide ((c.toNat:Int)=b))with
 |none=>rfl
 |some k=>simp only[Option.map_some];rw[show i+(k+1)=i+1+k by omega]
def vG {s:aq}{b:Int}{i:Nat}(h:s.length<=i):ju s b i=([],s):=by
 unfold ju;rw[mg h];rfl
def nS (c:Int):Bool:=jc c ||bB c ||decide (c=45)
def qq (t:aq):Bool:=decide (1<=t.length)&&decide (t.length<=8)&&cO (fun i=>nS (at8 t i)) 0 t.length
def fN (t:aq):Bool:=cO (fun i=>bB (at8 t i)) 0 t.length&&decide (0<t.length)
def iD (p:Bool)(t:aq):Bool:=qq t&& !(p&&fN t&& !fo t)
def nq (s:aq)(p:Bool):Bool:=decide ((ai s 46).length<=4)&&cO (fun i=>iD p (ai s 46)[i]!) 0 (ai s 46).length
def rC (s:aq)(p:Bool):Bool:=decide (s=[]) ||nq s p
def nw (n:Int):Bool:=decide (0<=n)&&decide (n<=9999)
def iW (v:cM):Bool:=nw v.major&&nw v.minor&&nw v.patch&&rC v.pre true&&rC v.build false
def wH (v:cM):aq:=dQ v.major.toNat++[46]++dQ v.minor.toNat++[46]++dQ v.patch.toNat++(if v.pre=[]then []else 45::v.pre)++(if v.build=[]then []else 43::v.build)
def mL (v:cM):aq:=if iW v=true then wH v else []
def cM.sm (v:cM):Prop:=v.pre.length<=1048576/\v.build.length<=1048576
def Env.at (e:Env):Nat->aq
 |0=>e.e0
 |1=>e.e1
 |_=>e.e2
def Env.ld (e:Env){i:Nat}(h:i<3):pe (Env.D e) 3 1 (0+i*1) false=.str (e.at i):=by
 match i,h with
 |0,_=>rfl
 |1,_=>rfl
 |2,_=>rfl
def Cb.ld (l:Cb){i:Nat}(h:i<3):pe (Cb.D l) 4 1 (0+i*1) false=.str (l.env.at i):=by
 match i,h with
 |0,_=>rfl
 |1,_=>rfl
 |2,_=>rfl
def Env.cut (e:Env){i:Nat}(h:i<3):Abs.cut [.str e.e0,.str e.e1,.str e.e2] (i*1) 1 false=.str (e.at i):=by
 match i,h with
 |0,_=>rfl
 |1,_=>rfl
 |2,_=>rfl
def uy.sm (x:uy):Prop:=x.v.sm/\x.name.length<=1048576/\x.shelf.length<=1048576/\x.feats.length<=1048576/\∀t∈x.feats,t.length<=1048576
def Cb.sm (l:Cb):Prop:=l.lines.length<=1048576/\(∀x∈l.lines,x.sm)/\∀i,(l.env.at i).length<=1048576
def bM {α:Type} [Inhabited α]{l:List α}{i:Nat}(h:i<l.length):l[i]! ∈l:=by
 simp[h]
structure Kp where
 name:aq
 v:cM
 deriving Inhabited,DecidableEq
def Kp.D (x:Kp):D:=.agg [.str x.name,.int .i64 x.v.major,.int .i64 x.v.minor,.int .i64 x.v.patch,.str x.v.pre,.str x.v.build]
def pB {α:Type} [Inhabited α] [DecidableEq α]{a b:List α}(h:a.length=b.length):decide (a=b)=cO (fun i=>decide (a[i]! =b[i]!)) 0 a.length:=by
 rw[Bool.eq_iff_iff,aS,eE];constructor
 ·rintro rfl j _ _;simp
 ·intro hj;apply List.ext_getElem h;intro i h1 h2;have:=hj i ae h1;simpa[h1,h2]using this
def uy.same {a b:uy}(e1:a.name=b.name)(e2:a.v=b.v)(e3:a.shelf=b.shelf)(e4:a.sum=b.sum)(e5:a.feats.length=b.feats.length):decide (a=b)=cO (fun i=>decide (a.feats[i]! =b.feats[i]!)) 0 a.feats.length:=by
 rw[<-pB e5];obtain⟨a1,a2,a3,a4,a5⟩:=a;obtain⟨b1,b2,b3,b4,b5⟩:=b;simp only at e1 e2 e3 e4;subst e1;subst e2;subst e3;subst e4;simp
def bc (b:aq):List aq->aq
 |[]=>[]
 |[t]=>t
 |t::u::r=>t++b++bc b (u::r)
def ik (b t:aq)(r:List aq)(h:r≠[]):bc b (t::r)=t++b++bc b r:=by
 cases r with
 |nil=>exact absurd rfl h
 |cons u r=>rfl
def qK {α:Type}(q:α->aq)(B:Nat):∀l:List α,(∀x∈l,(q x).length<=B)->((l.map q).flatten).length<=l.length*B
 |[],_=>aN
 |a::r,h=>by
  have h1:=h a (.head _);have h2:=qK q B r fun x hx=>h x (.tail _ hx)
  simp only[List.map_cons,List.flatten_cons,bE,ax,Nat.succ_mul];omega
def yW (v:cM)(h:v.sm):(mL v).length<=2097200:=by
 unfold mL;split
 ·rename_i hv;simp only[iW,bh]at hv;obtain⟨⟨⟨⟨hv1,hv2⟩,hv3⟩,_⟩,_⟩:=hv;simp only[nw,bh,aS]at hv1 hv2 hv3;have hl1:=eG 4 v.major.toNat ae ae;have hl2:=eG 4 v.minor.toNat ae ae;have hl3:=eG 4 v.patch.toNat ae ae;obtain⟨h1,h2⟩:=h;unfold wH;split<;>split<;>simp<;>omega
 ·simp
def Env.sm (e:Env):Prop:=∀i,(e.at i).length<=1048576
end Go.Abs
section
namespace Go.Abs
def QF (v n:Int):Int:=if n<1 then 0 else if v.tmod n<0 then v.tmod n+n else v.tmod n
def FQ (v n:Int)(h:1<=n):-n<v.tmod n/\v.tmod n<n:=⟨Int.lt_tmod_of_pos v ae,Int.tmod_lt_of_pos v ae⟩
def atI (l:List Int)(i:Int):Int:=if i<0\/(l.length:Int)<=i then i.tmod 3 else l[i.toNat]!
structure Gs where
 l:List Int
 i:Int
 deriving Inhabited
def Gs.D (g:Gs):D:=.agg [.sl 1 (g.l.map (D.int .i64)),.int .i64 g.i]
def Gs.val (g:Gs)(n:Int):Int:=QF (atI g.l g.i) n
def Gs.zh (g:Gs):Gs:=⟨g.l,g.i+1⟩
def hX (s:aq)(b:UInt8):aq×aq×Bool:=match s.findIdx? (fun c=>c==b)with
 |some k=>(s.take k,s.drop (k+1),true)
 |none=>(s,[],false)
def fm (s p:aq):aq×Bool:=if p.isPrefixOf s=true then(s.drop p.length,true)else(s,false)
def JR (s:aq)(b:UInt8):(hX s b).1.length<=s.length/\((hX s b).2.2=true->(hX s b).1.length+1<=s.length):=by
 unfold hX;split
 ·rename_i k h;have:=List.findIdx?_eq_some_iff_findIdx_eq.1 h;simp only[dq];omega
 ·simp
structure Oq where
 s:aq
 at':Nat
 n:Nat
def Oq.D (r:Oq):D:=.agg [.str r.s,.int .i64 (r.at':Nat),.int .i64 (r.n:Nat)]
def Oq.ln (r:Oq):aq×aq×Bool:=hX (r.s.drop r.at') 10
def Oq.zh (r:Oq):Oq:=⟨r.s,if r.ln.2.2=true then r.at'+(r.ln.1.length+1)else r.at',r.n+1⟩
def fH:cM:=⟨0,0,0,[],[]⟩
def fK (s:aq):Option cM:=
 let a:=aD s 43
 let b:=aD a.2 45
 let l:=ai b.2 46
 if l.length=3/\fo l[0]! =true/\fo l[1]! =true/\fo l[2]! =true then
  let v:cM:=⟨dU l[0]!,dU l[1]!,dU l[2]!,b.1,a.1⟩
  if iW v=true/\mL v=s then some v else none
 else none
def Ij (l:List aq)(i:Nat):D:=.agg [.int .i64 (if 0<i then dU l[0]! else 0),.int .i64 (if 1<i then dU l[1]! else 0),.int .i64 (if 2<i then dU l[2]! else 0)]
def C7 (l:List aq)(i:Nat)(h:i<3):wG (Ij l i) 3 1 (0+i*1) (.int .i64 (dU l[i]!))=Ij l (i+1):=by
 match i,h with
 |0,_=>rfl
 |1,_=>rfl
 |2,_=>rfl
def kr (s:aq)(b:Int):(aD s b).1.length<=s.length/\(aD s b).2.length<=s.length:=by
 unfold aD ju;split
 ·simp;omega
 ·simp
def tt (b:Int):∀(s cur:aq),∀t∈cy b s cur,t.length<=cur.length+s.length
 |[],cur,t,h=>by simp only[cy,cK]at h;subst h;simp
 |c::r,cur,t,h=>by
  simp only[cy]at h;split at h
  ·rcases dr.1 h with rfl|h
   ·simp
   ·have:=tt b r [] t h;simp at this⊢;omega
  ·have:=tt b r (cur++[c]) t h;simp at this⊢;omega
def en (s:aq)(b:Int){t:aq}(h:t∈ai s b):t.length<=s.length:=by
 have:=tt b s [] t h;simpa using this
def yN (s:aq)(b:Int){i:Nat}(h:i<(ai s b).length):((ai s b)[i]!).length<=s.length:=en s b (bM h)
end Go.Abs
namespace Go.Abs
def m6 (s:aq):Int:=if(fK s).isSome=true then 0 else 5
end Go.Abs
namespace Go.Abs
end Go.Abs
namespace Go.Abs
def N2 {s:aq}(h:s.length<=1048576):((fK s).getD fH).sm:=by
 have h0:fH.sm:=⟨by simp[fH],by simp[fH]⟩;cases hq:fK s with
 |none=>exact h0
 |some v=>
  simp only[Option.getD_some];simp only[fK]at hq;split at hq
  ·split at hq
   ·obtain rfl:=bC hq;have h1:=kr s 43;have h2:=kr (aD s 43).2 45;exact⟨by simp only;omega,by simp only;omega⟩
   ·cases hq
  ·cases hq
def L0 (s:aq):decide (m6 s=0)=(fK s).isSome:=by
 unfold m6;cases(fK s)<;>simp
end Go.Abs
namespace Go.Abs
def EA (s p:aq):(fm s p).1.length<=s.length:=by
 unfold fm;split<;>simp
end Go.Abs
namespace Go.Abs
variable {e:Env} {f:Nat} {r:Oq} {ls:List uy}
end Go.Abs
namespace Go.Abs
end Go.Abs
end
namespace Go.Abs
section
section
variable {Y:Ctx} {draw:Bool} {r:List GI} {env rs:List ca} {nx:Nat} {m:List (Nat×bV)} {K:List ca->St->Prop} {g:Option (Nat×Bool)} {f:Bool}
def Uy {i:aW}{j:Nat}{w:Bool}(d:D)(h:aQ Y draw r env (⟨false,d⟩::rs) nx m K)(hC:i.pure=true:=by exact rfl)(hg:GF rs (some (j,w)) false:=by exact⟨_,_,rfl,rfl⟩):aQ Y draw (⟨i,some (j,w)⟩::r) env rs nx m K:=
 cd hC hg d (fun h=>by cases h) (fun h=>by cases h) (fun _=>h)
def cI {n:Nat}{args:List Src}{afB:List D}{v:D}{nx':Nat}{m':List (Nat×bV)}(h:aQ Y draw r env (⟨true,v⟩::rs) nx' m' K)
  (hc:∀K':D->St->Prop,K' v ⟨nx'+rs.length,m'⟩->Y.tr n afB ⟨nx+rs.length,m⟩ K') (hn:nx<=nx') (ha:jx (cS env rs) args=afB:=by exact rfl)
  (ho:wB (cS env rs) args:=by repeat' first|exact trivial|exact rfl|refine And.intro ?_ ?_):aQ Y draw (⟨.callM n args,none⟩::r) env rs nx m K:=by
 unfold aQ;show True/\(true=true->wB (Src.ev env rs.reverse) args/\Y.tr n (jx (Src.ev env rs.reverse) args) {nx:=nx+rs.reverse.length,m:=m} _)/\(true=false->_);rw[nv,List.length_reverse,ha];refine⟨trivial,fun _=>⟨ho,hc _ ⟨by show nx+rs.length<=nx'+rs.length;omega, ?_⟩⟩,fun h=>by cases h⟩;unfold aQ at h;rw[List.reverse_cons]at h;have e:nx'+rs.length-rs.length=nx':=ae;simp only[e];exact h
def QW {l k i0 n:Nat}{x y z:Src}{fx fy fz:Bool}{kh km:IntKind}{h' m':Int}(j:Nat)(h:aQ Y draw r env (⟨f,.own l k i0 j⟩::rs) nx m K)(hg:GF rs g f:=by exact dw)(hx:cS env rs x=⟨fx,.own l k i0 n⟩:=by exact rfl)(hy:cS env rs y=⟨fy,.int kh h'⟩:=by exact rfl)(hz:cS env rs z=⟨fz,.int km m'⟩:=by exact rfl)
  (kx:f=true->fx=true:=by exact cx) (ky:f=true->fy=true:=by exact cx) (kz:f=true->fz=true:=by exact cx)
  (hj:f=true->h'=(j:Int)) (hb:f=true->(j:Int)<=m'/\m'<=(n:Int)):aQ Y draw (⟨.slX k x y z,g⟩::r) env rs nx m K:=
 cd rfl hg _ (fun hf=>by have h1:=hj hf;have h2:=hb hf;simp only[aW.er,hx,hy,hz];exact⟨kx hf,ky hf,kz hf,ae,ae,trivial,h2.2⟩) (fun hf=>by simp only[aW.val,hx,hy];rw[hj hf,Int.toNat_natCast]) (fun _=>h)
def gE {n:Nat}{args:List Src}{afB:List D}{ι:Type}(P:ι->Prop)(V:ι->D)(nx':Nat)(M:ι->List (Nat×bV))(h:∀i,P i->aQ Y draw r env (⟨true,V i⟩::rs) nx' (M i) K)
  (hc:∀K':D->St->Prop,(∀i,P i->K' (V i) ⟨nx'+rs.length,M i⟩)->Y.tr n afB ⟨nx+rs.length,m⟩ K') (hn:nx<=nx') (ha:jx (cS env rs) args=afB:=by exact rfl)
  (ho:wB (cS env rs) args:=by repeat' first|exact trivial|exact rfl|refine And.intro ?_ ?_):aQ Y draw (⟨.callM n args,none⟩::r) env rs nx m K:=by
 unfold aQ;show True/\(true=true->wB (Src.ev env rs.reverse) args/\Y.tr n (jx (Src.ev env rs.reverse) args) {nx:=nx+rs.reverse.length,m:=m} _)/\(true=false->_);rw[nv,List.length_reverse,ha];refine⟨trivial,fun _=>⟨ho,hc _ fun i hi=>⟨by show nx+rs.length<=nx'+rs.length;omega, ?_⟩⟩,fun h=>by cases h⟩;have h:=h i hi;unfold aQ at h;rw[List.reverse_cons]at h;have e:nx'+rs.length-rs.length=nx':=ae;simp only[e];exact h
def vn {n j:Nat}{w:Bool}{args:List Src}{afB:List D}{ι:Type}(P:ι->Prop)(V:ι->D)(nx':Nat)(M:ι->List (Nat×bV))(h:∀i,P i->aQ Y draw r env (⟨true,V i⟩::rs) nx' (M i) K)(hg:GF rs (some (j,w)) true:=by exact⟨_,_,rfl,rfl⟩)
  (hc:∀K':D->St->Prop,(∀i,P i->K' (V i) ⟨nx'+rs.length,M i⟩)->Y.tr n afB ⟨nx+rs.length,m⟩ K') (hn:nx<=nx') (ha:jx (cS env rs) args=afB:=by exact rfl)
  (ho:wB (cS env rs) args:=by repeat' first|exact trivial|exact rfl|refine And.intro ?_ ?_):aQ Y draw (⟨.callM n args,some (j,w)⟩::r) env rs nx m K:=by
 unfold aQ;show zr rs.reverse (some (j,w))/\(flag rs.reverse (some (j,w))=true->wB (Src.ev env rs.reverse) args/\Y.tr n (jx (Src.ev env rs.reverse) args) {nx:=nx+rs.reverse.length,m:=m} _)/\(flag rs.reverse (some (j,w))=false->_);obtain⟨hg1,hg2⟩:=hg.flag;rw[hg1,nv,List.length_reverse,ha];refine⟨hg2,fun _=>⟨ho,hc _ fun i hi=>⟨by show nx+rs.length<=nx'+rs.length;omega, ?_⟩⟩,fun h=>by cases h⟩;have h:=h i hi;unfold aQ at h;rw[List.reverse_cons]at h;have e:nx'+rs.length-rs.length=nx':=ae;simp only[e];exact h
def BH {n j:Nat}{w:Bool}{args:List Src}(h:aQ Y draw r env (⟨false,.any⟩::rs) nx m K)(hg:GF rs (some (j,w)) false:=by exact⟨_,_,rfl,rfl⟩):aQ Y draw (⟨.callM n args,some (j,w)⟩::r) env rs nx m K:=by
 unfold aQ;show zr rs.reverse (some (j,w))/\(flag rs.reverse (some (j,w))=true->_)/\(flag rs.reverse (some (j,w))=false->_);obtain⟨hg1,hg2⟩:=hg.flag;rw[hg1];refine⟨hg2,fun h=>(by cases h),fun _=>?_⟩;unfold aQ at h;rw[List.reverse_cons]at h;exact h
def Lb {c a:Src}{fc t:Bool}(h:aQ Y draw r env (⟨f,.bool false⟩::rs) nx m K)(hg:GF rs g f:=by exact dw)(hc:cS env rs c=⟨fc,.bool t⟩:=by exact rfl)(kc:f=true->fc=true:=by exact fun _=>rfl)(ht:t=false:=by exact rfl):aQ Y draw (⟨.pick c a (.c (.bool false)),g⟩::r) env rs nx m K:=by
 subst ht;refine cd rfl hg _ (fun hf=>?_) (fun hf=>?_) (fun _=>h)
 ·simp only[aW.er,hc];exact⟨kc hf,⟨fun h=>absurd h aN,fun _=>rfl⟩⟩
 ·simp only[aW.val,hc];have:cS env rs (.c (.bool false))=⟨true,.bool false⟩:=rfl;rw[this];cases(cS env rs a).d<;>rfl
def nN {n:Nat}{x:Src}{caps:List D}{args:List Src}{afB:List D}{ι:Type}(P:ι->Prop)(V:ι->D)(nx':Nat)(M:ι->List (Nat×bV))(h:∀i,P i->aQ Y draw r env (⟨true,V i⟩::rs) nx' (M i) K)
  (hc:∀K':D->St->Prop,(∀i,P i->K' (V i) ⟨nx'+rs.length,M i⟩)->Y.tr (Bc n) afB ⟨nx+rs.length,m⟩ K') (hn:nx<=nx') (hx:cS env rs x=⟨true,.fn n caps⟩:=by exact rfl) (ha:zm n (jx (cS env rs) args) caps=afB:=by exact rfl)
  (ho:wB (cS env rs) args:=by repeat' first|exact trivial|exact rfl|refine And.intro ?_ ?_):aQ Y draw (⟨.callvM x args,none⟩::r) env rs nx m K:=by
 unfold aQ;show Ka rs.reverse (.callvM x args) none/\(Src.ev env rs.reverse x).ok=true/\wB (Src.ev env rs.reverse) args/\match(Src.ev env rs.reverse x).d with
   | .fn n caps=>Y.tr (Bc n) (zm n (jx (Src.ev env rs.reverse) args) caps) {nx:=nx+rs.reverse.length,m:=m} _
   |_=>False
 rw[nv,List.length_reverse];simp only[hx,ha];refine⟨trivial,trivial,ho,hc _ fun i hi=>⟨by show nx+rs.length<=nx'+rs.length;omega, ?_⟩⟩;have h:=h i hi;unfold aQ at h;rw[List.reverse_cons]at h;have e:nx'+rs.length-rs.length=nx':=ae;simp only[e];exact h
def Lm {x:Src}{fx:Bool}{α:Type} [Inhabited α]{n k i o:Nat}{ag:Bool}{q:α->D}{xs:List α}(v:D)(h:aQ Y draw r env (⟨f,v⟩::rs) nx m K)(hg:GF rs g f:=by exact dw)(hx:cS env rs x=⟨fx,.ref k (xs.map q) i o⟩:=by exact rfl)(kx:f=true->fx=true:=by exact cx)(hi:f=true->i<xs.length:=by exact uq)(hv:f=true->pe (q xs[i]!) k n o ag=v:=by exact fun _=>rfl)(ho:o+n<=k:=by omega):aQ Y draw (⟨.ldU n ag x,g⟩::r) env rs nx m K:=
 iN rfl hg _ (fun hf=>by simp only[aW.er,hx,C1,bI];exact⟨kx hf,hi hf,ho⟩) (fun hf=>by simp only[aW.val,hx,Ce];rw[getD_map (hi hf)];exact hv hf) m rfl (fun ha=>h)
def Ll {x:Src}{fx:Bool}{n l k o:Nat}{ag:Bool}{d:D}(v:D)(h:aQ Y draw r env (⟨f,v⟩::rs) nx m K)(hg:GF rs g f:=by exact dw)(hx:cS env rs x=⟨fx,.ptr l k 0 o⟩:=by exact rfl)(kx:f=true->fx=true:=by exact cx)(hl:f=true->look m l=some (.buf k [d]):=by exact fun _=>rfl)(hv:f=true->pe d k n o ag=v:=by exact fun _=>rfl)(ho:o+n<=k:=by omega)(hd:f=true->d.bG=false:=by exact fun _=>rfl):aQ Y draw (⟨.ldU n ag x,g⟩::r) env rs nx m K:=
 iN rfl hg _ (fun hf=>by simp only[aW.er,hx,C1,fW,hl hf];exact⟨kx hf,⟨⟨trivial,aN⟩,ho⟩,by simp only[bq,hl hf,bx,hd hf];rfl⟩) (fun hf=>by simp only[aW.val,hx,Ce,bq,hl hf,iw];exact hv hf) m rfl (fun ha=>h)
end
end
end Go.Abs
section
namespace Go.Abs
def Nx:List aq->D
 |[]=>.aC
 |a::r=>.sl 1 ((a::r).map D.str)
def At:∀l,(Nx l).bG=true
 |[]=>rfl
 |a::r=>rfl
def uy.N (x:uy):Go.Abs.D:=.agg [.str x.name,.int .i64 x.v.major,.int .i64 x.v.minor,.int .i64 x.v.patch,.str x.v.pre,.str x.v.build,.str x.shelf,.int .u64 x.sum,Nx x.feats]
def uy.ow (x:uy):x.N.bG=true:=by
 have:=At x.feats;simp only[uy.N,D.bG,bx,this,iO]
end Go.Abs
namespace Go.Abs
def uy.F (name:aq)(v:cM)(shelf:aq)(sum:Int)(fs:Go.Abs.D):Go.Abs.D:=.agg [.str name,.int .i64 v.major,.int .i64 v.minor,.int .i64 v.patch,.str v.pre,.str v.build,.str shelf,.int .u64 sum,fs]
mutual
theorem Qi (l k:Nat)(es:List D):∀d:D,d.bG=true->hY l k es d=d
 | .agg a,h=>by simp only[hY,pR l k es a (by simpa[D.bG]using h)]
 | .tup a,h=>by simp only[hY,pR l k es a (by simpa[D.bG]using h)]
 | .fn n a,h=>by simp only[hY,pR l k es a (by simpa[D.bG]using h)]
 | .own ..,h=>by simp[D.bG]at h
 | .ptr ..,h=>by simp[D.bG]at h
 | .it ..,h=>by simp[D.bG]at h
 | .any,_| .bool _,_| .int ..,_| .str _,_| .aC,_| .sl ..,_| .ref ..,_| .nilp,_| .nilf,_=>rfl
theorem pR (l k:Nat)(es:List D):∀ds:List D,bx ds=true->iK l k es ds=ds
 |[],_=>rfl
 |d::r,h=>by
  simp only[bx,bh]at h;simp only[iK,Qi l k es d h.1,pR l k es r h.2]
end
end Go.Abs
namespace Go.Abs
end Go.Abs
namespace Go.Abs
end Go.Abs
namespace Go.Abs
end Go.Abs
namespace Go.Abs
end Go.Abs
namespace Go.Abs
end Go.Abs
end
section
namespace Go.Abs
end Go.Abs
namespace Go.Abs
def Kp.eq (a b:Kp):jb (Kp.D a).cells (Kp.D b).cells=decide (a=b):=by
 obtain⟨n1,⟨a1,a2,a3,a4,a5⟩⟩:=a;obtain⟨n2,⟨b1,b2,b3,b4,b5⟩⟩:=b;simp only[Kp.D,D.cells,jb,tK,wP,Kp.mk.injEq,cM.mk.injEq,iO];simp only[Bool.decide_and]
structure uy.ok (n:Nat)(x:uy):Prop where
 pre:x.v.pre.length<=3
 build:x.v.build.length<=2
 name:x.name.length<=16
 shelf:x.shelf.length<=16
 nf:x.feats.length<=n
 ft:∀t∈x.feats,t.length<=16
 sum:0<=x.sum/\x.sum<18446744073709551616
structure Cb.ok (n:Nat)(l:Cb):Prop where
 len:l.lines.length<=4
 lines:∀x∈l.lines,x.ok n
 env:∀i,(l.env.at i).length<=16
def Cb.ok.sm {n:Nat}{l:Cb}(h:l.ok n)(hn:n<=1000):l.sm:=by
 refine⟨by have:=h.len;omega,fun x hx=>?_,fun i=>by have:=h.env i;omega⟩;have k:=h.lines x hx;have k1:=k.pre;have k2:=k.build;have k3:=k.name;have k4:=k.shelf;have k5:=k.nf;exact⟨⟨ae,ae⟩,ae,ae,ae,fun t ht=>by have:=k.ft t ht;omega⟩
def uy.ok.mono {n m:Nat}{x:uy}(h:x.ok n)(hm:n<=m):x.ok m:=⟨h.pre,h.build,h.name,h.shelf,cW h.nf hm,h.ft,h.sum⟩
end Go.Abs
end
namespace Go.Abs
section
def lk {α:Type}:List (Nat×α)->Nat->α->α
 |[],_,d=>d
 |(a,b)::r,n,d=>bif Nat.beq a n then b else lk r n d
structure Row where
 key:Nat
 pre:List D->Prop
 val:List D->D
structure T9 where
 pre:D->List D->Prop
 val:D->List D->D
 new:D->List D->D
def Row.no:Row:=⟨0,fun _=>False,fun _=>.any⟩
def T9.no:T9:=⟨fun _ _=>False,fun _ _=>.any,fun _ _=>.any⟩
section
variable [dy] {P:Program} {ν:List (Nat×Nat)} {cQ:List Nat} {Y:Ctx}
end
end
section
variable [dy]
section
variable {P:Program} {ν:List (Nat×Nat)} {cQ:List Nat} {Y:Ctx}
def RD.re {x x':X}{σ:List (Nat×Nat)}(hw:x'.w=x.w)(hI:x'.I=x.I)(hβ:∀l l',m5 0 σ l=some l'->x'.β l'=x.β l){v:Value}{d d':D}(hv:RD ν x v d)(hd:Mb 0 σ d d'):RD ν x' v d':=by
 rcases hd with⟨rfl,hn⟩|hd|hd
 ·exact hv.bG hn (fun _ h=>by rw[hI];exact h) (fun _ _=>by rw[hw])
 ·exact RD.rn (x:=x) (x':=x') hw hI hβ hv _ hd
 ·exact RD.nl (x:=x) (x':=x') hw hI hv _ hd
def oF.re {x x':X}{σ:List (Nat×Nat)}(hw:x'.w=x.w)(hI:x'.I=x.I)(hβ:∀l l',m5 0 σ l=some l'->x'.β l'=x.β l){b base tot:Nat}{b0 blk:bV}(o2:oF ν x b base tot b0)(q3:se 0 σ b0 blk):oF ν x' b base tot blk:=by
 cases b0 with
 |iter s p=>
  cases blk with
  |iter s' p'=>simp only[se]at q3;obtain⟨rfl,rfl⟩:=q3;simp only[oF,hw]at o2⊢;exact o2
  |_=>simp[se]at q3
 |row s=>
  cases blk with
  |row s'=>simp only[se]at q3;subst q3;simp only[oF,hw]at o2⊢;exact o2
  |_=>simp[se]at q3
 |bld o n u=>
  cases blk with
  |bld o' n' u'=>
   simp only[se]at q3;obtain⟨q3,rfl,rfl⟩:=q3;obtain⟨p1,v,p2,p3⟩:=o2;refine⟨p1,v,by rw[hw];exact p2, ?_⟩;cases o with
   |none=>simp only at q3;subst q3;exact p3
   |some l0=>
    obtain⟨l1,q4,rfl⟩:=q3;obtain⟨g,t,p4,p5,p6⟩:=p3;exact⟨g,t,p4,p5,by rw[hβ l0 l1 q4];exact p6⟩
  |_=>simp[se]at q3
 |buf k es=>
  cases blk with
  |iter s' p'=>simp[se]at q3
  |row s'=>simp[se]at q3
  |bld o' n' u'=>simp[se]at q3
  |buf k' es'=>
   simp only[se]at q3;obtain⟨rfl,q3⟩:=q3;obtain⟨p1,p2,cc,T,fr,p3,p4,p5,p6⟩:=o2;rw[<-hw]at p3;rcases q3 with⟨rfl,hn⟩|q3|q3
   ·exact⟨p1,p2,cc,T,fr,p3,p4,p5,fun i hi=>⟨(p6 i hi).1,fun j hj=>⟨((p6 i hi).2 j hj).1,RD.re hw hI hβ ((p6 i hi).2 j hj).2 (.inl ⟨rfl,lV (dk hn i) j⟩)⟩⟩⟩
   ·obtain⟨r1,r2⟩:=mI q3;refine⟨p1,ae,cc,T,fr,p3,p4,p5,fun i hi=>?_⟩;have hi':i<es.length:=ae;obtain⟨s1,s2⟩:=AD (r2 i hi');exact⟨s1.trans (p6 i hi').1,fun j hj=>⟨((p6 i hi').2 j hj).1,RD.re hw hI hβ ((p6 i hi').2 j hj).2 (.inr (.inl (s2 j (by rw[(p6 i hi').1];exact hj))))⟩⟩
   ·obtain⟨r1,r2⟩:=qv q3;refine⟨p1,ae,cc,T,fr,p3,p4,p5,fun i hi=>?_⟩;have hi':i<es.length:=ae;obtain⟨s1,s2⟩:=zM (r2 i hi');exact⟨s1.trans (p6 i hi').1,fun j hj=>⟨((p6 i hi').2 j hj).1,RD.re hw hI hβ ((p6 i hi').2 j hj).2 (.inr (.inr (s2 j (by rw[(p6 i hi').1];exact hj))))⟩⟩
def G3 {lo c:Nat}{σ:List (Nat×Nat)}{l l':Nat}(h0:iy 0 c σ=true)(h:m5 0 σ l=some l'):l'<c/\(l,l')∈σ:=by
 obtain⟨h1,h2⟩:=uh h0 h;rcases h2 with⟨h2,_⟩|⟨_,h2⟩
 ·omega
 ·exact⟨h1,h2⟩
def tZ {c:Nat}:∀{σ:List (Nat×Nat)}{a b:Nat},iy 0 c σ=true->(a,b)∈σ->m5 0 σ a=some b
 |[],a,b,_,h=>by cases h
 |(a0,b0)::r,a,b,h0,h=>by
  unfold m5;simp only[iy,bh,List.all_eq_true,bn]at h0;obtain⟨_,_,p4,p5⟩:=h0;rcases dr.1 h with h|h
  ·simp only[dc]at h;obtain⟨rfl,rfl⟩:=h;simp
  ·have:=(p4 _ h).1;simp only at this;have hne:Nat.beq a0 a=false:=by
    cases hb:Nat.beq a0 a with
    |false=>rfl
    |true=>obtain rfl:=Nat.eq_of_beq_eq_true hb;simp at this
   rw[hne];exact tZ p5 h
structure Fr (σi σo:List (Nat×Nat))(q q1:Nat)(m0 m1:List (Nat×bV))(st st':St):Prop where
 oki:iy 0 q σi=true
 oko:iy 0 st'.nx σo=true
 nx:st.nx<=st'.nx
 lt:∀l i,(l,i)∈σi->look st.m l≠none
 io:∀i l,(i,l)∈σo->(l,i)∈σi\/st.nx<=l
 m0:∀i b,look m0 i=some b->∃l b',(l,i)∈σi/\look st.m l=some b'/\se 0 σi b' b
 m1:∀l b,look st'.m l=some b->(∃i b1,(i,l)∈σo/\look m1 i=some b1/\se 0 σo b1 b)\/(nA σo l=none/\(∀i,(l,i)∉σi)/\look st.m l=some b)
def MV {fid:Nat}{fn:Func}{af:aJ}{K:D->St->Prop}(hΓ:Ok P ν cQ Y)(hmix:P.follows .mixedOrders=true)(hf:P.funcs[fid]? =some fn)(hc:compile P ν cQ fn=some af)
  {x:X} {args:Array Value} {ds cs:List D} {st:St} {σi:List (Nat×Nat)} {q:Nat} {m0:List (Nat×bV)} (hl:args.size=ds.length) (hargs:∀i,i<ds.length->RD ν x (args.getD i undef) (ds.getD i .any))
  (hs:gh ν x (look st.m)) (hfr:fV st x) (hlen:cs.length=ds.length) (hds:∀i,i<ds.length->Mb 0 σi (ds.getD i .any) (cs.getD i .any)) (hnp:cs.length=af.np)
  (oki:iy 0 q σi=true) (hlt:∀l i,(l,i)∈σi->look st.m l≠none) (hm0:∀i b,look m0 i=some b->∃l b',(l,i)∈σi/\look st.m l=some b'/\se 0 σi b' b)
  (hw:bX (Y.at q) af.body (fun e env st1=>e.home/\qo st1.m env af.res/\∃(σo:List (Nat×Nat)) (q1:Nat) (m1:List (Nat×bV)) (st':St) (vd':D),Fr σi σo q q1 m0 m1 st st'/\Mb 0 σo (me af env st1) vd'/\K vd' st'/\∀i,look st1.m i=look m1 i) (fI af cs) ⟨q,m0⟩):
  Calls P fid args x.w fun
   | .returned v,w'=>∃x' d st',K d st'/\x'.w=w'/\Step x x'/\RD ν x' v d/\gh ν x' (look st'.m)/\fV st' x'
   |_,_=>False:=by
 obtain⟨body,c1,c2,c3,c4,c5,c6⟩:=jv hc
 let x0:X:=⟨x.w,x.I,fun i=>(nA σi i).bind x.β⟩
 have hx0:∀l i,(l,i)∈σi->x0.β i=x.β l:=fun l i h=>by simp only[x0,wT oki h,Option.bind_some]
 have hβ0:∀l i,m5 0 σi l=some i->x0.β i=x.β l:=fun l i h=>hx0 l i (G3 (lo:=0) oki h).2
 have hx0':∀i p,x0.β i=some p->∃l,(l,i)∈σi/\x.β l=some p/\i<q:=by
  intro i p h;obtain⟨l,h1,h2⟩:=Option.bind_eq_some_iff.1 (show(nA σi i).bind x.β=some p from h);exact⟨l,mD h1,h2,rK oki (mD h1)⟩
 have hs0:gh ν x0 (look m0):=by
  refine⟨fun i blk b base tot e1 e2=>?_,fun i j b base tot base' tot' e1 e2 e3 e4=>?_,hs.imm,fun i b base tot e=>?_,dy.le x _ (fun _ h=>h) (fun _ _=>rfl) hs.gd⟩
  ·obtain⟨l,b',h1,h2,h3⟩:=hm0 i blk e1;rw[hx0 l i h1]at e2;obtain⟨o1,o2⟩:=hs.own l b' b base tot h2 e2;exact⟨o1,oF.re (x:=x) (x':=x0) rfl rfl hβ0 o2 h3⟩
  ·obtain⟨l,h1,h2,_⟩:=hx0' i _ e3;obtain⟨l',h1',h2',_⟩:=hx0' j _ e4;have:=hs.inj l l' b base tot base' tot' (hlt _ _ h1) (hlt _ _ h1') h2 h2';subst this;have:=tZ oki h1;rw[tZ oki h1']at this;exact(bC this).symm
  ·obtain⟨l,_,h2,_⟩:=hx0' i _ e;exact hs.eS l b base tot h2
 have hf0:fV ⟨q,m0⟩ x0:=by
  refine⟨fun i hi=>?_,fun i hi=>?_⟩
  ·cases h:x0.β i with
   |none=>rfl
   |some p=>obtain⟨_,_,_,h4⟩:=hx0' i p h;simp only at hi;omega
  ·cases h:look m0 i with
   |none=>exact absurd h hi
   |some b=>obtain⟨l,b',h1,_⟩:=hm0 i b h;exact rK oki h1
 have hi:=vz (P:=P) (ν:=ν) (cQ:=cQ) (x:=x0) (ds:=cs) (st:=⟨q,m0⟩) c4 c5 c6 (args:=args) ae hnp (fun i hi=>RD.re (x:=x) (x':=x0) rfl rfl hβ0 (hargs i ae) (hds i ae)) hs0 hf0;have hcs:=sO (C:={P,ν,cQ,slots:=slotsOf fn,ntmps:=fn.ntmps,vm:=I0 P fn}) (hΓ.at q) (oC fn).1 hmix x0 (fun l h=>hf0.β l h) body af.body c2 _ _ _ _ x0 hw hi (.refl _);refine calls_of_wp hf c1 (wp_mono hcs fun e a w' hp=>?_);obtain⟨e',x',env',st1,he,hxw,hst,hi',hh,hro,σo,q1,m1,st',vd',hfm,hvd,hK,hlk⟩:=hp;subst hxw;obtain⟨v,r1,r2,r3⟩:=rq hi' c3 hro
 let x2:X:=⟨x'.w,x'.I,fun l=>match nA σo l with|some i=>x'.β i|none=>x.β l⟩
 have hx2:∀i l,(i,l)∈σo->x2.β l=x'.β i:=fun i l h=>by simp only[x2,wT hfm.oko h]
 have hx2n:∀l,nA σo l=none->x2.β l=x.β l:=fun l h=>by simp only[x2,h]
 have hβ2:∀i l,m5 0 σo i=some l->x2.β l=x'.β i:=fun i l h=>hx2 i l (G3 (lo:=0) hfm.oko h).2
 have hx0s:∀l i p,(l,i)∈σi->x.β l=some p->x'.β i=some p:=fun l i p h e=>hst.β _ _ (by rw[hx0 l i h];exact e)

 have hnew:∀i p,x'.β i=some p->(∃l,(l,i)∈σi/\x.β l=some p)\/x.w.heap.size<=p.1\/∃l p',(∃j,(l,j)∈σi)/\x.β l=some p'/\p'.1=p.1:=by
  intro i p e;rcases hst.newβ i p e with h|h|⟨j,p',h1,h2⟩
  ·obtain⟨l,h3,h4,_⟩:=hx0' i p h;exact .inl ⟨l,h3,h4⟩
  ·exact .inr (.inl h)
  ·obtain⟨l,h3,h4,_⟩:=hx0' j p' h1;exact .inr (.inr ⟨l,p',⟨j,h3⟩,h4,h2⟩)
 have hstep:Step x x2:=by
  refine⟨hst.os,hst.tape,hst.output,hst.size,hst.I,hst.pU,fun l p hp=>?_,fun b hb hn=>hst.old b hb fun i p h e=>?_,fun b h=>?_,fun l p h=>?_⟩
  ·cases h:nA σo l with
   |none=>rw[hx2n l h];exact hp
   |some i=>
    have hm:=mD h;rw[hx2 i l hm];rcases hfm.io i l hm with h2|h2
    ·exact hx0s l i p h2 hp
    ·rw[hfr.β l h2]at hp;cases hp
  ·obtain⟨l,_,h2,_⟩:=hx0' i p h;exact hn l p h2 e
  ·rcases hst.newI b h with h|h|⟨i,p,h1,h2⟩
   ·exact .inl h
   ·exact .inr (.inl h)
   ·obtain⟨l,_,h3,_⟩:=hx0' i p h1;exact .inr (.inr ⟨l,p,h3,h2⟩)
  ·cases h1:nA σo l with
   |none=>rw[hx2n l h1]at h;exact .inl h
   |some i=>
    have hm:=mD h1;rw[hx2 i l hm]at h;rcases hnew i p h with⟨l',h2,h3⟩|h2|⟨l',p',_,h3,h4⟩
    ·exact .inr (.inr ⟨l',p,h3,rfl⟩)
    ·exact .inr (.inl h2)
    ·exact .inr (.inr ⟨l',p',h3,h4⟩)
 have hsim:gh ν x2 (look st'.m):=by
  refine⟨fun l blk b base tot e1 e2=>?_,fun l1 l2 b base tot base' tot' e1 e2 e3 e4=>?_,hi'.ov.imm,fun l b base tot e=>?_,dy.le x' _ (fun _ h=>h) (fun _ _=>rfl) hi'.ov.gd⟩
  ·rcases hfm.m1 l blk e1 with⟨i,b1,h1,h2,h3⟩|⟨h1,h2,h3⟩
   ·rw[hx2 i l h1]at e2;obtain⟨o1,o2⟩:=hi'.ov.own i b1 b base tot (by rw[hlk];exact h2) e2;exact⟨o1,oF.re (x:=x') (x':=x2) rfl rfl hβ2 o2 h3⟩
   ·rw[hx2n l h1]at e2;obtain⟨o1,o2⟩:=hs.own l blk b base tot h3 e2;have hlt:=hs.eS l b base tot e2;have hno:∀i p,x0.β i=some p->p.1≠b:=by
     rintro i ⟨b',base',tot'⟩ h e;simp only at e;subst e;obtain⟨l',h4,h5,_⟩:=hx0' i _ h;have:=hs.inj l' l b' base' tot' base tot (hfm.lt _ _ h4) (by rw[h3];simp) h5 e2;subst this;exact h2 _ h4
    refine⟨fun h=>?_,o2.mono hstep.le (hst.old b hlt hno)⟩;rcases hst.newI b h with h|h|⟨i,p,h4,h5⟩
    ·exact o1 h
    ·exact absurd hlt (Nat.not_lt.2 h)
    ·exact hno i p h4 h5
  ·have mix:∀l1 l2 base tot base' tot',(∃i b1,(i,l1)∈σo/\look m1 i=some b1)->nA σo l2=none->(∀i,(l2,i)∉σi)->look st.m l2≠none->x2.β l1=some (b,base,tot)->x2.β l2=some (b,base',tot')->False:=by
    rintro l1 l2 base tot base' tot' ⟨i,b1,h1,h2⟩ h3 h4 h5 e3 e4;rw[hx2 i l1 h1]at e3;rw[hx2n l2 h3]at e4;rcases hnew i _ e3 with⟨l',h6,h7⟩|h6|⟨l',⟨pb,pt,pq⟩,⟨j,h6⟩,h7,h8⟩
    ·have:=hs.inj l' l2 b base tot base' tot' (hfm.lt _ _ h6) h5 h7 e4;subst this;exact h4 _ h6
    ·have:=hs.eS l2 b base' tot' e4;simp only at h6;omega
    ·simp only at h8;subst h8;have:=hs.inj l' l2 pb pt pq base' tot' (hfm.lt _ _ h6) h5 h7 e4;subst this;exact h4 _ h6
   cases f1:look st'.m l1 with
   |none=>exact absurd f1 e1
   |some b1=>
    cases f2:look st'.m l2 with
    |none=>exact absurd f2 e2
    |some b2=>
     rcases hfm.m1 l1 b1 f1 with⟨i,c1,h1,h2,_⟩|⟨h1,h2,h3⟩<;>rcases hfm.m1 l2 b2 f2 with⟨j,c2,k1,k2,_⟩|⟨k1,k2,k3⟩
     ·rw[hx2 i l1 h1]at e3;rw[hx2 j l2 k1]at e4;have:=hi'.ov.inj i j b base tot base' tot' (by rw[hlk,h2];simp) (by rw[hlk,k2];simp) e3 e4;subst this;have:=tZ hfm.oko h1;rw[tZ hfm.oko k1]at this;exact(bC this).symm
     ·exact(mix l1 l2 base tot base' tot' ⟨i,c1,h1,h2⟩ k1 k2 (by rw[k3];simp) e3 e4).elim
     ·exact(mix l2 l1 base' tot' base tot ⟨j,c2,k1,k2⟩ h1 h2 (by rw[h3];simp) e4 e3).elim
     ·rw[hx2n l1 h1]at e3;rw[hx2n l2 k1]at e4;exact hs.inj l1 l2 b base tot base' tot' (by rw[h3];simp) (by rw[k3];simp) e3 e4
  ·cases h1:nA σo l with
   |none=>rw[hx2n l h1]at e;exact eX (hs.eS l b base tot e) hst.size
   |some i=>
    rw[hx2 i l (mD h1)]at e;exact hi'.ov.eS i b base tot e
 have hfr2:fV st' x2:=by
  refine⟨fun l hl=>?_,fun l hl=>?_⟩
  ·cases h1:nA σo l with
   |none=>rw[hx2n l h1];exact hfr.β l (by have:=hfm.nx;omega)
   |some i=>have:=rK hfm.oko (mD h1);omega
  ·cases f1:look st'.m l with
   |none=>exact absurd f1 hl
   |some b1=>
    rcases hfm.m1 l b1 f1 with⟨i,c1,h1,_⟩|⟨_,_,h3⟩
    ·exact rK hfm.oko h1
    ·have:=hfr.m l (by rw[h3];simp);have:=hfm.nx;omega
 have hrd:=RD.re (ν:=ν) (x:=x') (x':=x2) rfl rfl hβ2 r2 hvd;rcases Ex.By hh with h|h<;>rw[h]at he<;>subst he<;>exact⟨hi'.defers,v,r1,x2,vd',st',hK,rfl,hstep,hrd,hsim,hfr2⟩
end
end
section
structure Ua where
 tr:List D->St->(D->St->Prop)->Prop
 mu:List D->St->Nat
 mono:∀(ds:List D) (st:St) (K K':D->St->Prop),(∀d st',K d st'->K' d st')->tr ds st K->tr ds st K'
def Ua.no:Ua:=⟨fun _ _ _=>False,fun _ _=>0,fun _ _ _ _ _ h=>h⟩
def lu (af:aJ)(Q:D->List (Nat×bV)->Prop):Ex->List ca->St->Prop:=fun e env st=>e.home/\qo st.m env af.res/\∃m1,(∀i,look st.m i=look m1 i)/\Q (me af env st) m1
def bZ {af:aJ}{Q:D->List (Nat×bV)->Prop}{vd:D}{m1:List (Nat×bV)}{e:Ex}{env:List ca}{st:St}(h1:e.home)(h2:qo st.m env af.res)(h3:me af env st=vd)(h4:st.m=m1)(h5:Q vd m1):lu af Q e env st:=⟨h1,h2,m1,fun i=>by rw[h4],by rw[h3];exact h5⟩
def One (vd:D)(m1:List (Nat×bV)):D->List (Nat×bV)->Prop:=fun d m=>d=vd/\m=m1
def oneq (vd:D)(m1:List (Nat×bV)):One vd m1 vd m1:=⟨rfl,rfl⟩
section
variable [dy] {P:Program} {ν:List (Nat×Nat)} {cQ:List Nat} {Y:Ctx}
def Jy (P:Program)(ν:List (Nat×Nat))(Γ':Ctx)(cQ:List Nat)(tr:List D->St->(D->St->Prop)->Prop)(fid:Nat):Prop:=
 ∀(ds:List D) (st:St) (K:D->St->Prop),tr ds st K->Ok P ν cQ Γ'->∀(x:X) (args:Array Value),args.size=ds.length->(∀i,i<ds.length->RD ν x (args.getD i undef) (ds.getD i .any))->gh ν x (look st.m)->fV st x->
  j6 P x (fun v x'=>∃d st',K d st'/\Step x x'/\RD ν x' v d/\gh ν x' (look st'.m)/\fV st' x') ((callFunc fid args).run P x.w)
end
end
end Go.Abs
