/- A part of the proofs. -/
import Derived.Scope
import Derived.Test.YtgnjlompgjhaaaaGreatDoorP03
set_option linter.all false
set_option maxRecDepth 60000
set_option maxHeartbeats 2000000
namespace Go.Abs
section
variable [dS]
section
variable {C:CC} {Y:Ctx}
structure Inv (C:CC)(a:Act)(x:X)(env:List ch)(st:St):Prop where
 len:env.length=C.slots.length
 env:∀n t:Nat,C.slots[n]? =some t->(env.getD n .un).ok=true->RD C.ν x (a.tmps.getD t undef) (env.getD n .un).d
 size:a.tmps.size=C.ntmps
 defers:a.defers=[]
 oZ:gE C.ν x (look st.m)
 fresh:gB st x
def Inv.VK {a:Act}{x:X}{env:List ch}{st:St}(h:Inv C a x env st)(DD:List (Option Nat))(VS:List ch){D:Nat->Prop}(hD:∀p,¬D p):Ct C env DD VS D a x:=
 ⟨fun p t hp=>absurd hp (hD p),fun p t hp=>absurd hp (hD p),fun n t hn _ ho=>h.env n t hn ho,h.size,h.defers⟩
def AF (vs:List ch):∀(cm:List (Nat×Nat)) (env:List ch),(ja env vs cm).length=env.length
 |[],env=>rfl
 |(s,p)::r,env=>by simp only[ja];rw[AF vs r];simp
def Dn {α:Type}(l:List α)(i j:Nat)(v d:α)(h:i<l.length):(l.set i v).getD j d=if j=i then v else l.getD j d:=by
 grind
def ui (hnd:C.slots.Nodup)(vs:List ch):∀(ops:List Oper) (p:Nat) (env:List ch) (n t:Nat),C.slots[n]? =some t->env.length=C.slots.length->
  ((∀(j:Nat) (o:Oper),ops[j]? =some o->o.dst≠some t)->(ja env vs (C.iC p ops)).getD n .un=env.getD n .un)/\
  (∀(j:Nat) (o:Oper),ops[j]? =some o->o.dst=some t->(∀(j':Nat) (o':Oper),ops[j']? =some o'->o'.dst=some t->j'=j)->(ja env vs (C.iC p ops)).getD n .un=vs.getD (p+j) .un)
 |[],p,env,n,t,hn,hl=>⟨fun _=>rfl,fun j o h=>by simp at h⟩
 |o::r,p,env,n,t,hn,hl=>by
  have hnl:n<C.slots.length:=(List.getElem?_eq_some_iff.1 hn).1;cases hb:o.dst.bind (yK C.slots)with
  |none=>
   have e:C.iC p (o::r)=C.iC (p+1) r:=by simp[CC.iC,hb]
   rw[e];obtain⟨a1,a2⟩:=ui hnd vs r (p+1) env n t hn hl;have hne:o.dst≠some t:=fun e=>by rw[e,Option.bind_some,E6 _ _ _ hnd hn]at hb;cases hb
   refine⟨fun h=>a1 fun j o' hj=>h (j+1) o' (by simpa using hj),fun j o' hj hd hu=>?_⟩;cases j with
   |zero=>simp at hj;subst hj;exact absurd hd hne
   |succ j=>
    rw[show p+(j+1)=p+1+j by omega];exact a2 j o' (by simpa using hj) hd fun j' o'' hj' hd'=>by have:=hu (j'+1) o'' (by simpa using hj') hd';omega
  |some s=>
   have e:C.iC p (o::r)=(s,p)::C.iC (p+1) r:=by simp[CC.iC,hb]
   rw[e];simp only[ja];obtain⟨t',ht',hs⟩:=Option.bind_eq_some_iff.1 hb;have hsl:=pZ _ _ _ hs;have hslen:s<env.length:=by rw[hl];exact(List.getElem?_eq_some_iff.1 hsl).1
   obtain⟨a1,a2⟩:=ui hnd vs r (p+1) (env.set s (vs.getD p .un)) n t hn (by simpa using hl);have hst:s=n↔t'=t:=by
    constructor
    .rintro rfl;rw[hsl]at hn;exact bL hn
    .rintro rfl;have:=E6 _ _ _ hnd hn;rw[hs]at this;exact bL this
   refine⟨fun h=>?_,fun j o' hj hd hu=>?_⟩
   .have hne:t'≠t:=fun e=>h 0 o aJ (by rw[ht',e])
    rw[a1 fun j o' hj=>h (j+1) o' (by simpa using hj),Dn _ _ _ _ _ hslen,ak (fun e=>hne (hst.1 e.symm))]
   .cases j with
    |zero=>
     simp at hj;subst hj;have ht:t'=t:=by rw[ht']at hd;exact bL hd
     rw[a1 fun j o' hj hd'=>by have:=hu (j+1) o' (by simpa using hj) hd';omega,Dn _ _ _ _ _ hslen,aw (hst.2 ht).symm];simp
    |succ j=>
     rw[show p+(j+1)=p+1+j by omega];exact a2 j o' (by simpa using hj) hd fun j' o'' hj' hd'=>by have:=hu (j'+1) o'' (by simpa using hj') hd';omega
def wX (hnd:C.slots.Nodup){ops:Array Oper}{l:List GI}(hsp:Spec C ops.toList l){env VS:List ch}{a:Act}{x:X}{st:St}(hlen:env.length=C.slots.length)(hm:Ct C env (ops.toList.map (·.dst)) VS (· <ops.size) a x)
  (hs:gE C.ν x (look st.m)) (hf:gB st x):Inv C a x (ja env VS (C.iC 0 ops.toList)) st:=by
 refine⟨by rw[AF];exact hlen,fun n t hn ho=>?_,hm.size,hm.defers,hs,hf⟩;obtain⟨c1,c2⟩:=ui hnd VS ops.toList 0 env n t hn hlen;by_cases hw:∃j:Nat,(ops.toList.map (·.dst))[j]? =some (some t)
 .obtain⟨j,hj⟩:=hw;have hj':=hj;rw[List.getElem?_map,ea]at hj';obtain⟨o,ho1,ho2⟩:=hj';have e:=c2 j o ho1 ho2 fun j' o' h1 h2=>hsp.distinct hj (by rw[List.getElem?_map,h1,Option.map_some,h2])
  rw[bR]at e;rw[e]at ho⊢;have hjl:j<ops.size:=by simpa using(List.getElem?_eq_some_iff.1 ho1).1
  exact hm.val j t hjl hj ho
 .have hw':∀j:Nat,(ops.toList.map (·.dst))[j]? ≠some (some t):=fun j e=>hw ⟨j,e⟩
  rw[c1 fun j o h1 h2=>hw' j (by rw[List.getElem?_map,h1,Option.map_some,h2])]at ho⊢;exact hm.old n t hn (fun p _=>hw' p) ho
def RC {a:Act}{x:X}{env:List ch}{st:St}(h:Inv C a x env st){c:Operand}{s:Src}(hc:C.src [] c=some s)(hok:(s.ev env []).ok=true):RD C.ν x (a.eval c) (s.ev env []).d:=
 ((h.VK [] [] (D:=fun _=>False) (fun _ h=>h)).rho (i:=0) (os:=[c]) (fun t p _ hp=>by simp at hp)) c (.head _) s (by simpa using hc) (by simpa using hok)
def Ex.of:Ex->Exit
 | .normal=>.normal
 | .exit id=>.exit id
 | .ret=>.ret
def Post (C:CC)(Q:Ex->List ch->St->Prop)(x0:X):Exit->Act->World->Prop:=fun e a w=>∃e' x' env' st',Ex.of e'=e/\x'.w=w/\Step x0 x'/\Inv C a x' env' st'/\Q e' env' st'
def Inv.weak {a:Act}{x:X}{env env':List ch}{nx:Nat}{m m':List (Nat×bX)}(h:Inv C a x env ⟨nx,m⟩)(hl:Zf env env')(hm:TV m m'):Inv C a x env' ⟨nx,m'⟩:=by
 have hle:∀(e e':List ch),Zf e e'->e'.length=e.length/\∀n,e'.getD n .un=e.getD n .un\/e'.getD n .un=.un:=by
  intro e;induction e with
  |nil=>intro e' h;cases e'<;>simp_all[Zf]
  |cons b r ih=>
   intro e' h;cases e' with
   |nil=>simp[Zf]at h
   |cons b' r'=>
    simp only[Zf]at h;obtain⟨i1,i2⟩:=ih r' h.2;refine⟨by simp[i1],fun n=>?_⟩;cases n with
    |zero=>simpa using h.1
    |succ n=>simpa using i2 n
 have hsub:∀(m':List (Nat×bX)),TV m m'->∀l b,look m' l=some b->look m l=some b:=by
  intro m';induction m' with
  |nil=>intro _ l b h;simp[look]at h
  |cons p r ih=>
   grind [TV,look]
 obtain⟨l1,l2⟩:=hle env env' hl;refine⟨l1.trans h.len,fun n t hn ho=>?_,h.size,h.defers,h.oZ.less fun l=>?_,h.fresh.β,fun l hl'=>?_⟩
 .rcases l2 n with e|e
  .rw[e]at ho⊢;exact h.env n t hn ho
  .rw[e];exact .any _
 .cases hl':look m' l with
  |none=>exact .inr (.inl rfl)
  |some b=>exact .inl (hsub m' hm l b hl').symm
 .cases hl2:look m' l with
  |none=>exact absurd hl2 hl'
  |some b=>exact h.fresh.m l (by show look m l≠none;rw[hsub m' hm l b hl2];simp)
theorem yX.cells {d d':D}(h:yX d d'):d'.cells.length=d.cells.length/\∀j,yX (d.cells.getD j .any) (d'.cells.getD j .any):=by
 cases h with
 |refl=>exact⟨rfl,fun j=>.refl _⟩
 |nil k=>exact⟨rfl,fun j=>by match j with
  |0=>exact .nil k
  |j+1=>exact .refl _⟩
 |agg a b hl h=>exact⟨hl,h⟩
 |sl k a b hl h=>exact⟨rfl,fun j=>by match j with
  |0=>exact .sl k a b hl h
  |j+1=>exact .refl _⟩
def yX.bJ {d d':D}(h:yX d d')(hn:d.bJ=true):d'.bJ=true:=by
 induction h with
 |refl=>exact hn
 |nil k=>rfl
 |agg a b hl h ih=>exact r9 fun i _=>ih i (dn hn i)
 |sl k a b hl h ih=>rfl
def RD.wk {ν:List (Nat×Nat)}{x:X}{v:Value}{d d':D}(hv:RD ν x v d)(hw:yX d d'):RD ν x v d':=by
 induction hv generalizing d' with
 |agg cs ds hl h1 h ih=>
  cases hw with
  |refl=>exact .agg cs ds hl h1 h
  |agg _ b hl2 h2=>exact .agg cs b (hl.trans hl2.symm) (fun i hi=>h1 i ae) (fun i hi=>ih i ae (h2 i))
 |sl a b off len cap k es c hlen ha hcap hm hk hn hc h1 h ih=>
  cases hw with
  |refl=>exact .sl a b off len cap k es c hlen ha hcap hm hk hn hc h1 h
  |sl _ _ es' hl2 h2=>
   refine .sl a b off len cap k es' c (hlen.trans hl2.symm) (ha.imp (fun e=>mH (by rw[hl2,e];rfl)) id) hcap hm (fun i hi=>(h2 i).cells.1.trans (hk i hi)) (fun i hi=>(h2 i).bJ (hn i hi)) hc h1 (fun i j hi hj=>ih i j hi hj ((h2 i).cells.2 j))
 |bq=>
  cases hw with
  |refl=>exact .bq
  |nil k=>exact .sl none 0 0 0 0 k [] (fun _ _=>undef) rfl (.inl rfl) (aL _) (Nat.zero_le _) (fun i hi=>ae) (fun i hi=>ae) (fun i j hi=>ae) (fun i j hi=>ae) (fun i j hi=>ae)
 |any v=>cases hw;exact .any v
 |bool b=>cases hw;exact .bool b
 |int k n=>cases hw;exact .int k n
 |str s h=>cases hw;exact .str s h
 |tup cs ds hl h ih=>cases hw;exact .tup cs ds hl h
 |ref b off k i o at_ es c hI hat hk hn hc h1 h ih=>cases hw;exact .ref b off k i o at_ es c hI hat hk hn hc h1 h
 |ptr l k i o b base tot at_ hβ hat=>cases hw;exact .ptr l k i o b base tot at_ hβ hat
 |own l k i n b base tot cap a hβ ha hcap hm ht=>cases hw;exact .own l k i n b base tot cap a hβ ha hcap hm ht
 |own0 l k i a=>cases hw;exact .own0 l k i a
 |nilp=>cases hw;exact .nilp
 |fn fid n cs ds hν hl h ih=>cases hw;exact .fn fid n cs ds hν hl h
 |fe fid n fs ds hν hl h ih=>cases hw;exact .fe fid n fs ds hν hl h
 |mp r es cl ds hI hh hl h ih=>cases hw;exact .mp r es cl ds hI hh hl h
 |bx b at_ ds v hI hc h1 hl h ih=>cases hw;exact .bx b at_ ds v hI hc h1 hl h
 |nilf=>cases hw;exact .nilf
 |it l b base tot hβ=>cases hw;exact .it l b base tot hβ
def pC.wk {ν:List (Nat×Nat)}{x:X}{b base tot:Nat}{blk blk':bX}(h:pC ν x b base tot blk)(hw:Z6 blk blk'):pC ν x b base tot blk':=by
 match blk,blk',hw with
 | .buf k es,.buf k' es',hw=>
  obtain⟨rfl,hl,h2⟩:=hw;obtain⟨p1,p2,c,T,fr,p3,p4,p5,p6⟩:=h;refine⟨p1,ae,c,T,fr,p3,p4,p5,fun i hi=>⟨(h2 i).cells.1.trans (p6 i ae).1,fun j hj=>⟨((p6 i ae).2 j hj).1,((p6 i ae).2 j hj).2.wk ((h2 i).cells.2 j)⟩⟩⟩
 | .buf k es,.iter s p,hw=>cases hw
 | .buf k es,.row s,hw=>cases hw
 | .buf k es,.bld o n u,hw=>cases hw
 | .iter s p,b',hw=>simp only[Z6]at hw;subst hw;exact h
 | .row s,b',hw=>simp only[Z6]at hw;subst hw;exact h
 | .bld o n u,b',hw=>simp only[Z6]at hw;subst hw;exact h
def Inv.nz {a:Act}{x:X}{env env':List ch}{nx:Nat}{m m':List (Nat×bX)}(h:Inv C a x env ⟨nx,m⟩)(hl:WZ env env')(hm:Oi m m'):Inv C a x env' ⟨nx,m'⟩:=by
 have hle:∀(e e':List ch),WZ e e'->e'.length=e.length/\∀n,(e'.getD n .un).ok=(e.getD n .un).ok/\yX (e.getD n .un).d (e'.getD n .un).d:=by
  intro e;induction e with
  |nil=>
   intro e' h;cases e' with
   |nil=>exact⟨rfl,fun n=>⟨rfl,.refl _⟩⟩
   |cons _ _=>exact h.elim
  |cons b r ih=>
   intro e' h;cases e' with
   |nil=>exact h.elim
   |cons b' r'=>
    obtain⟨i1,i2⟩:=ih r' h.2;refine⟨by simp[i1],fun n=>?_⟩;cases n with
    |zero=>simpa using h.1
    |succ n=>simpa using i2 n
 have hsub:∀(m':List (Nat×bX)),Oi m m'->∀l b',look m' l=some b'->∃b,look m l=some b/\Z6 b b':=by
  intro m';induction m' with
  |nil=>intro _ l b h;simp[look]at h
  |cons p r ih=>
   obtain⟨l0,b0⟩:=p;intro hs l b h;simp only[look]at h;split at h
   .rename_i e;subst e;obtain rfl:=bL h;exact hs.1
   .exact ih hs.2 l b h
 obtain⟨l1,l2⟩:=hle env env' hl;have live:∀l,look m' l≠none->look m l≠none:=fun l hl'=>by
  cases hl2:look m' l with
  |none=>exact absurd hl2 hl'
  |some b=>obtain⟨b0,q1,_⟩:=hsub m' hm l b hl2;rw[q1];simp
 refine⟨l1.trans h.len,fun n t hn ho=>?_,h.size,h.defers,⟨fun l blk b base tot e1 e2=>?_,fun l l' b base tot base' tot' e1 e2 e3 e4=>h.oZ.inj l l' b base tot base' tot' (live l e1) (live l' e2) e3 e4,h.oZ.imm,h.oZ.fe,h.oZ.gd⟩,h.fresh.β,fun l hl'=>h.fresh.m l (live l hl')⟩
 .obtain⟨q1,q2⟩:=l2 n;rw[q1]at ho;exact(h.env n t hn ho).wk q2
 .obtain⟨b0,q1,q2⟩:=hsub m' hm l blk e1;obtain⟨o1,o2⟩:=h.oZ.own l b0 b base tot q1 e2;exact⟨o1,o2.wk q2⟩
def OS (l k:Nat)(es:List D)(d:D):(iL l k es d).cells.length=d.cells.length/\∀j,(iL l k es d).cells.getD j .any=iL l k es (d.cells.getD j .any):=by
 cases d
 case agg cs=>exact⟨by simp[iL,D.cells,gO],fun j=>by simp only[iL,D.cells];exact lg l k es cs j⟩
 case own l' k' i n=>
  grind [iL,D.cells]
 case ptr l' k' i o=>
  grind [iL,D.cells]
 all_goals exact⟨by simp[iL,D.cells],fun j=>by cases j<;>simp[iL,D.cells]⟩
def Lo (l k:Nat)(es:List D):∀e:List ch,(lf l k es e).length=e.length
 |[]=>rfl
 |⟨ok,d⟩::r=>by simp[lf,Lo l k es r]
def GS (l k:Nat)(es:List D):∀(e:List ch) (i:Nat),(lf l k es e).getD i .un=⟨(e.getD i .un).ok,iL l k es (e.getD i .un).d⟩
 |[],i=>by simp[lf,iL,ch.un]
 |⟨ok,d⟩::r,0=>by simp[lf]
 |⟨ok,d⟩::r,i+1=>by simpa[lf]using GS l k es r i
def Hj (l k:Nat)(es:List D)(l':Nat):∀m:List (Nat×bX),look (lQ l k es m) l'=(look m l').map (nk l k es)
 |[]=>rfl
 |(a,b)::r=>by
  simp only[lQ,look];split
  .rfl
  .exact Hj l k es l' r
def Inv.QF {a:Act}{x:X}{env:List ch}{nx:Nat}{m:List (Nat×bX)}(h:Inv C a x env ⟨nx,m⟩)(l:Nat):∃x':X,x'.w=x.w/\Step x x'/\Inv C a x' (Abs.QF l (env,m)).1 ⟨nx,(Abs.QF l (env,m)).2⟩:=by
 have hsame:∃x':X,x'.w=x.w/\Step x x'/\Inv C a x' env ⟨nx,m⟩:=⟨x,rfl,.refl x,h⟩
 simp only[Abs.QF];split
 .rename_i k es hlk;cases hn:bH es with
  |false=>exact hsame
  |true=>
   simp only[cond_true]
   let x':X:=⟨x.w,fun b=>x.I b\/∃p,x.β l=some p/\p.1=b,x.β⟩
   have hle:Le x x':=⟨fun _ h=>.inl h,fun _ _=>rfl,fun _ _ h=>h⟩;have ho:∀b base tot,x.β l=some (b,base,tot)->x'.I b/\(∀i,i<es.length->(es.getD i .any).cells.length=k)/\∃c:Nat->Nat->Value,∀i j,i<es.length->j<k->
     x'.w.cell? ⟨b,base+i*k+j,none⟩=some (c i j)/\(c i j).oneCell'=true/\RD C.ν x' (c i j) ((es.getD i .any).cells.getD j .any):=by
    intro b base tot hβ;obtain⟨o1,o2,o3,c,T,fr,o4,o5,o6,o7⟩:=h.oZ.own l _ b base tot hlk hβ;refine⟨.inr ⟨_,hβ,rfl⟩,fun i hi=>(o7 i hi).1,fun i j=>c.getD (base+i*k+j) undef,fun i j hi hj=>⟨?_,((o7 i hi).2 j hj).1,((o7 i hi).2 j hj).2.mono hle⟩⟩;exact cell_of_heap o4 (by have:=jU (tot:=tot) (show i<tot by omega) hj;omega)
   have hrd:∀{v:Value} {d:D},RD C.ν x v d->RD C.ν x' v (iL l k es d):=fun hv=>hv.fz hle hn ho
   refine⟨x',rfl,⟨rfl,rfl,rfl,aL _,fun _ h=>.inl h,fun _ _=>rfl,fun _ _ h=>h,fun _ _ _=>rfl,fun b hb=>?_,fun _ _ h=>.inl h⟩, ?_⟩
   .rcases hb with hb|⟨p,h1,h2⟩
    .exact .inl hb
    .exact .inr (.inr ⟨l,p,h1,h2⟩)
   .have hlook:∀l',look (lQ l k es (cJ m l)) l'=if l'=l then none else(look m l').map (nk l k es):=fun l'=>by
     rw[Hj,fV];split<;>rfl
    refine⟨by rw[Lo];exact h.len,fun n t hn' hok=>?_,h.size,h.defers,⟨fun l' blk b base tot e1 e2=>?_,fun l1 l2 b base tot base' tot' e1 e2 e3 e4=>?_,fun b hb=>?_,h.oZ.fe,rW hle h.oZ.gd⟩,⟨h.fresh.β,fun l' hl'=>?_⟩⟩
    .rw[GS]at hok⊢;exact hrd (h.env n t hn' hok)
    .simp only[hlook]at e1;split at e1
     .cases e1
     .rename_i hne;rw[ea]at e1;obtain⟨blk0,e3,rfl⟩:=e1;obtain⟨o1,o2⟩:=h.oZ.own l' blk0 b base tot e3 e2;refine⟨?_, ?_⟩
      .rintro(hb|⟨⟨b',base',tot'⟩,h1,h2⟩)
       .exact o1 hb
       .simp only at h2;subst h2;exact hne (h.oZ.inj l' l b' base tot base' tot' (by simp only;rw[e3];simp) (by simp only;rw[hlk];simp) e2 h1)
      .cases blk0 with
       |iter s pos=>exact o2
       |row s=>exact o2
       |bld o n u=>exact o2
       |buf k' es'=>
        obtain⟨p1,p2,c,T,fr,p3,p4,p5,p6⟩:=o2;refine⟨p1,by rw[gO];exact p2,c,T,fr,p3,p4,p5,fun i hi=>?_⟩;rw[gO]at hi;obtain⟨q1,q2⟩:=OS l k es (es'.getD i .any);rw[lg,q1];refine⟨(p6 i hi).1,fun j hj=>⟨((p6 i hi).2 j hj).1, ?_⟩⟩;rw[q2];exact hrd ((p6 i hi).2 j hj).2
    .simp only[hlook]at e1 e2;refine h.oZ.inj l1 l2 b base tot base' tot' ?_ ?_ e3 e4
     .intro e;simp[e]at e1
     .intro e;simp[e]at e2
    .rcases hb with hb|⟨⟨b',base',tot'⟩,h1,h2⟩
     .exact h.oZ.imm b hb
     .simp only at h2;subst h2;exact h.oZ.fe l _ _ _ h1
    .simp only[hlook]at hl';refine h.fresh.m l' ?_;intro e;simp only at e;simp[e]at hl'
 .exact hsame
theorem ke {lo:Nat}{σ:List (Nat×Nat)}:∀{ds ds':List D},oO lo σ ds=some ds'->ds'.length=ds.length/\∀i,i<ds.length->ra lo σ (ds.getD i .any)=some (ds'.getD i .any)
 |[],ds',h=>by simp[oO]at h;subst h;exact⟨rfl,fun i hi=>by simp at hi⟩
 |d::r,ds',h=>by
  simp only[oO]at h;split at h
  .rename_i d' r' h1 h2;simp only[bh]at h;subst h;obtain⟨a1,a2⟩:=ke h2
   grind
  .cases h
theorem oP {lo:Nat}{σ:List (Nat×Nat)}{l:Nat}{f:Nat->D}{d:D}(h:CR lo σ l f=some d):∃l',lU lo σ l=some l'/\d=f l':=by
 grind [CR]
def vZ {lo c:Nat}:∀{σ:List (Nat×Nat)}{l l':Nat},gT lo c σ=true->lU lo σ l=some l'->l'<c/\(l<lo/\l'=l\/lo<=l'/\(l,l')∈σ)
 |[],l,l',h0,h=>by
  unfold lU at h;simp only[gT,Nat.ble_eq]at h0;cases hb:Nat.blt l lo<;>simp only[hb,cond_true,cond_false,reduceCtorEq,bh]at h;have:l<lo:=by simp[Nat.blt]at hb;omega
  subst h;exact⟨ae,.inl ⟨this,rfl⟩⟩
 |(a,b)::r,l,l',h0,h=>by
  unfold lU at h;simp only[gT,bC,Nat.ble_eq]at h0;obtain⟨p2,p3,p4,p5⟩:=h0;have p3:b<c:=by simp[Nat.blt]at p3;omega
  cases hq:Nat.beq a l<;>simp only[hq,cond_true,cond_false,bh]at h
  .obtain⟨q1,q2⟩:=vZ p5 h
   grind
  .have:=Nat.eq_of_beq_eq_true hq;subst this;subst h;exact⟨p3,.inr ⟨p2,.head _⟩⟩
def sT {lo c:Nat}:∀{σ:List (Nat×Nat)}{a b:Nat},gT lo c σ=true->(a,b)∈σ->b<c
 |[],a,b,_,h=>by cases h
 |p::r,a,b,h0,h=>by
  simp only[gT,bC,Nat.blt,Nat.ble_eq]at h0;rcases cb.1 h with rfl|h
  .have:=h0.2.1;simp only at this;omega
  .exact sT h0.2.2.2 h
theorem Gn {lo c:Nat}:∀{σ:List (Nat×Nat)}{a a' b b':Nat},gT lo c σ=true->(a,b)∈σ->(a',b')∈σ->(b=b'->a=a')
 |[],a,a',b,b',_,h,_=>by cases h
 |(a0,b0)::r,a,a',b,b',h0,h1,h2=>by
  simp only[gT,bC,List.all_eq_true,bd]at h0;obtain⟨_,_,p4,p5⟩:=h0;intro e;rcases cb.1 h1 with h1|h1<;>rcases cb.1 h2 with h2|h2
  .simp only[eH]at h1 h2;omega
  .have:=(p4 _ h2).2;simp only[eH]at h1;obtain⟨rfl,rfl⟩:=h1;subst e;simp at this
  .have:=(p4 _ h1).2;simp only[eH]at h2;obtain⟨rfl,rfl⟩:=h2;subst e;simp at this
  .exact Gn p5 h1 h2 e
def me:List (Nat×Nat)->Nat->Option Nat
 |[],_=>none
 |(a,b)::r,l=>if b=l then some a else me r l
def mY:∀{σ:List (Nat×Nat)}{l a:Nat},me σ l=some a->(a,l)∈σ
 |[],l,a,h=>by cases h
 |(a0,b0)::r,l,a,h=>by
  simp only[me]at h;split at h
  .grind
  .exact .tail _ (mY h)
def zi {lo c:Nat}:∀{σ:List (Nat×Nat)}{l a:Nat},gT lo c σ=true->(a,l)∈σ->me σ l=some a
 |[],l,a,_,h=>by cases h
 |(a0,b0)::r,l,a,h0,h=>by
  simp only[me];split
  .grind [Gn]
  .rename_i e;rcases cb.1 h with h|h
   .grind
   .simp only[gT,bC]at h0;exact zi h0.2.2.2 h
def DW {lo:Nat}{σ:List (Nat×Nat)}{d d':D}(h:ra lo σ d=some d'):d'.cells.length=d.cells.length/\∀j,j<d.cells.length->ra lo σ (d.cells.getD j .any)=some (d'.cells.getD j .any):=by
 cases d
 case agg cs=>
  simp only[ra]at h;split at h
  .rename_i cs' h1;obtain rfl:=bL h;exact ke h1
  .cases h
 case tup cs=>
  simp only[ra]at h;split at h
  .obtain rfl:=bL h;exact⟨rfl,fun j hj=>by simp[D.cells]at hj⟩
  .cases h
 case fn f cs=>
  grind [ra,D.cells]
 case own l k i n=>
  grind [ra,oP,D.cells]
 case ptr l k i n=>
  grind [ra,oP,D.cells]
 case it l=>
  grind [ra,oP,D.cells]
 all_goals
  have h0:=h;simp only[ra,bh]at h;subst h;exact⟨rfl,fun j hj=>by simp[D.cells]at hj<;>(subst hj;simpa[D.cells]using h0)⟩
theorem RD.rn {ν:List (Nat×Nat)}{x x':X}{lo:Nat}{σ:List (Nat×Nat)}(hw:x'.w=x.w)(hI:x'.I=x.I)(hβ:∀l l',lU lo σ l=some l'->x'.β l'=x.β l){v:Value}{d:D}(h:RD ν x v d):∀d',ra lo σ d=some d'->RD ν x' v d':=by
 have hk:∀b,x.I b->x'.w.heap[b]? =x.w.heap[b]? :=fun _ _=>by rw[hw]
 have hI':∀b,x.I b->x'.I b:=fun b h=>by rw[hI];exact h
 induction h with
 |any v=>intro d' h;obtain rfl:=bL h;exact .any v
 |bool b=>intro d' h;obtain rfl:=bL h;exact .bool b
 |int k n=>intro d' h;obtain rfl:=bL h;exact .int k n
 |str s h0=>intro d' h;obtain rfl:=bL h;exact .str s h0
 |bq=>intro d' h;obtain rfl:=bL h;exact .bq
 |nilp=>intro d' h;obtain rfl:=bL h;exact .nilp
 |nilf=>intro d' h;obtain rfl:=bL h;exact .nilf
 |sl a b off len cap k' es' c hlen ha hcap hm hk' hn' hc h1 h _=>
  intro d' h2;obtain rfl:=bL h2;exact(RD.sl a b off len cap k' es' c hlen ha hcap hm hk' hn' hc h1 h).bJ rfl hI' hk
 |ref b off k' i o at_ es' c hI0 hat hk' hn' hc h1 h _=>
  intro d' h2;obtain rfl:=bL h2;exact(RD.ref b off k' i o at_ es' c hI0 hat hk' hn' hc h1 h).bJ rfl hI' hk
 |agg cs ds hl' h1 _ ih=>
  intro d' h;simp only[ra]at h;split at h
  .rename_i cs' h2;obtain rfl:=bL h;obtain⟨a1,a2⟩:=ke h2;exact .agg cs cs' ae (fun i hi=>h1 i ae) fun i hi=>ih i ae _ (a2 i ae)
  .cases h
 |tup cs ds hl' _ ih=>
  intro d' h;simp only[ra]at h;split at h
  .rename_i cs' h2;obtain rfl:=bL h;obtain⟨a1,a2⟩:=ke h2;exact .tup cs cs' ae fun i hi=>ih i ae _ (a2 i ae)
  .cases h
 |fn fid n cs ds hν hl' _ ih=>
  intro d' h;simp only[ra]at h;split at h
  .rename_i cs' h2;obtain rfl:=bL h;obtain⟨a1,a2⟩:=ke h2;exact .fn fid n cs cs' hν ae fun i hi=>ih i ae _ (a2 i ae)
  .cases h
 |fe fid n cs ds hν hl' _ ih=>
  grind [ra,ke,fe]
 |mp r es cl ds hI0 hh hl' _ ih=>
  intro d' h;simp only[ra]at h;split at h
  .rename_i cs' h2;obtain rfl:=bL h;obtain⟨a1,a2⟩:=ke h2;exact .mp r es cl cs' (hI' _ hI0) ((hk _ hI0).trans hh) ae fun i hi=>ih i ae _ (a2 i ae)
  .cases h
 |bx b at_ ds v hI0 hc h1 hl' _ ih=>
  intro d' h;simp only[ra]at h;split at h
  .rename_i cs' h2;obtain rfl:=bL h;obtain⟨a1,a2⟩:=ke h2;exact .bx b at_ cs' v (hI' _ hI0) (jE (hk _ hI0) hc) h1 ae fun i hi=>ih i ae _ (a2 i ae)
  .cases h
 |ptr l k i o b base tot at_ hb hat=>
  intro d' h;obtain⟨l',h1,rfl⟩:=oP h;exact .ptr l' k i o b base tot at_ ((hβ _ _ h1).trans hb) hat
 |own l k i n b base tot cap a hb ha hcap hm ht=>
  intro d' h;obtain⟨l',h1,rfl⟩:=oP h;exact .own l' k i n b base tot cap a ((hβ _ _ h1).trans hb) ha hcap hm ht
 |own0 l k i a=>
  intro d' h;obtain⟨l',h1,rfl⟩:=oP h;exact .own0 l' k i a
 |it l b base tot hb=>
  intro d' h;obtain⟨l',h1,rfl⟩:=oP h;exact .it l' b base tot ((hβ _ _ h1).trans hb)
def ry:∀{ds ds':List D},EA ds ds'->ds'.length=ds.length/\∀i,i<ds.length->vi (ds.getD i .any) (ds'.getD i .any)
 |[],ds',h=>by simp only[EA]at h;subst h;exact⟨rfl,fun i hi=>by simp at hi⟩
 |d::r,ds',h=>by
  simp only[EA]at h;obtain⟨d',r',rfl,h1,h2⟩:=h;obtain⟨a1,a2⟩:=ry h2
  grind
def CY {d d':D}(h:vi d d'):d'.cells.length=d.cells.length/\∀j,j<d.cells.length->vi (d.cells.getD j .any) (d'.cells.getD j .any):=by
 cases d
 case agg a=>
  simp only[vi]at h;obtain⟨b,rfl,h⟩:=h;exact ry h
 case bq=>
  grind [vi,D.cells]
 all_goals
  have h0:=h;simp only[vi]at h;obtain⟨rfl,hn⟩:=h;refine⟨rfl,fun j hj=>?_⟩;simp[D.cells]at hj;try(subst hj;simpa[D.cells]using h0)
theorem RD.nl {ν:List (Nat×Nat)}{x x':X}(hw:x'.w=x.w)(hI:x'.I=x.I){v:Value}{d:D}(h:RD ν x v d):∀d',vi d d'->RD ν x' v d':=by
 have hk:∀b,x.I b->x'.w.heap[b]? =x.w.heap[b]? :=fun _ _=>by rw[hw]
 have hI':∀b,x.I b->x'.I b:=fun b h=>by rw[hI];exact h
 induction h with
 |bq=>
  intro d' h2;simp only[vi]at h2;rcases h2 with rfl|⟨l,k,i,rfl⟩
  .exact .bq
  .exact .own0 l k i _
 |agg cs ds hl' h1 _ ih=>
  intro d' h;simp only[vi]at h;obtain⟨b,rfl,h⟩:=h;obtain⟨a1,a2⟩:=ry h;exact .agg cs b ae (fun i hi=>h1 i ae) fun i hi=>ih i ae _ (a2 i ae)
 |any v=>intro d' h;simp only[vi]at h;rw[h.1];exact .any v
 |bool b=>intro d' h;simp only[vi]at h;rw[h.1];exact .bool b
 |int k n=>intro d' h;simp only[vi]at h;rw[h.1];exact .int k n
 |str s h0=>intro d' h;simp only[vi]at h;rw[h.1];exact .str s h0
 |tup cs ds hl' h0 _=>intro d' h;simp only[vi]at h;rw[h.1];exact(RD.tup cs ds hl' h0).bJ h.2 hI' hk
 |sl a b off len cap k' es' c hlen ha hcap hm hk' hn' hc h1 h0 _=>
  intro d' h2;simp only[vi]at h2;rw[h2.1];exact(RD.sl a b off len cap k' es' c hlen ha hcap hm hk' hn' hc h1 h0).bJ h2.2 hI' hk
 |ref b off k' i o at_ es' c hI0 hat hk' hn' hc h1 h0 _=>
  intro d' h2;simp only[vi]at h2;rw[h2.1];exact(RD.ref b off k' i o at_ es' c hI0 hat hk' hn' hc h1 h0).bJ h2.2 hI' hk
 |nilp=>intro d' h;simp only[vi]at h;rw[h.1];exact .nilp
 |nilf=>intro d' h;simp only[vi]at h;rw[h.1];exact .nilf
 |fn fid n cs ds hν hl' h0 _=>intro d' h;simp only[vi]at h;rw[h.1];exact(RD.fn fid n cs ds hν hl' h0).bJ h.2 hI' hk
 |fe fid n cs ds hν hl' h0 _=>intro d' h;simp only[vi]at h;rw[h.1];exact(RD.fe fid n cs ds hν hl' h0).bJ h.2 hI' hk
 |mp r es cl ds hI hh hl' h0 _=>intro d' h;simp only[vi]at h;rw[h.1];exact(RD.mp r es cl ds hI hh hl' h0).bJ h.2 hI' hk
 |bx b at_ ds v hI hc h1 hl' h0 _=>intro d' h;simp only[vi]at h;rw[h.1];exact(RD.bx b at_ ds v hI hc h1 hl' h0).bJ h.2 hI' hk
 |ptr=>intro d' h;simp only[vi]at h;simp[D.bJ]at h
 |own=>intro d' h;simp only[vi]at h;simp[D.bJ]at h
 |own0=>intro d' h;simp only[vi]at h;simp[D.bJ]at h
 |it=>intro d' h;simp only[vi]at h;simp[D.bJ]at h
def Gl {lo:Nat}{σ:List (Nat×Nat)}:∀{e e':List ch},dr lo σ e e'->e'.length=e.length/\∀n,(e'.getD n .un).ok=(e.getD n .un).ok/\Us lo σ (e.getD n .un).d (e'.getD n .un).d\/e'.getD n .un=.un
 |[],[],_=>⟨rfl,fun n=>.inr aJ⟩
 |[],_::_,h=>h.elim
 |_::_,[],h=>h.elim
 |a::r,b::s,h=>by
  simp only[dr]at h;obtain⟨i1,i2⟩:=Gl h.2;refine⟨by simp[i1],fun n=>?_⟩;cases n with
  |zero=>simpa using h.1
  |succ n=>simpa using i2 n
def Gm {lo c:Nat}{σ:List (Nat×Nat)}{m:List (Nat×bX)}:∀{m':List (Nat×bX)},bo lo c σ m m'->∀l' b',look m' l'=some b'->(∃l b,lU lo σ l=some l'/\look m l=some b/\sS lo σ b b')\/(Nat.ble lo l'=true/\Nat.blt l' c=true/\σ.all (fun p=>!Nat.beq p.2 l')=true/\∃k,b'=.buf k [])
 |[],_,l',b',h=>by simp[look]at h
 |(l0,b0)::r,hh,l',b',h=>by
  simp only[bo]at hh;simp only[look]at h;split at h
  .grind
  .exact Gm hh.2 l' b' h
def Ds:∀{σ:List (Nat×Nat)}{l:Nat},σ.all (fun p=>!Nat.beq p.2 l)=true->me σ l=none
 |[],l,_=>rfl
 |(a,b)::r,l,h=>by
  simp only[List.all_cons,bC,bd]at h;simp only[me];rw[ak (fun e=>by subst e;simp at h),Ds h.2]
def Inv.ren {a:Act}{x0 x:X}{env env':List ch}{nx:Nat}{m m':List (Nat×bX)}{lo c:Nat}{σ:List (Nat×Nat)}(h:Inv C a x env ⟨nx,m⟩)(hs:Step x0 x)(hlo:∀l,lo<=l->x0.β l=none)(hok:gT lo c σ=true)(he:dr lo σ env env')(hm:bo lo c σ m m'):
  ∃x':X,x'.w=x.w/\Step x0 x'/\Inv C a x' env' ⟨c,m'⟩:=by
 let x':X:=⟨x.w,x.I,fun l'=>if l'<lo then x.β l' else(me σ l').bind x.β⟩
 have hβ:∀l l',lU lo σ l=some l'->x'.β l'=x.β l:=by
  intro l l' e;obtain⟨p1,p2⟩:=vZ hok e;rcases p2 with⟨p2,rfl⟩|⟨p3,p4⟩
  .simp only[x',aw p2]
  .simp only[x',ak (Nat.not_lt.2 p3),zi hok p4,Option.bind_some]
 have hβi:∀l' p,x'.β l'=some p->∃l,x.β l=some p:=by
  intro l' p e;simp only[x']at e;split at e
  .exact⟨l',e⟩
  .obtain⟨l,_,h2⟩:=Option.bind_eq_some_iff.1 e;exact⟨l,h2⟩
 have hrd:∀{v:Value} {d d':D},RD C.ν x v d->Us lo σ d d'->RD C.ν x' v d':=by
  intro v d d' hv hd;rcases hd with⟨rfl,hn⟩|hd|hd
  .exact hv.bJ hn (fun _ h=>h) (fun _ _=>rfl)
  rotate_left
  .exact RD.nl (x:=x) (x':=x') rfl rfl hv _ hd
  .exact RD.rn (x:=x) (x':=x') rfl rfl hβ hv _ hd
 obtain⟨e1,e2⟩:=Gl he;have hm1:=Gm hm;have hm2:∀l' b' p,look m' l'=some b'->x'.β l'=some p->∃l b,lU lo σ l=some l'/\look m l=some b/\sS lo σ b b':=by
  intro l' b' p h1 h2;rcases hm1 l' b' h1 with h3|⟨q1,q2,q3,q4⟩
  .exact h3
  .have q1:lo<=l':=by simpa using q1
   simp only[x',ak (show ¬l'<lo by omega),Ds q3,Option.bind_none]at h2;cases h2
 refine⟨x',rfl,⟨hs.os,hs.tape,hs.output,hs.size,hs.I,hs.oB,fun l p hp=>?_,hs.old,hs.newI,fun l' p hp=>?_⟩,⟨e1.trans h.len,fun n t hn ho=>?_,h.size,h.defers,⟨fun l' blk b base tot e3 e4=>?_,fun l1 l2 b base tot base' tot' e3 e4 e5 e6=>?_,h.oZ.imm,fun l' b base tot e=>?_,dS.le x _ (fun _ h=>h) (fun _ _=>rfl) h.oZ.gd⟩,⟨fun l' hl'=>?_,fun l' hl'=>?_⟩⟩⟩
 .have hl:l<lo:=by
   rcases iq l lo with h1|h1
   .exact h1
   .rw[hlo l h1]at hp;cases hp
  simp only[x',aw hl];exact hs.β l p hp
 .obtain⟨l,hl⟩:=hβi l' p hp;rcases hs.newβ l p hl with h1|h1|h1
  .exact .inr (.inr ⟨l,p,h1,rfl⟩)
  .exact .inr (.inl h1)
  .exact .inr (.inr h1)
 .rcases e2 n with⟨q1,q2⟩|q
  .rw[q1]at ho;exact hrd (h.env n t hn ho) q2
  .rw[q];exact .any _
 .obtain⟨l,b0,q1,q2,q3⟩:=hm2 l' blk _ e3 e4;rw[hβ l l' q1]at e4;obtain⟨o1,o2⟩:=h.oZ.own l b0 b base tot q2 e4;refine⟨o1, ?_⟩;cases b0 with
  |iter s p=>
   cases blk with
   |iter s' p'=>simp only[sS]at q3;obtain⟨rfl,rfl⟩:=q3;exact o2
   |_=>simp[sS]at q3
  |row s=>
   cases blk with
   |row s'=>simp only[sS]at q3;subst q3;exact o2
   |_=>simp[sS]at q3
  |bld o n u=>
   cases blk with
   |bld o' n' u'=>
    simp only[sS]at q3;obtain⟨q3,rfl,rfl⟩:=q3;obtain⟨p1,v,p2,p3⟩:=o2;refine⟨p1,v,p2, ?_⟩;cases o with
    |none=>simp only at q3;subst q3;exact p3
    |some l0=>
     obtain⟨l1,q4,rfl⟩:=q3;obtain⟨g,t,p4,p5,p6⟩:=p3;exact⟨g,t,p4,p5,by rw[hβ l0 l1 q4];exact p6⟩
   |_=>simp[sS]at q3
  |buf k es=>
   cases blk with
   |iter s' p'=>simp[sS]at q3
   |row s'=>simp[sS]at q3
   |bld o' n' u'=>simp[sS]at q3
   |buf k' es'=>
    simp only[sS]at q3;obtain⟨rfl,q3⟩:=q3;obtain⟨p1,p2,cc,T,fr,p3,p4,p5,p6⟩:=o2;rcases q3 with⟨rfl,hn⟩|q3|q3
    .exact⟨p1,p2,cc,T,fr,p3,p4,p5,fun i hi=>⟨(p6 i hi).1,fun j hj=>⟨((p6 i hi).2 j hj).1,((p6 i hi).2 j hj).2.bJ (mw (dn hn i) j) (fun _ h=>h) (fun _ _=>rfl)⟩⟩⟩
    rotate_left
    .obtain⟨r1,r2⟩:=ry q3;refine⟨p1,ae,cc,T,fr,p3,p4,p5,fun i hi=>?_⟩;have hi':i<es.length:=ae;obtain⟨s1,s2⟩:=CY (r2 i hi');refine⟨s1.trans (p6 i hi').1,fun j hj=>⟨((p6 i hi').2 j hj).1,hrd ((p6 i hi').2 j hj).2 (.inr (.inr (s2 j (by rw[(p6 i hi').1];exact hj))))⟩⟩
    .obtain⟨r1,r2⟩:=ke q3;refine⟨p1,ae,cc,T,fr,p3,p4,p5,fun i hi=>?_⟩;have hi':i<es.length:=ae;obtain⟨s1,s2⟩:=DW (r2 i hi');refine⟨s1.trans (p6 i hi').1,fun j hj=>⟨((p6 i hi').2 j hj).1,hrd ((p6 i hi').2 j hj).2 (.inr (.inl (s2 j (by rw[(p6 i hi').1];exact hj))))⟩⟩
 .cases f1:look m' l1 with
  |none=>simp only at e3;exact absurd f1 e3
  |some b1=>
   cases f2:look m' l2 with
   |none=>simp only at e4;exact absurd f2 e4
   |some b2=>
    obtain⟨l1',b1',q1,q2,_⟩:=hm2 l1 b1 _ f1 e5;obtain⟨l2',b2',r1,r2,_⟩:=hm2 l2 b2 _ f2 e6;rw[hβ _ _ q1]at e5;rw[hβ _ _ r1]at e6;have:=h.oZ.inj l1' l2' b base tot base' tot' (by simp only;rw[q2];simp) (by simp only;rw[r2];simp) e5 e6;subst this;rw[q1]at r1;exact bL r1
 .obtain⟨l,hl⟩:=hβi l' _ e;exact h.oZ.fe l b base tot hl
 .have hc:lo<=c:=by
   clear hβ hrd e2 hm2 he hm;induction σ with
   |nil=>simpa[gT]using hok
   |cons p r ih=>simp only[gT,bC,Nat.ble_eq,Nat.blt]at hok;omega
  have hl'':c<=l':=hl';simp only[x',ak (show ¬l'<lo by omega)];cases hi:me σ l' with
  |none=>rfl
  |some l=>
   have hmem:=mY hi;have:=sT hok hmem;omega
 .cases f1:look m' l' with
  |none=>simp only at hl';exact absurd f1 hl'
  |some b1=>
   rcases hm1 l' b1 f1 with⟨l,b,q1,_⟩|⟨_,q2,_⟩
   .exact(vZ hok q1).1
   .simp only;simp[Nat.blt]at q2;omega
def Inv.ghost {a:Act}{x0:X}{lo:Nat}{env env':List ch}{st st':St}(hlo:∀l,lo<=l->x0.β l=none)(g:a7 lo env st env' st'):∀{x:X},Inv C a x env st->Step x0 x->∃x':X,x'.w=x.w/\Step x0 x'/\Inv C a x' env' st':=by
 induction g with
 |refl env st=>intro x h hs;exact⟨x,rfl,hs,h⟩
 |QF l env st=>
  intro x h hs;obtain⟨x',a1,a2,a3⟩:=Inv.QF (nx:=st.nx) (m:=st.m) h l;exact⟨x',a1,hs.trans a2,a3⟩
 |ren σ c env env' nx m m' h0 he hm=>intro x h hs;exact h.ren hs hlo h0 he hm
 |wk env env' nx m m' he hm=>intro x h hs;exact⟨x,rfl,hs,h.weak he hm⟩
 |nz env env' nx m m' he hm=>intro x h hs;exact⟨x,rfl,hs,h.nz he hm⟩
 |trans env1 env2 env3 st1 st2 st3 g1 g2 ih1 ih2=>
  grind
def least {p:Nat->Prop}(h:∃n,p n):∃n,p n/\∀m,p m->n<=m:=by
 obtain⟨n,hn⟩:=h;induction n using Nat.strongRecOn with
 |_ n ih=>
  grind
def uh (hΓ:Ok C.P C.ν C.c8 Y)(hnd:C.slots.Nodup)(hmix:C.P.follows .mixedOrders=true)(x0:X)(hlo:∀l,Y.lo<=l->x0.β l=none):∀(c:Code) (ac:AC),C.code c=some ac->∀(Q:Ex->List ch->St->Prop) (env:List ch) (st:St) (a:Act) (x:X),
  bK Y ac Q env st->Inv C a x env st->Step x0 x->c.wp C.P (Post C Q x0) a x.w:=by
 intro c;induction c with
 |skip=>
  intro ac hc Q env st a x hw hi hs;simp only[CC.code,bh]at hc;subst hc;obtain⟨env,st,hgh,hw⟩:=hw;obtain⟨x,hxf,hs,hi⟩:=Inv.ghost hlo hgh hi hs;rw[<-hxf];exact wp_skip ⟨.normal,x,env,st,rfl,rfl,hs,hi,hw⟩
 |region id ops draw=>
  intro ac hc Q env st a x hw hi hs;simp only[CC.code]at hc;split at hc
  .rename_i l0 hl;cases draw with
   |false=>
    .simp only[fS,aX,bh]at hc;subst hc;have hsp:=Spec.start hl;simp only[bK]at hw;obtain⟨env,st,hgh,hw⟩:=hw;obtain⟨x,hxf,hs,hi⟩:=Inv.ghost hlo hgh hi hs;rw[<-hxf];refine wp_region ?_;rw[List.range_eq_range'];refine Ml hsp hΓ (x0:=x0) (K:=fun vs st'=>Q .normal (ja env vs (C.iC 0 ops.toList)) st') (fun vs' st' a' x' hk _ hm hst hsm hfr=>?_) ops.size 0 [] st x a ae rfl (hi.VK _ _ (fun p h=>ae)) hs hi.oZ hi.fresh hw;exact⟨.normal,x',_,st',rfl,rfl,hst,wX hnd hsp hi.len hm hsm hfr,hk⟩
   |true=>
    simp only[aW]at hc;split at hc
    .rename_i hdo;simp only[bh]at hc;subst hc;have hsp:=(Spec.start hl).nu (pM [] ops.toList);generalize nu (pM [] ops.toList) l0 0 l0=l at hsp hdo hw;simp only[bK]at hw;obtain⟨env,st,hgh,hw⟩:=hw;obtain⟨x,hxf,hs,hi⟩:=Inv.ghost hlo hgh hi hs;rw[<-hxf];have ho:=SR hdo;have hasm:∀g∈l,∀vs',g.i.F9 true (Src.ev env vs'):=by
      intro g hg vs';refine Rb fun s _ hS hok=>?_
      have:=hS rfl;obtain⟨n,rfl⟩:∃n,s=.s n:=by
       cases s<;>simp only[Src.R6]at this<;>first
        |exact⟨_,rfl⟩
        |cases this
      simp only[Src.ev]at hok⊢;by_cases hn:n<C.slots.length
      .exact⟨_,_,_,hi.env n C.slots[n] (by simp[hn]) hok⟩
      .refine⟨C.ν,x,undef, ?_⟩;have:env.getD n .un=.un:=by simp[List.getD,List.getElem?_eq_none (show env.length<=n by rw[hi.len];omega)]
       rw[this];exact .any _
     rcases Zm hdo with hnM|hlm
     .obtain⟨VS,M,tr,hM0,hk⟩:=yt hnM hasm hi.fresh.m hw;have hg:hZ x.w {x.w with drawn:=x.w.drawn+1}:=⟨rfl,rfl,rfl,aL _,fun _ _=>rfl⟩
      let x1:X:=⟨{x.w with drawn:=x.w.drawn+1},x.I,x.β⟩
      have hst1:Step x x1:=Step.grow hg hi.oZ.imm;have hs1:gE C.ν x1 (look st.m):=hi.oZ.grow hg;refine wp_region_any hmix ?_;refine GJ hsp ho hnM hΓ tr (x0:=x0) (fun a' x' hm hst hsm hfr=>?_) ops.size _ a x1 (look st.m) 0 ?_ ?_
      .exact⟨.normal,x',_,_,rfl,rfl,hst,wX hnd hsp hi.len hm hsm hfr,hk⟩
      .have hno:∀p,¬(Array.replicate ops.size false).getD p false=true:=fun p=>by
        simp[Array.getElem?_replicate];split<;>simp
       refine⟨?_,hs.trans hst1,hs1,aJ,fun j hj=>absurd hj (hno j),fun l' hl' _=>hi.fresh.β l' hl',fun p g _ _=>⟨fun h=>absurd h (hno p),fun h=>ae⟩,fun l' hl'=>?_,fun q g _ _ _ h=>absurd h (hno q)⟩
       .have:=hi.VK (ops.toList.map (·.dst)) VS (D:=fun p=>(Array.replicate ops.size false).getD p false=true) hno;exact⟨fun p t hp=>absurd hp (hno p),fun p t hp=>absurd hp (hno p),fun n t hn h1 h2=>(this.old n t hn h1 h2).mono hst1.le,this.size,this.defers⟩
       .have hlt:l'<st.nx:=by
         rcases iq l' st.nx with h1|h1
         .exact h1
         .exact absurd (hi.fresh.β l' h1) hl'
        rw[show max 0 (l'+1-st.nx)=0 by omega,hM0]
      .unfold Z7;exact dp (List.length_filter_le _ _) aJ
     .obtain⟨l',xK,rfl,hsuf,hfull,hnM⟩:=JH hlm;have hlen:l'.length+xK.length=ops.size:=by have:=hsp.len;simpa using this
      have hsz:ops.size=l'.length+xK.length:=hlen.symm;have hpl:(ops.extract 0 l'.length).toList=ops.toList.take l'.length:=aJ;have hpz:(ops.extract 0 l'.length).size=l'.length:=cZ;have hops:ops.toList=(ops.extract 0 l'.length).toList++ops.toList.drop l'.length:=by rw[hpl,List.take_append_drop]
      generalize ops.extract 0 l'.length=ps at hpl hpz hops;have hpop:∀j,j<l'.length->ps.toList[j]? =ops.toList[j]? :=fun j hj=>by rw[hpl,List.getElem?_take,aw hj]
      have hdd:∀j,j<l'.length->(ps.toList.map (·.dst))[j]? =(ops.toList.map (·.dst))[j]? :=fun j hj=>by
       rw[List.getElem?_map,List.getElem?_map,hpop j hj]
      have htk:∀j,j<=l'.length->(ps.toList.map (·.dst)).take j=(ops.toList.map (·.dst)).take j:=fun j hj=>by
       rw[hpl,List.map_take,List.take_take,Nat.min_eq_left hj]
      have hsp':Spec C ps.toList l':=by
       refine⟨by simpa using hpz.symm,fun i oi hoi=>?_,fun i oi d hoi hd=>?_⟩
       .have hi':i<l'.length:=by have:=(List.getElem?_eq_some_iff.1 hoi).1;simp at this;omega
        rw[hpop i hi']at hoi;obtain⟨g,g1,g2,g3⟩:=hsp.op i oi hoi;rw[List.getElem?_append_left hi']at g1;exact⟨g,g1,by rw[htk i ae];exact g2,by rw[htk i ae];exact g3⟩
       .have hi':i<l'.length:=by have:=(List.getElem?_eq_some_iff.1 hoi).1;simp at this;omega
        rw[hpop i hi']at hoi;obtain⟨h1,h2⟩:=hsp.dst i oi d hoi hd;exact⟨h1,fun p hp=>by rw[hdd p ae];exact h2 p hp⟩
      have ho':Order ps.toList l' (pM [] ops.toList):=Order.pre (os:=ops.toList.drop l'.length) (ls:=xK) (by rw[<-hops];exact ho);have hgd:∀(i:Nat) (o:Oper),ops[i]? =some o->∀j w,o.guard=some (j,w)->j<i:=by
       intro i oi hoi j w hj;obtain⟨g,_,_,g3⟩:=hsp.op i oi (by simpa using hoi);rw[hj]at g3;simp only[CC.guard]at g3;split at g3
       .rename_i t ht;have:=(List.getElem?_eq_some_iff.1 ht).1;simp only[eu]at this;omega
       .cases g3
      have hw':=H8 l' [] st rfl hnM hw;obtain⟨VS,M,tr,hM0,hk⟩:=yt hnM (fun g hg=>hasm g (List.mem_append_left _ hg)) hi.fresh.m hw';have hVS:VS.length=l'.length:=tr.len;have hg:hZ x.w {x.w with drawn:=x.w.drawn+1}:=⟨rfl,rfl,rfl,aL _,fun _ _=>rfl⟩
      let x1:X:=⟨{x.w with drawn:=x.w.drawn+1},x.I,x.β⟩
      have hst1:Step x x1:=Step.grow hg hi.oZ.imm;have hs1:gE C.ν x1 (look st.m):=hi.oZ.grow hg;refine wp_region_any hmix ?_;have hno:∀(n p:Nat),¬(Array.replicate n false).getD p false=true:=fun n p=>by
       simp[Array.getElem?_replicate];split<;>simp
      rw[hsz];refine C0 xK.length hsz aJ ho hfull hgd a x1.w ?_;rw[show ops.extract 0 l'.length=ps by apply Array.ext';rw[hpl];simp];refine GJ hsp' ho' hnM hΓ tr (x0:=x0) (fun a' x' hm hst hsm hfr=>?_) l'.length _ a x1 (look st.m) 0 ?_ ?_
      ·
       show wpOps C.P ops _ (List.range' l'.length xK.length) a' x'.w;have hk2:=TI hsuf hk;simp only at hk2;rw[show st.nx+l'.length-VS.length=st.nx by omega]at hk2;have hmid:Ct C env (ops.toList.map (·.dst)) VS (· <l'.length) a' x':=by
        refine⟨fun p t hp h1 h2=>hm.val p t (by rw[hpz];exact hp) (by rw[hdd p hp];exact h1) h2,fun p t hp h1 h2=>hm.und p t (by rw[hpz];exact hp) (by rw[hdd p hp];exact h1) h2,fun n t hn h1 h2=>hm.old n t hn (fun p hp=>?_) h2,hm.size,hm.defers⟩;have hp':p<l'.length:=by have hp:p<ps.size:=hp;omega
        rw[hdd p hp'];exact h1 p hp'
       exact Ml hsp hΓ (x0:=x0) (K:=fun vs st'=>Q .normal (ja env vs (C.iC 0 ops.toList)) st') (fun vs' st' a' x' hk _ hm hst hsm hfr=>⟨.normal,x',_,st',rfl,rfl,hst,wX hnd hsp hi.len hm hsm hfr,hk⟩) xK.length l'.length VS ⟨st.nx,M l'.length⟩ x' a' hlen hVS hmid hst hsm hfr (by rw[List.drop_left];exact hk2)
      .refine⟨?_,hs.trans hst1,hs1,by simp[hpz],fun j hj=>absurd hj (hno _ j),fun l' hl' _=>hi.fresh.β l' hl',fun p g _ _=>⟨fun h=>absurd h (hno _ p),fun h=>ae⟩,fun l' hl'=>?_,fun q g _ _ _ h=>absurd h (hno _ q)⟩
       .have:=hi.VK (ps.toList.map (·.dst)) VS (D:=fun p=>(Array.replicate l'.length false).getD p false=true) (hno _);exact⟨fun p t hp=>absurd hp (hno _ p),fun p t hp=>absurd hp (hno _ p),fun n t hn h1 h2=>(this.old n t hn h1 h2).mono hst1.le,this.size,this.defers⟩
       .have hlt:l'<st.nx:=by
         rcases iq l' st.nx with h1|h1
         .exact h1
         .exact absurd (hi.fresh.β l' h1) hl'
        rw[show max 0 (l'+1-st.nx)=0 by omega,hM0]
      .unfold Z7;refine dp (List.length_filter_le _ _) (by simp[hpz])
    .cases hc
  .cases hc
 |seq c1 c2 ih1 ih2=>
  intro ac hc Q env st a x hw hi hs;simp only[CC.code]at hc;split at hc
  .rename_i a1 a2 h1 h2;simp only[bh]at hc;subst hc;simp only[bK]at hw;obtain⟨env,st,hgh,hw⟩:=hw;obtain⟨x,hxf,hs,hi⟩:=Inv.ghost hlo hgh hi hs;rw[<-hxf];refine wp_seq (wp_mono (ih1 a1 h1 _ env st a x hw hi hs) fun e a' w' hp=>?_);obtain⟨e',x',env',st',he,hxw,hst,hi',hq⟩:=hp;subst hxw;cases e' with
   |normal=>subst he;exact ih2 a2 h2 Q env' st' a' x' hq hi' hst
   |exit id=>subst he;exact⟨.exit id,x',env',st',rfl,rfl,hst,hi',hq⟩
   |ret=>subst he;exact⟨.ret,x',env',st',rfl,rfl,hst,hi',hq⟩
  .cases hc
 |cond c c1 c2 ih1 ih2=>
  intro ac hc Q env st a x hw hi hs;simp only[CC.code]at hc;split at hc
  .rename_i s a1 a2 h0 h1 h2;simp only[bh]at hc;subst hc;simp only[bK]at hw;obtain⟨env,st,hgh,hw⟩:=hw;obtain⟨x,hxf,hs,hi⟩:=Inv.ghost hlo hgh hi hs;rw[<-hxf];obtain⟨hok,hw⟩:=hw;have hv:=RC hi h0 hok;cases hd:(s.ev env []).d<;>simp only[hd]at hw;rename_i t;rw[hd]at hv;cases t with
   |true=>exact wp_cond_true hv.j6 (ih1 a1 h1 Q env st a x (hw.1 rfl) hi hs)
   |false=>exact wp_cond_false hv.j6 (ih2 a2 h2 Q env st a x (hw.2 rfl) hi hs)
  .cases hc
 |block id c1 ih=>
  intro ac hc Q env st a x hw hi hs;simp only[CC.code,ea]at hc;obtain⟨a1,h1,rfl⟩:=hc;simp only[bK]at hw;obtain⟨env,st,hgh,hw⟩:=hw;obtain⟨x,hxf,hs,hi⟩:=Inv.ghost hlo hgh hi hs;rw[<-hxf];refine wp_block (wp_mono (ih a1 h1 _ env st a x hw hi hs) fun e a' w' hp=>?_);obtain⟨e',x',env',st',he,hxw,hst,hi',hq⟩:=hp;subst hxw;cases e' with
  |normal=>subst he;exact⟨.normal,x',env',st',rfl,rfl,hst,hi',hq⟩
  |exit j=>
   subst he;simp only[Ex.of,Exit.inBlock];by_cases hj:j=id
   .rw[aw hj];simp only[hj,aW]at hq;exact⟨.normal,x',env',st',rfl,rfl,hst,hi',hq⟩
   .rw[ak hj];simp only[hj,aX]at hq;exact⟨.exit j,x',env',st',rfl,rfl,hst,hi',hq⟩
  |ret=>subst he;exact⟨.ret,x',env',st',rfl,rfl,hst,hi',hq⟩
 |loop c1 ih=>
  intro ac hc Q env st a x hw hi hs;simp only[CC.code,ea]at hc;obtain⟨a1,h1,rfl⟩:=hc;simp only[bK]at hw;obtain⟨env,st,hgh,hw⟩:=hw;obtain⟨x,hxf,hs,hi⟩:=Inv.ghost hlo hgh hi hs;rw[<-hxf];obtain⟨I,μ,hI,hround⟩:=hw
  let W:Act->World->Nat->Prop:=fun a w n=>∃env st x,x.w=w/\Step x0 x/\Inv C a x env st/\I env st/\μ env st=n
  open Classical in
  let μ':Act->World->Nat:=fun a w=>if h:∃n,W a w n then Classical.choose (least h)else 0
  refine wp_loop (fun a w=>∃n,W a w n) μ' ⟨_,env,st,x,rfl,hs,hi,hI,rfl⟩ fun a w hIn=>?_
  have hμ:μ' a w=Classical.choose (least hIn):=dif_pos hIn;obtain⟨env2,st2,x2,hxw,hst2,hi2,hI2,hmu⟩:=(Classical.choose_spec (least hIn)).1;subst hxw;refine wp_mono (ih a1 h1 _ env2 st2 a x2 (hround env2 st2 hI2) hi2 hst2) fun e a' w' hp=>?_
  obtain⟨e',x',env',st',he,hxw,hst,hi',hq⟩:=hp;subst hxw;cases e' with
  |normal=>
   subst he;obtain⟨env3,st3,hgh3,hI3,hlt⟩:=hq;obtain⟨x',hxf',hst,hi'⟩:=Inv.ghost hlo hgh3 hi' hst;rw[<-hxf'];have hW:W a' x'.w (μ env3 st3):=⟨env3,st3,x',rfl,hst,hi',hI3,rfl⟩;refine⟨⟨_,hW⟩, ?_⟩;have h2:μ' a' x'.w=Classical.choose (least (⟨_,hW⟩:∃n,W a' x'.w n)):=dif_pos ⟨_,hW⟩;rw[h2,hμ];exact Nat.lt_of_le_of_lt ((Classical.choose_spec (least (⟨_,hW⟩:∃n,W a' x'.w n))).2 _ hW) (by rw[<-hmu];exact hlt)
  |exit id=>subst he;exact⟨.exit id,x',env',st',rfl,rfl,hst,hi',hq⟩
  |ret=>subst he;exact⟨.ret,x',env',st',rfl,rfl,hst,hi',hq⟩
 |exit id=>
  intro ac hc Q env st a x hw hi hs;simp only[CC.code,bh]at hc;subst hc;obtain⟨env,st,hgh,hw⟩:=hw;obtain⟨x,hxf,hs,hi⟩:=Inv.ghost hlo hgh hi hs;rw[<-hxf];exact wp_exit ⟨.exit id,x,env,st,rfl,rfl,hs,hi,hw⟩
 |ret=>
  intro ac hc Q env st a x hw hi hs;simp only[CC.code,bh]at hc;subst hc;obtain⟨env,st,hgh,hw⟩:=hw;obtain⟨x,hxf,hs,hi⟩:=Inv.ghost hlo hgh hi hs;rw[<-hxf];exact wp_ret ⟨.ret,x,env,st,rfl,rfl,hs,hi,hw⟩
 |scope c1 ih=>
  intro ac hc Q env st a x hw hi hs;simp only[CC.code]at hc;refine wp_scope_straight (wp_mono (ih ac hc Q env st a x hw hi hs) fun e a' w' hp=>?_);obtain⟨e',x',env',st',he,hxw,hst,hi',hq⟩:=hp;subst he;cases e'<;>exact⟨_,x',env',st',rfl,hxw,hst,hi',hq⟩
 |label l=>
  intro ac hc Q env st a x hw hi hs;simp only[CC.code,bh]at hc;subst hc;obtain⟨env,st,hgh,hw⟩:=hw;obtain⟨x,hxf,hs,hi⟩:=Inv.ghost hlo hgh hi hs;rw[<-hxf];exact wp_label ⟨.normal,x,env,st,rfl,rfl,hs,hi,hw⟩
 |_=>intro ac hc;simp[CC.code]at hc
end
end
section
variable [dS]
section
variable {C:CC} {Y:Ctx}
def Sj {P:Program}{ν:List (Nat×Nat)}{x:X}{f:Nat->Option bX}{m:List (Nat×bX)}{t:TypeId}{v:Value}{d:D}(hsm:∀fid n,eX ν fid=some n->n<1000000)(hn0:P.cellsOf t≠0)(hu:(P.underlying t).isNone=false)(h1':cH P t=false->P.cellsOf t=1)
  (hv:RD ν x v d) (k2:Hh m (P.cellsOf t) d) (hs:gE ν x f) (hag:∀l,look m l≠none->f l=look m l):
  ∃ad u,v=.pointer (some ad)/\(loadVar t ad).run P x.w=.ok u x.w/\RD ν x u (Dx m (P.cellsOf t) (cH P t) d):=by
 cases d<;>simp only[Hh]at k2
 .rename_i k es i o';cases hv with
  |ref b off _ _ _ at_ _ c hI hat hk hn hcc hone hh=>
   obtain⟨v,r1,r2⟩:=tk (P:=P) (ν:=ν) (x:=x) (e:=es.getD i .any) (k:=k) (n:=P.cellsOf t) (o:=o') (b:=b) (at0:=off+i*k) (ag:=cH P t) (ty:=t) (c:=c i) (hk i k2.1) k2.2
    (fun j hj=>⟨hcc i j k2.1 hj,hone i j k2.1 hj,hh i j k2.1 hj⟩) rfl hn0 hu rfl h1'
   grind [Dx]
 .rename_i l k i o';cases hv with
  |ptr _ _ _ _ b base tot at_ hβ hat=>
   obtain⟨g1,g2,hnI,hk0,ht,c,T,fr,q1,q2,q3,q4⟩:=AA hs hag k2.1 hβ;have hi:i<(bD m l).length:=ae;obtain⟨v,r1,r2⟩:=tk (P:=P) (ν:=ν) (x:=x) (e:=(bD m l).getD i .any) (k:=k) (n:=P.cellsOf t) (o:=o') (b:=b) (at0:=base+i*k) (ag:=cH P t) (ty:=t) (c:=fun j=>c.getD (base+i*k+j) undef)
    ((q4 i hi).1) k2.2
    (fun j hj=>⟨cell_of_heap q1 (by have:=jU (tot:=tot) (show i<tot by omega) hj;omega),((q4 i hi).2 j hj).1,((q4 i hi).2 j hj).2⟩) rfl hn0 hu rfl h1'
   grind [Dx]
 .rename_i q es;obtain⟨rfl,e1,e2,e3⟩:=k2;cases hv with
  |fn fid _ cs ds hν=>exact absurd (hsm _ _ hν) ae
  |fe fid _ cs ds hν=>exact absurd (hsm _ _ hν) ae
  |bx b at_ _ v0 hI hc0 h1 hl hh=>
   obtain⟨v,r1,r2⟩:=tk (P:=P) (ν:=ν) (x:=x) (e:=es.getD 0 .any) (k:=1) (n:=P.cellsOf t) (o:=0) (b:=b) (at0:=at_) (ag:=cH P t) (ty:=t) (c:=fun _=>v0) (by rw[e3];rfl) ae
    (fun j hj=>by obtain rfl:j=0:=ae;exact⟨hc0,h1,by rw[e3];exact hh 0 ae⟩) rfl hn0 hu rfl h1'
   exact⟨_,v,rfl,r1,by simpa only[Dx]using r2⟩
def BT (a:Act):ResultVar->Sem Value
 | .tmp t=>pure (a.tmps.getD t undef)
 | .cell ad t=>do loadVar t (<-asAddr (a.tmps.getD ad undef))
def sB (hsm:∀fid n,eX C.ν fid=some n->n<1000000){a:Act}{x:X}{env:List ch}{st:St}(hi:Inv C a x env st):∀(rs:List ResultVar) (ars:List N3),vY C.P C.slots rs=some ars->rr st.m env ars->
  ∃vs,(rs.mapM (BT a)).run C.P x.w=.ok vs x.w/\vs.length=ars.length/\(ru st.m env ars).length=ars.length/\∀i,i<ars.length->RD C.ν x (vs.getD i undef) ((ru st.m env ars).getD i .any)
 |[],ars,h,_=>by simp[vY]at h;subst h;exact⟨[],aJ,rfl,by simp[ru],fun i hi=>by simp at hi⟩
 | .tmp t::r,ars,h,ho=>by
  simp only[vY]at h;split at h
  .rename_i s l h1 h2;simp only[bh]at h;subst h;simp only[rr]at ho;obtain⟨vs,b1,b2,b4,b3⟩:=sB hsm hi r l h2 ho.2.2;refine⟨a.tmps.getD t undef::vs,by simp[BT,b1],by simp[b2],by simp[ru,b4],fun i hil=>?_⟩;cases i with
   |zero=>simpa[ru,H9]using hi.env s t (pZ _ _ _ h1) ho.1
   |succ i=>simpa[ru]using b3 i (by simpa using hil)
  .cases h
 | .cell t ty::r,ars,h,ho=>by
  simp only[vY]at h;split at h
  .rename_i s l h1 h2;split at h
   .cases h
   rename_i hce;simp only[bh]at h;subst h;simp only[rr]at ho;obtain⟨vs,b1,b2,b4,b3⟩:=sB hsm hi r l h2 ho.2.2;have hu:(C.P.underlying ty).isNone=false:=by cases hn:(C.P.underlying ty).isNone with|false=>rfl|true=>exact absurd (.inr (.inl hn)) hce
   have h1':cH C.P ty=false->C.P.cellsOf ty=1:=fun e=>by
    rcases Nat.decEq (C.P.cellsOf ty) 1 with h|h
    .exact absurd (.inr (.inr ⟨e,h⟩)) hce
    .exact h
   obtain⟨ad,u,c1,c2,c3⟩:=Sj hsm (fun e=>hce (.inl e)) hu h1' (hi.env s t (pZ _ _ _ h1) ho.1) ho.2.1 hi.oZ (fun _ _=>rfl);refine⟨u::vs, ?_,by simp[b2],by simp[ru,b4],fun i hil=>?_⟩
   .have e:(BT a (.cell t ty)).run C.P x.w=.ok u x.w:=by simp only[BT,c1];simp[asAddr,c2]
    simp[List.mapM_cons,e,b1]
   .cases i with
    |zero=>simpa[ru,H9]using c3
    |succ i=>simpa[ru]using b3 i (by simpa using hil)
  .cases h
def KC (fn:Func)(a:Act):results fn a.tmps=(do
  let vs <-fn.results.mapM (BT a)
  pure (if h:vs.size=1 then vs[0]else .tuple vs)):=by
 unfold results;congr 1
def sA (hsm:∀fid n,eX C.ν fid=some n->n<1000000){a:Act}{x:X}{env:List ch}{st:St}(hi:Inv C a x env st){fn:Func}{af:aC}(hr:vY C.P C.slots fn.results.toList=some af.res)(ho:rr st.m env af.res):
  ∃v,(results fn a.tmps).run C.P x.w=.ok v x.w/\RD C.ν x v (mE af env st)/\(af.res.length≠1->∃cs,v=.tuple cs):=by
 obtain⟨vs,b1,b2,b4,b3⟩:=sB hsm hi _ _ hr ho;have hrun:(results fn a.tmps).run C.P x.w=.ok (if h:vs.length=1 then vs[0]else .tuple vs.toArray) x.w:=by
  rw[KC,Sem.run_bind,Array.mapM_eq_mapM_toList,Sem.run_map,b1];simp[Result.andThen]
 rcases hres:af.res with _|⟨r,_|⟨r2,rs⟩⟩
 .rw[hres]at b2 b3 b4;have h0:vs.length≠1:=by rw[b2];simp
  rw[dif_neg h0]at hrun;refine⟨_,hrun, ?_,fun _=>⟨_,rfl⟩⟩;simp only[mE,hres];refine .tup _ _ (by simp[b2,b4]) fun i hi=>?_
  have:=b3 i ae
  rwa [<-cC]
 .rw[hres]at b2 b3 b4;have h0:vs.length=1:=by rw[b2];rfl
  rw[dif_pos h0]at hrun;refine⟨_,hrun, ?_,fun h=>absurd rfl h⟩;simp only[mE,hres];have:=b3 0 aJ;simp only[ru,jC]at this
  rwa [qD _ _ _ ae]at this
 .rw[hres]at b2 b3 b4;have h0:vs.length≠1:=by rw[b2];simp
  rw[dif_neg h0]at hrun;refine⟨_,hrun, ?_,fun _=>⟨_,rfl⟩⟩;simp only[mE,hres];refine .tup _ _ (by simp[b2,b4]) fun i hi=>?_
  have:=b3 i ae
  rwa [<-cC]
def wH:∀(l acc:List Nat),∃r,dedup acc l=acc.reverse++r
 |[],acc=>⟨[],by simp[dedup]⟩
 |a::l,acc=>by
  simp only[dedup];split
  .exact wH l acc
  .obtain⟨r,h⟩:=wH l (a::acc);exact⟨a::r,by rw[h];simp⟩
def rI:∀(l acc:List Nat),acc.Nodup->(dedup acc l).Nodup
 |[],acc,h=>by simp only[dedup];exact List.pairwise_reverse.2 (h.imp fun h=>Ne.symm h)
 |a::l,acc,h=>by
  simp only[dedup];split
  .exact rI l acc h
  .rename_i hn;exact rI l (a::acc) (List.nodup_cons.2 ⟨by simpa using hn,h⟩)
def yb (rest:List Nat):∀(n j:Nat),dedup (List.range j).reverse (List.range' j n++rest)=dedup (List.range (j+n)).reverse rest
 |0,j=>aJ
 |n+1,j=>by
  rw[List.range'_succ,fD];simp only[dedup];rw[ak aJ];have e:j::(List.range j).reverse=(List.range (j+1)).reverse:=by rw[List.range_succ];simp
  rw[e,yb rest n (j+1)];congr 2;congr 1;omega
def pw (fn:Func):(slotsOf fn).Nodup/\fn.params.size+fn.nfree<=(slotsOf fn).length/\∀n,n<fn.params.size+fn.nfree->(slotsOf fn)[n]? =some n:=by
 refine⟨rI _ _ List.nodup_nil, ?_⟩;have e:slotsOf fn=dedup (List.range (fn.params.size+fn.nfree)).reverse (tu fn.results.toList++Cd (fn.body.getD .skip)):=by
  have:=yb (tu fn.results.toList++Cd (fn.body.getD .skip)) (fn.params.size+fn.nfree) 0;simp only[List.range_zero,List.reverse_nil,bR]at this;unfold slotsOf;rw[ey,List.range_eq_range'];rw[this,List.range_eq_range']
 obtain⟨r,h⟩:=wH (tu fn.results.toList++Cd (fn.body.getD .skip)) (List.range (fn.params.size+fn.nfree)).reverse
 grind
end
end
section
variable [dS]
section
variable {P:Program} {ν:List (Nat×Nat)} {c8:List Nat} {Y:Ctx}
def Ok.at (h:Ok P ν c8 Y)(n:Nat):Ok P ν c8 (Y.at n):=⟨h.small,h.bld,h.pure,h.effF,h.c8⟩
def jF {fn:Func}{af:aC}(hc:compile P ν c8 fn=some af):
  ∃body,fn.body=some body/\CC.code {P,ν,c8,slots:=slotsOf fn,ntmps:=fn.ntmps,vm:=Qv P fn} body=some af.body/\vY P (slotsOf fn) fn.results.toList=some af.res/\
   fn.params.size+fn.nfree<=fn.ntmps/\af.np=fn.params.size+fn.nfree/\af.ns=(slotsOf fn).length:=by
 grind [compile]
def xI {fn:Func}{af:aC}{x:X}{args:Array Value}{ds:List D}{st:St}(hnp:fn.params.size+fn.nfree<=fn.ntmps)(h1:af.np=fn.params.size+fn.nfree)(h2:af.ns=(slotsOf fn).length)(hl:args.size=ds.length)(hd:ds.length=af.np)
  (hargs:∀i,i<ds.length->RD ν x (args.getD i undef) (ds.getD i .any)) (hs:gE ν x (look st.m)) (hf:gB st x):
  Inv {P,ν,c8,slots:=slotsOf fn,ntmps:=fn.ntmps,vm:=Qv P fn} {tmps:=args++Array.replicate (fn.ntmps-args.size) undef,defers:=[]} x (fF af ds) st:=by
 obtain⟨s1,s2,s3⟩:=pw fn;refine⟨?_,fun n t hn ho=>?_,cZ,rfl,hs,hf⟩
 .simp only[fF,bQ,bO,List.length_replicate];omega
 .simp only at hn;simp only[fF]at ho⊢;rw[dA]at ho⊢;simp only[bO]at ho⊢;by_cases h:n<ds.length
  .grind [nR]
  .rw[ak h];have:(List.replicate (af.ns-af.np) ch.un).getD (n-ds.length) .un=.un:=by
    simp only[List.getD,List.getElem?_replicate];split<;>rfl
   rw[this];exact .any _
def Ex.Fg {e:Ex}(h:e.home):Ex.of e=.normal\/Ex.of e=.ret:=by
 cases e with
 |normal=>exact .inl rfl
 |exit id=>exact h.elim
 |ret=>exact .inr rfl
def Vd {fid:Nat}{fn:Func}{af:aC}{d:D}(hΓ:Ok P ν c8 Y)(hmix:P.follows .mixedOrders=true)(hf:P.funcs[fid]? =some fn)(hc:compile P ν c8 fn=some af)
  {x:X} {args:Array Value} {ds:List D} (hl:args.size=ds.length) (hargs:∀i,i<ds.length->RD ν x (args.getD i undef) (ds.getD i .any)) (hnl:bH ds=true) (himm:∀b,x.I b->b<x.w.heap.size) (hgd:dS.gd x)
  (hnp:ds.length=af.np) (hw:bK (Y.at 0) af.body (fun e env st=>e.home/\rr st.m env af.res/\Mh af env st/\Wg af env st=d) (fF af ds) ⟨0,[]⟩):
  Calls P fid args x.w fun
   | .returned v,w'=>∃x',x'.w=w'/\ou x x'/\RD ν x' v d
   |_,_=>False:=by
 obtain⟨body,c1,c2,c3,c4,c5,c6⟩:=jF hc
 let x0:X:=⟨x.w,x.I,fun _=>none⟩
 have hs0:gE ν x0 (look []):=⟨fun l blk b base tot h=>by simp[look]at h,fun l l' b base tot base' tot' h=>by simp[look]at h,himm,fun l b base tot h=>(by cases h),dS.le x _ (fun _ h=>h) (fun _ _=>rfl) hgd⟩;have hf0:gB ⟨0,[]⟩ x0:=⟨fun l _=>rfl,fun l h=>by simp[look]at h⟩;have hi:=xI (P:=P) (ν:=ν) (c8:=c8) (x:=x0) (st:=⟨0,[]⟩) c4 c5 c6 hl hnp (fun i hi=>(hargs i hi).bJ (dn hnl i) (fun _ h=>h) (fun _ _=>rfl)) hs0 hf0;have hcs:=uh (C:={P,ν,c8,slots:=slotsOf fn,ntmps:=fn.ntmps,vm:=Qv P fn}) (hΓ.at 0) (pw fn).1 hmix x0 (fun _ _=>rfl) body af.body c2 _ _ _ _ x0 hw hi (.refl _);refine calls_of_wp hf c1 (wp_mono hcs fun e a w' hp=>?_);obtain⟨e',x',env',st',he,hxw,hst,hi',hh,hro,hrpo,hrp⟩:=hp;subst hxw;obtain⟨v,r1,r2,r3⟩:=sA hΓ.small hi' c3 hro;have hI:∀b,(x'.oy (look st'.m)).I b->b<x'.w.heap.size:=by
  intro b hb;rcases hb with h|⟨l,⟨b',base,tot⟩,h1,h2,h3⟩
  .exact hi'.oZ.imm b h
  .subst h2;exact hi'.oZ.fe l _ _ _ h1
 have hnew:∀b,(x'.oy (look st'.m)).I b->x.I b\/x.w.heap.size<=b:=by
  intro b hb;rcases hb with h|⟨l,p,h1,h2,h3⟩
  .rcases hst.newI b h with h|h|⟨l,p,h,_⟩
   .exact .inl h
   .exact .inr h
   .cases h
  .subst h2;rcases hst.newβ l p h1 with h|h|⟨l',p',h,_⟩
   .cases h
   .exact .inr h
   .cases h
 have hps:ou x ⟨x'.w,(x'.oy (look st'.m)).I,x.β⟩:=
  ⟨⟨hst.os,hst.tape,hst.output,hst.size,fun b hb=>hst.old b hb fun l p h=>by cases h⟩,fun b hb=>.inl (hst.I b hb),hnew,hI,rfl⟩
 have hrd:RD ν ⟨x'.w,(x'.oy (look st'.m)).I,x.β⟩ v d:=by
  rw[<-hrp];have key:∀(v:Value) (d:D),RD ν (x'.oy (look st'.m)) v d->d.bJ=true->RD ν ⟨x'.w,(x'.oy (look st'.m)).I,x.β⟩ v d:=fun v d h hn=>h.bJ hn (fun _ h=>h) (fun _ _=>rfl)
  unfold mE at r2;unfold Mh at hrpo;unfold Wg;rcases hres:af.res with _|⟨r,_|⟨r2',rs⟩⟩
  .simp only[hres]at r2 hrpo⊢;generalize hvs:ru st'.m env' []=vs at r2 hrpo⊢;cases r2 with
   |tup cs _ hl' hh'=>
    obtain⟨q1,q2,q3⟩:=kq hi'.oZ (fun _ _=>rfl) af.rsh vs (fun j=>cs.getD j undef) hh' hrpo;exact .tup cs _ (by rw[q1,hl']) fun i hi=>key _ _ (q3 i ae) (dn q2 i)
  .simp only[hres]at r2 hrpo⊢;obtain⟨q1,q2⟩:=uN hi'.oZ (fun _ _=>rfl) _ _ _ r2 hrpo;exact key _ _ q1 q2
  .simp only[hres]at r2 hrpo⊢;generalize hvs:ru st'.m env' (r::r2'::rs)=vs at r2 hrpo⊢;cases r2 with
   |tup cs _ hl' hh'=>
    obtain⟨q1,q2,q3⟩:=kq hi'.oZ (fun _ _=>rfl) af.rsh vs (fun j=>cs.getD j undef) hh' hrpo;exact .tup cs _ (by rw[q1,hl']) fun i hi=>key _ _ (q3 i ae) (dn q2 i)
 rcases Ex.Fg hh with h|h<;>rw[h]at he<;>subst he<;>exact⟨hi'.defers,v,r1,⟨x'.w,(x'.oy (look st'.m)).I,x.β⟩,rfl,hps,hrd⟩
def Vb {fid:Nat}{fn:Func}{af:aC}{vd sd:D}(hΓ:Ok P ν c8 Y)(hmix:P.follows .mixedOrders=true)(hf:P.funcs[fid]? =some fn)(hc:compile P ν c8 fn=some af)
  {x:X} {f:Nat->Option bX} {args:Array Value} {l k:Nat} {d:D} {ds:List D} (hl:args.size=ds.length+1) (h0:RD ν x (args.getD 0 undef) (.ptr l k 0 0)) (hargs:∀i,i<ds.length->RD ν x (args.getD (i+1) undef) (ds.getD i .any))
  (hs:gE ν x f) (hfl:f l=some (.buf k [d])) (hd:d.bJ=true) (hnl:bH ds=true) (hnp:ds.length+1=af.np)
  (hw:bK (Y.at 1) af.body (fun e env st=>e.home/\rr st.m env af.res/\(mE af env st).bJ=true/\mE af env st=vd/\look st.m 0=some (.buf k [sd])/\sd.bJ=true) (fF af (.ptr 0 k 0 0::ds)) ⟨1,[(0,.buf k [d])]⟩):
  Calls P fid args x.w fun
   | .returned v,w'=>∃x',x'.w=w'/\Step x x'/\RD ν x' v vd/\gE ν x' (fun l'=>if l'=l then some (.buf k [sd])else f l')/\x'.β=x.β
   |_,_=>False:=by
 obtain⟨body,c1,c2,c3,c4,c5,c6⟩:=jF hc;obtain⟨b,base,tot,hβ,ha0⟩:∃b base tot,x.β l=some (b,base,tot)/\args.getD 0 undef=.pointer (some ⟨b,base,none⟩):=by
  generalize args.getD 0 undef=v0 at h0;cases h0 with
  |ptr _ _ _ _ b base tot at_ hβ hat=>exact⟨b,base,tot,hβ,by simp[hat]⟩
 let x1:X:=⟨x.w,x.I,fun l'=>if l'=0 then x.β l else none⟩
 have hx1:∀l' p,x1.β l'=some p->l'=0/\p=(b,base,tot):=by
  intro l' p h;simp only[x1]at h;split at h
  .rename_i e;rw[hβ]at h;exact⟨e,(bL h).symm⟩
  .cases h
 have hx1':x1.β 0=some (b,base,tot):=by simp[x1,hβ]
 have key1:∀(v:Value) (d:D),RD ν x v d->d.bJ=true->RD ν x1 v d:=fun v d h hn=>h.bJ hn (fun _ h=>h) (fun _ _=>rfl)
 have hbR:=hs.own l _ b base tot hfl hβ;have hs1:gE ν x1 (look [(0,.buf k [d])]):=by
  refine⟨fun l' blk b' base' tot' e1 e2=>?_,fun l1 l2 b' base' tot' base'' tot'' e1 e2 e3 e4=>(hx1 _ _ e3).1.trans (hx1 _ _ e4).1.symm,hs.imm,fun l' b' base' tot' e=>?_,dS.le x _ (fun _ h=>h) (fun _ _=>rfl) hs.gd⟩
  .obtain⟨rfl,e3⟩:=hx1 _ _ e2;simp only[eH]at e3;obtain⟨rfl,rfl,rfl⟩:=e3;simp only[look,aW,bh]at e1;subst e1;refine⟨hbR.1, ?_⟩;obtain⟨p1,p2,c,T,fr,p3,p4,p5,p6⟩:=hbR.2;refine⟨p1,p2,c,T,fr,p3,p4,p5,fun i hi=>⟨(p6 i hi).1,fun j hj=>⟨((p6 i hi).2 j hj).1,key1 _ _ ((p6 i hi).2 j hj).2 ?_⟩⟩⟩;have:i=0:=by simpa using hi
   subst this;exact mw (by simpa using hd) j
  .obtain⟨_,e3⟩:=hx1 _ _ e;simp only[eH]at e3;rw[e3.1];exact hs.fe l b base tot hβ
 have hf1:gB ⟨1,[(0,.buf k [d])]⟩ x1:=⟨fun l' hl'=>by
   cases h:x1.β l' with
   |none=>rfl
   |some p=>have:=(hx1 _ _ h).1;simp only at hl';omega,fun l' hl'=>by
   simp only[look]at hl';split at hl'
   .rename_i e;simp only;omega
   .exact absurd rfl hl'⟩
 have hi:=xI (P:=P) (ν:=ν) (c8:=c8) (x:=x1) (ds:=.ptr 0 k 0 0::ds) (st:=⟨1,[(0,.buf k [d])]⟩) c4 c5 c6 (args:=args) (by simpa using hl) (by simpa using hnp) (fun i hi=>by
  cases i with
  |zero=>simp only[jC];rw[ha0];exact .ptr 0 k 0 0 b base tot base hx1' aJ
  |succ i=>simp only[List.getD_cons_succ];exact key1 _ _ (hargs i (by simpa using hi)) (dn hnl i)) hs1 hf1
 have hcs:=uh (C:={P,ν,c8,slots:=slotsOf fn,ntmps:=fn.ntmps,vm:=Qv P fn}) (hΓ.at 1) (pw fn).1 hmix x1 (fun l h=>hf1.β l h) body af.body c2 _ _ _ _ x1 hw hi (.refl _);refine calls_of_wp hf c1 (wp_mono hcs fun e a w' hp=>?_);obtain⟨e',x',env',st',he,hxw,hst,hi',hh,hro,hrn,hrv,hlk,hsn⟩:=hp;subst hxw;obtain⟨v,r1,r2,r3⟩:=sA hΓ.small hi' c3 hro
 let x2:X:=⟨x'.w,x'.I,x.β⟩
 have key2:∀(v:Value) (d:D),RD ν x' v d->d.bJ=true->RD ν x2 v d:=fun v d h hn=>h.bJ hn (fun _ h=>h) (fun _ _=>rfl)
 have hb':x'.β 0=some (b,base,tot):=hst.β _ _ hx1';have hnewI:∀b',x'.I b'->x.I b'\/x.w.heap.size<=b'\/b'=b:=by
  intro b' h;rcases hst.newI b' h with h|h|⟨l',p,h1,h2⟩
  .exact .inl h
  .exact .inr (.inl h)
  .right;right;rw[<-h2,(hx1 _ _ h1).2]
 have hstep:Step x x2:=by
  refine⟨hst.os,hst.tape,hst.output,hst.size,hst.I,hst.oB,fun _ _ h=>h,fun b' hb' hn=>hst.old b' hb' fun l' p h e=>?_,fun b' h=>?_,fun _ _ h=>.inl h⟩
  .have:=hn l _ hβ;rw[(hx1 _ _ h).2]at e;exact this e
  .rcases hnewI b' h with h|h|h
   .exact .inl h
   .exact .inr (.inl h)
   .exact .inr (.inr ⟨l,_,hβ,h.symm⟩)
 have hsim:gE ν x2 (fun l'=>if l'=l then some (.buf k [sd])else f l'):=by
  have hbb:=hi'.oZ.own 0 _ b base tot hlk hb';refine⟨fun l' blk b' base' tot' e1 e2=>?_,fun l1 l2 b' base' tot' base'' tot'' e1 e2 e3 e4=>?_,hi'.oZ.imm,fun l' b' base' tot' e=>fq (hs.fe l' b' base' tot' e) hst.size,dS.le x' _ (fun _ h=>h) (fun _ _=>rfl) hi'.oZ.gd⟩
  .by_cases hll:l'=l
   .subst hll;simp only[aW,bh]at e1;subst e1;have e2':x.β l'=some (b',base',tot'):=e2;rw[hβ]at e2';simp only[bh,eH]at e2';obtain⟨rfl,rfl,rfl⟩:=e2';refine⟨hbb.1, ?_⟩;obtain⟨p1,p2,c,T,fr,p3,p4,p5,p6⟩:=hbb.2;refine⟨p1,p2,c,T,fr,p3,p4,p5,fun i hi=>⟨(p6 i hi).1,fun j hj=>⟨((p6 i hi).2 j hj).1,key2 _ _ ((p6 i hi).2 j hj).2 ?_⟩⟩⟩;have:i=0:=by simpa using hi
    subst this;exact mw (by simpa using hsn) j
   .simp only[ak hll]at e1;have e2':x.β l'=some (b',base',tot'):=e2;obtain⟨q1,q2⟩:=hs.own l' blk b' base' tot' e1 e2';have hne:b'≠b:=fun e=>by subst e;exact hll (hs.inj l' l b' base' tot' base tot (by rw[e1];simp) (by rw[hfl];simp) e2' hβ)
    have hlt:=hs.fe l' b' base' tot' e2';refine⟨fun h=>?_,q2.mono hstep.le (hst.old b' hlt fun l'' p h e=>hne (by rw[<-e,(hx1 _ _ h).2]))⟩;rcases hnewI b' h with h|h|h
    .exact q1 h
    .omega
    .exact hne h
  .have hne:∀l',(if l'=l then some (bX.buf k [sd])else f l')≠none->f l'≠none:=fun l' h=>by
    by_cases e:l'=l
    .rw[e,hfl];simp
    .rwa [ak e]at h
   exact hs.inj l1 l2 b' base' tot' base'' tot'' (hne _ e1) (hne _ e2) e3 e4
 rw[hrv]at r2;rcases Ex.Fg hh with h|h<;>rw[h]at he<;>subst he<;>exact⟨hi'.defers,v,r1,x2,rfl,hstep,key2 _ _ r2 (by rw[<-hrv];exact hrn),hsim,rfl⟩
structure YC where
 key:Nat->Nat
 mu:Nat->List D->Nat
 muE:Nat->List D->St->Nat
def Ctx.under (Y:Ctx)(R:YC)(k u:Nat):Ctx where
 pre n ds:=(R.key n<k\/R.key n=k/\R.mu n ds<u)/\Y.pre n ds
 val:=Y.val
 tr n ds st K:=(R.key n<k\/R.key n=k/\R.muE n ds st<u)/\Y.tr n ds st K
 fp n d ds:=(R.key n<k\/R.key n=k/\R.mu n (d::ds)<u)/\Y.fp n d ds
 fv:=Y.fv
 fs:=Y.fs
 lo:=Y.lo
def ok_of (R:YC)(hsm:∀fid n,eX ν fid=some n->n<1000000)(hB:∀t,c8.contains (1000000000+t)=true->t=dS.tB)
  (hp:∀fid n,eX ν fid=some n->∀ds,Y.pre n ds->Ok P ν c8 (Y.under R (R.key n) (R.mu n ds))->∀(x:X) (args:Array Value),args.size=ds.length->(∀i,i<ds.length->RD ν x (args.getD i undef) (ds.getD i .any))->bH ds=true->
    (∀b,x.I b->b<x.w.heap.size)->dS.gd x->jZ P x (fun v x'=>ou x x'/\RD ν x' v (Y.val n ds)) ((callFunc fid args).run P x.w))
  (hf:∀fid n,eX ν fid=some n->c8.contains (2*n+1)=true->∀(d:D) (ds:List D),Y.fp n d ds->Ok P ν c8 (Y.under R (R.key n) (R.mu n (d::ds)))->∀(x:X) (f:Nat->Option bX) (args:Array Value) (l k:Nat),args.size=ds.length+1->
    RD ν x (args.getD 0 undef) (.ptr l k 0 0)->(∀i,i<ds.length->RD ν x (args.getD (i+1) undef) (ds.getD i .any))->gE ν x f->f l=some (.buf k [d])->d.bJ=true->bH ds=true->
    jZ P x (fun v x'=>Step x x'/\RD ν x' v (Y.fv n d ds)/\gE ν x' (fun l'=>if l'=l then some (.buf k [Y.fs n d ds])else f l')/\x'.β=x.β) ((callFunc fid args).run P x.w))
  (he:∀fid n,eX ν fid=some n->∀(ds:List D) (st:St) (K:D->St->Prop),Y.tr n ds st K->Ok P ν c8 (Y.under R (R.key n) (R.muE n ds st))->∀(x:X) (args:Array Value),args.size=ds.length->(∀i,i<ds.length->RD ν x (args.getD i undef) (ds.getD i .any))->
    gE ν x (look st.m)->gB st x->jZ P x (fun v x'=>∃d st',K d st'/\Step x x'/\RD ν x' v d/\gE ν x' (look st'.m)/\gB st' x') ((callFunc fid args).run P x.w)):Ok P ν c8 Y:=by
 have key:∀k u,Ok P ν c8 (Y.under R k u):=by
  intro k;induction k using Nat.strongRecOn with
  |_ k ihk=>
   intro u;induction u using Nat.strongRecOn with
   |_ u ihu=>
    refine⟨hsm,hB,fun fid n hn x args ds hl hargs hnl himm hgd hpre=>?_,fun fid n hn hef x f args l kk d ds hl h0 hargs hs hfl hd hnl hpre=>?_,fun fid n hn x args ds st K hl hargs hs hf' htr=>?_⟩
    .obtain⟨hlt,hpre⟩:=hpre;refine hp fid n hn ds hpre ?_ x args hl hargs hnl himm hgd;rcases hlt with h|⟨h1,h2⟩
     .exact ihk _ h _
     .rw[h1];exact ihu _ h2
    .obtain⟨hlt,hpre⟩:=hpre;refine hf fid n hn hef d ds hpre ?_ x f args l kk hl h0 hargs hs hfl hd hnl;rcases hlt with h|⟨h1,h2⟩
     .exact ihk _ h _
     .rw[h1];exact ihu _ h2
    .obtain⟨hlt,htr⟩:=htr;refine he fid n hn ds st K htr ?_ x args hl hargs hs hf';rcases hlt with h|⟨h1,h2⟩
     .exact ihk _ h _
     .rw[h1];exact ihu _ h2
 refine⟨hsm,hB,fun fid n hn x args ds hl hargs hnl himm hgd hpre=>?_,fun fid n hn hef x f args l kk d ds hl h0 hargs hs hfl hd hnl hpre=>?_,fun fid n hn x args ds st K hl hargs hs hf' htr=>?_⟩
 .exact hp fid n hn ds hpre (key _ _) x args hl hargs hnl himm hgd
 .exact hf fid n hn hef d ds hpre (key _ _) x f args l kk hl h0 hargs hs hfl hd hnl
 .exact he fid n hn ds st K htr (key _ _) x args hl hargs hs hf'
def js {fid:Nat}{fn:Func}(hf:P.funcs[fid]? =some fn)(hn:(fn.name== "runtime.NumGoroutine")=false)(hb:fn.body.isSome=true)(args:Array Value)(w:World):(callFunc fid args).run P w=.ok (.enter fid args) w:=by
 have h1:fn.name≠ "runtime.NumGoroutine" :=by simpa using hn
 have h2:fn.body≠none:=by intro h;rw[h]at hb;cases hb
 simp[callFunc,hf,h1,h2]
end
end
def cv {p:Prop}(h:p:=by first|exact fun _=>rfl|exact fun h=>h|(intro h;simp_all)):p:=h
def dt {p:Prop}(h:p:=by first|exact rfl|exact⟨_,_,rfl,rfl⟩):p:=h
def wi {p:Prop}(h:p:=by first|exact fun _=>rfl|(intro h;omega)|(intro h;simp at h;omega)):p:=h
def yW {p:Prop}(h:p:=by intro h;repeat' first|exact trivial|exact rfl|exact h|refine And.intro ?_ ?_|decide):p:=h
def xS {p:Prop}(h:p:=by simp only[aP,a8,Nat.reduceAdd];exact rfl):p:=h
def vg {p:Prop}(h:p:=by intro h;first|omega|(simp at h;omega)):p:=h
def IL {p:Prop}(h:p:=by intro h;first|(constructor<;>omega)|(simp at h;constructor<;>omega)):p:=h
section
section
variable {Y:Ctx} {Q Q':Ex->List ch->St->Prop} {env:List ch} {st:St}
def Ctx.b8 (Y:Ctx):Prop:=∀f ds st (K K':D->St->Prop),(∀d st,K d st->K' d st)->Y.tr f ds st K->Y.tr f ds st K'
def jM {draw:Bool}{K K':List ch->St->Prop}(h:∀vs st,K vs st->K' vs st)(htr:Y.b8):∀(l:List GI) (env vs:List ch) (st:St),gS Y draw l env vs st K->gS Y draw l env vs st K'
 |[],env,vs,st,hh=>h _ _ hh
 |⟨i,g⟩::r,env,vs,st,hh=>by
  cases hcm:i.dD with
  |true=>
   cases i<;>simp only[aV.dD]at hcm<;>try(cases hcm;done)
   .exact⟨hh.1,fun hf=>⟨(hh.2.1 hf).1,htr _ _ _ _ _ (fun d st' ⟨h1,h2⟩=>⟨h1,jM h htr r _ _ _ h2⟩) (hh.2.1 hf).2⟩,fun hf=>jM h htr r _ _ _ (hh.2.2 hf)⟩
   .rename_i fv args;simp only[gS]at hh⊢;refine⟨hh.1,fun hf=>⟨(hh.2.1 hf).1,(hh.2.1 hf).2.1, ?_⟩,fun hf=>jM h htr r _ _ _ (hh.2.2 hf)⟩;have h3:=(hh.2.1 hf).2.2;cases hd:(Src.ev env vs fv).d<;>simp only[hd]at h3⊢;exact⟨h3.1,htr _ _ _ _ _ (fun d st' ⟨h1,h2⟩=>⟨h1,jM h htr r _ _ _ h2⟩) h3.2⟩
   .exact⟨hh.1,hh.2.1,hh.2.2.1,fun b hb=>jM h htr r _ _ _ (hh.2.2.2 b hb)⟩
  |false=>
   cases hf:i.rR draw g with
   |true=>
    rw[DQ hcm hf]at hh⊢;exact⟨hh.1,fun e=>⟨(hh.2.1 e).1,jM h htr r _ _ _ (hh.2.1 e).2⟩,fun e=>jM h htr r _ _ _ (hh.2.2 e)⟩
   |false=>
    rw[oe hcm hf]at hh⊢;exact⟨hh.1,hh.2.1,fun ha=>(hh.2.2 ha).imp fun _ h2=>⟨h2.1,jM h htr r _ _ _ h2.2⟩⟩
def Gh.mono {lo:Nat}{p q:List ch->St->Prop}(h:∀env st,p env st->q env st):Gh lo p env st->Gh lo q env st
 |⟨e,s,h1,h2⟩=>⟨e,s,h1,h _ _ h2⟩
def Gh.intro {lo:Nat}{p:List ch->St->Prop}(h:p env st):Gh lo p env st:=⟨env,st,.refl _ _,h⟩
def il (htr:Y.b8):∀(a:AC) (Q Q':Ex->List ch->St->Prop) (env:List ch) (st:St),(∀e env st,Q e env st->Q' e env st)->bK Y a Q env st->bK Y a Q' env st
 | .reg draw ins cm,Q,Q',env,st,h,hh=>Gh.mono (fun env st h2=>jM (fun vs st=>h _ _ _) htr _ _ _ _ h2) hh
 | .seq a b,Q,Q',env,st,h,hh=>Gh.mono (fun env st h2=>il htr a _ _ env st (fun e env st h2=>by
   cases e with
   |normal=>exact il htr b Q Q' env st h h2
   |exit id=>exact h _ _ _ h2
   |ret=>exact h _ _ _ h2) h2) hh
 | .cond c a b,Q,Q',env,st,h,hh=>Gh.mono (fun env st h2=>by
  refine⟨h2.1, ?_⟩;have:=h2.2;cases hd:(c.ev env []).d<;>simp only[hd]at this⊢;exact⟨fun ht=>il htr a Q Q' env st h (this.1 ht),fun ht=>il htr b Q Q' env st h (this.2 ht)⟩) hh
 | .block id a,Q,Q',env,st,h,hh=>Gh.mono (fun env st h2=>il htr a _ _ env st (fun e env st h2=>by
   cases e with
   |normal=>exact h _ _ _ h2
   |exit j=>simp only at h2⊢;split<;>rename_i hj<;>simp only[hj,aW,aX]at h2<;>exact h _ _ _ h2
   |ret=>exact h _ _ _ h2) h2) hh
 | .loop a,Q,Q',env,st,h,hh=>Gh.mono (fun env st h2=>by
  obtain⟨I,μ,h1,h2⟩:=h2;refine⟨I,μ,h1,fun env st hi=>il htr a _ _ env st (fun e env' st' h3=>?_) (h2 env st hi)⟩;cases e with
  |normal=>exact h3
  |exit id=>exact h _ _ _ h3
  |ret=>exact h _ _ _ h3) hh
 | .exit id,Q,Q',env,st,h,hh=>Gh.mono (fun _ _=>h _ _ _) hh
 | .ret,Q,Q',env,st,h,hh=>Gh.mono (fun _ _=>h _ _ _) hh
 | .skip,Q,Q',env,st,h,hh=>Gh.mono (fun _ _=>h _ _ _) hh
def ik {a:AC}{env':List ch}{st':St}(g:a7 Y.lo env st env' st')(h:bK Y a Q env' st'):bK Y a Q env st:=by
 cases a<;>(obtain⟨e2,s2,g2,h2⟩:=h;exact⟨e2,s2,.trans _ _ _ _ _ _ g g2,h2⟩)
def BQ (Y:Ctx)(id:Nat)(r:AC)(Q:Ex->List ch->St->Prop):Ex->List ch->St->Prop:=fun e env st=>match e with
 | .normal=>bK Y r Q env st
 | .exit j=>if j=id then bK Y r Q env st else Q (.exit j) env st
 | .ret=>Q .ret env st
def LQ (Y:Ctx)(id:Nat)(r:AC)(next:List ch->St->Prop)(Q:Ex->List ch->St->Prop):Ex->List ch->St->Prop:=fun e env st=>match e with
 | .normal=>next env st
 | .exit j=>if j=id then bK Y r Q env st else Q (.exit j) env st
 | .ret=>Q .ret env st
def BQ.normal {id:Nat}{r:AC}(h:bK Y r Q env st):BQ Y id r Q .normal env st:=h
def BQ.out {id:Nat}{r:AC}(h:bK Y r Q env st):BQ Y id r Q (.exit id) env st:=by simp only[BQ,aW];exact h
def BQ.other {id j:Nat}{r:AC}(hj:(j==id)=false)(h:Q (.exit j) env st):BQ Y id r Q (.exit j) env st:=by simp only[BQ,ak (by simpa using hj)];exact h
def BQ.ret {id:Nat}{r:AC}(h:Q .ret env st):BQ Y id r Q .ret env st:=h
def LQ.normal {id:Nat}{r:AC}{next:List ch->St->Prop}(h:next env st):LQ Y id r next Q .normal env st:=h
def LQ.out {id:Nat}{r:AC}{next:List ch->St->Prop}(h:bK Y r Q env st):LQ Y id r next Q (.exit id) env st:=by simp only[LQ,aW];exact h
def LQ.other {id j:Nat}{r:AC}{next:List ch->St->Prop}(hj:(j==id)=false)(h:Q (.exit j) env st):LQ Y id r next Q (.exit j) env st:=by simp only[LQ,ak (by simpa using hj)];exact h
def LQ.ret {id:Nat}{r:AC}{next:List ch->St->Prop}(h:Q .ret env st):LQ Y id r next Q .ret env st:=h
def Ug {a b c:AC}(h:bK Y (.seq a (.seq b c)) Q env st):bK Y (.seq (.seq a b) c) Q env st:=by
 obtain⟨e1,s1,g1,h1⟩:=h;refine⟨e1,s1,g1,e1,s1,.refl _ _, ?_⟩;have:∀(Q1 Q2:Ex->List ch->St->Prop),Q1=Q2->bK Y a Q1 e1 s1->bK Y a Q2 e1 s1:=fun _ _ e h=>e▸h
 refine this _ _ ?_ h1;funext e env st;cases e with
 |normal=>exact propext ⟨fun⟨e2,s2,g2,h2⟩=>ik g2 h2,fun h=>⟨_,_,.refl _ _,h⟩⟩
 |exit id=>rfl
 |ret=>rfl
def KY {b:AC}(h:bK Y b Q env st):bK Y (.seq .skip b) Q env st:=.intro (.intro h)
def wp_skip (h:Q .normal env st):bK Y .skip Q env st:=.intro h
def QC {b:AC}(h:Q .ret env st):bK Y (.seq .ret b) Q env st:=.intro (.intro h)
def wp_ret (h:Q .ret env st):bK Y .ret Q env st:=.intro h
def KX {id:Nat}{b:AC}(h:Q (.exit id) env st):bK Y (.seq (.exit id) b) Q env st:=.intro (.intro h)
def wp_exit {id:Nat}(h:Q (.exit id) env st):bK Y (.exit id) Q env st:=.intro h
def II {id:Nat}{a r:AC}(h:bK Y a (BQ Y id r Q) env st)(htr:Y.b8):bK Y (.seq (.block id a) r) Q env st:=by
 refine .intro (.intro (il htr a _ _ _ _ (fun e env st h=>?_) h));cases e with
 |normal=>exact h
 |exit j=>simp only[BQ]at h⊢;split<;>rename_i hj<;>simp only[hj,aW,aX]at h<;>exact h
 |ret=>exact h
def wp_block {id:Nat}{a:AC}(h:bK Y a (BQ Y id .skip Q) env st)(htr:Y.b8)(hQ:∀e env env' st st',a7 Y.lo env st env' st'->Q e env' st'->Q e env st):bK Y (.block id a) Q env st:=by
 refine .intro (il htr a _ _ _ _ (fun e env st h=>?_) h);have hs:∀env st,bK Y .skip Q env st->Q .normal env st:=fun env st ⟨e2,s2,g2,h2⟩=>hQ _ _ _ _ _ g2 h2
 cases e with
 |normal=>exact hs _ _ h
 |exit j=>simp only[BQ]at h⊢;split<;>rename_i hj<;>simp only[hj,aW,aX]at h<;>first|exact hs _ _ h|exact h
 |ret=>exact h
def CQ (next:List ch->St->Prop)(Q:Ex->List ch->St->Prop):Ex->List ch->St->Prop:=fun e env st=>match e with
 | .normal=>next env st
 | .exit j=>Q (.exit j) env st
 | .ret=>Q .ret env st
def CQ.normal {next:List ch->St->Prop}(h:next env st):CQ next Q .normal env st:=h
def CQ.other {next:List ch->St->Prop}{j:Nat}(h:Q (.exit j) env st):CQ next Q (.exit j) env st:=h
def CQ.ret {next:List ch->St->Prop}(h:Q .ret env st):CQ next Q .ret env st:=h
def I1 (id:Nat)(Q:Ex->List ch->St->Prop):Ex->List ch->St->Prop:=fun e env st=>match e with
 | .normal=>Q .normal env st
 | .exit j=>if j=id then Q .normal env st else Q (.exit j) env st
 | .ret=>Q .ret env st
def I1.normal {id:Nat}(h:Q .normal env st):I1 id Q .normal env st:=h
def I1.out {id:Nat}(h:Q .normal env st):I1 id Q (.exit id) env st:=by simp only[I1,aW];exact h
def I1.other {id j:Nat}(hj:(j==id)=false)(h:Q (.exit j) env st):I1 id Q (.exit j) env st:=by grind [I1]
def I1.ret {id:Nat}(h:Q .ret env st):I1 id Q .ret env st:=h
def QB {id:Nat}{a:AC}(h:bK Y a (I1 id Q) env st)(htr:Y.b8):bK Y (.block id a) Q env st:=by
 refine .intro (il htr a _ _ _ _ (fun e env st h=>?_) h);cases e with
 |normal=>exact h
 |exit j=>simp only[I1]at h⊢;split<;>rename_i hj<;>simp only[hj,aW,aX]at h<;>exact h
 |ret=>exact h
def sO (htr:Y.b8){a b:AC}{ι:Type}(F:ι->List ch)(G:ι->List (Nat×bX))(c:Nat)(P:ι->Prop)
  (h1:bK Y a (CQ (fun env' st'=>∃j,P j/\a7 Y.lo env' st' (F j) ⟨c,G j⟩) Q) env st)
  (h2:∀i,P i->bK Y b Q (F i) ⟨c,G i⟩):bK Y (.seq a b) Q env st:=by
 refine .intro (il htr a _ _ _ _ (fun e env st h=>?_) h1);cases e with
 |normal=>obtain⟨j,hj,g⟩:=h;exact ik g (h2 j hj)
 |exit j=>exact h
 |ret=>exact h
def ba (htr:Y.b8){a r:AC}{id:Nat}{ι:Type}(F:ι->List ch)(G:ι->List (Nat×bX))(c:Nat)(P:ι->Prop)(μ:ι->Nat)(i0:ι)
  (hP:P i0) (h0:a7 Y.lo env st (F i0) ⟨c,G i0⟩)
  (hr:∀i,P i->bK Y a (LQ Y id r (fun env' st'=>∃j,P j/\μ j<μ i/\a7 Y.lo env' st' (F j) ⟨c,G j⟩) Q) (F i) ⟨c,G i⟩):bK Y (.seq (.block id (.loop a)) r) Q env st:=by
 let W:List ch->St->Nat->Prop:=fun env st k=>∃i,env=F i/\st=⟨c,G i⟩/\P i/\μ i=k
 have least:∀env st,(∃k,W env st k)->∃k,W env st k/\∀k',W env st k'->k<=k':=by
  intro env st ⟨k,hk⟩;induction k using Nat.strongRecOn with
  |_ k ih=>
   by_cases h:∃k',k'<k/\W env st k'
   .obtain⟨k',h1,h2⟩:=h;exact ih k' h1 h2
   .exact⟨k,hk,fun k' hk'=>by
     rcases iq k' k with h1|h1
     .exact absurd ⟨k',h1,hk'⟩ h
     .exact h1⟩
 open Classical in
 refine .intro (.intro ⟨_,_,h0,fun env st=>∃k,W env st k,fun env st=>if h:∃k,W env st k then Classical.choose (least env st h)else 0,⟨_,i0,rfl,rfl,hP,rfl⟩,fun env st hk=>?_⟩);obtain⟨⟨i,e1,e2,e3,e5⟩,hmin⟩:=Classical.choose_spec (least env st hk);have:=hr i e3;rw[<-e1,<-e2]at this;refine il htr a _ _ env st ?_ this
 .intro e env' st' h;cases e with
  |normal=>
   obtain⟨j,b3,b5,g⟩:=h;have hW:W (F j) ⟨c,G j⟩ (μ j):=⟨j,rfl,rfl,b3,rfl⟩;refine⟨F j,⟨c,G j⟩,g,⟨_,hW⟩, ?_⟩;show(if h:∃k,W (F j) ⟨c,G j⟩ k then Classical.choose (least _ _ h)else 0)<(if h:∃k,W env st k then Classical.choose (least env st h)else 0);rw[dif_pos ⟨_,hW⟩,dif_pos hk,<-e5];exact Nat.lt_of_le_of_lt ((Classical.choose_spec (least _ _ ⟨_,hW⟩)).2 _ hW) b5
  |exit j=>simp only[LQ]at h⊢;split<;>rename_i hj<;>simp only[hj,aW,aX]at h<;>exact h
  |ret=>exact h
def I3 (id:Nat)(next:List ch->St->Prop)(Q:Ex->List ch->St->Prop):Ex->List ch->St->Prop:=fun e env st=>match e with
 | .normal=>next env st
 | .exit j=>if j=id then Q .normal env st else Q (.exit j) env st
 | .ret=>Q .ret env st
def I3.normal {id:Nat}{next:List ch->St->Prop}(h:next env st):I3 id next Q .normal env st:=h
def I3.out {id:Nat}{next:List ch->St->Prop}(h:Q .normal env st):I3 id next Q (.exit id) env st:=by simp only[I3,aW];exact h
def I3.other {id j:Nat}{next:List ch->St->Prop}(hj:(j==id)=false)(h:Q (.exit j) env st):I3 id next Q (.exit j) env st:=by grind [I3]
def I3.ret {id:Nat}{next:List ch->St->Prop}(h:Q .ret env st):I3 id next Q .ret env st:=h
def qU (htr:Y.b8){a:AC}{id:Nat}{ι:Type}(F:ι->List ch)(G:ι->List (Nat×bX))(c:Nat)(P:ι->Prop)(μ:ι->Nat)(i0:ι)
  (hP:P i0) (h0:a7 Y.lo env st (F i0) ⟨c,G i0⟩)
  (hr:∀i,P i->bK Y a (I3 id (fun env' st'=>∃j,P j/\μ j<μ i/\a7 Y.lo env' st' (F j) ⟨c,G j⟩) Q) (F i) ⟨c,G i⟩):bK Y (.block id (.loop a)) Q env st:=by
 let W:List ch->St->Nat->Prop:=fun env st k=>∃i,env=F i/\st=⟨c,G i⟩/\P i/\μ i=k
 have least:∀env st,(∃k,W env st k)->∃k,W env st k/\∀k',W env st k'->k<=k':=by
  intro env st ⟨k,hk⟩;induction k using Nat.strongRecOn with
  |_ k ih=>
   by_cases h:∃k',k'<k/\W env st k'
   .obtain⟨k',h1,h2⟩:=h;exact ih k' h1 h2
   .exact⟨k,hk,fun k' hk'=>by
     rcases iq k' k with h1|h1
     .exact absurd ⟨k',h1,hk'⟩ h
     .exact h1⟩
 open Classical in
 refine .intro ⟨_,_,h0,fun env st=>∃k,W env st k,fun env st=>if h:∃k,W env st k then Classical.choose (least env st h)else 0,⟨_,i0,rfl,rfl,hP,rfl⟩,fun env st hk=>?_⟩;obtain⟨⟨i,e1,e2,e3,e5⟩,hmin⟩:=Classical.choose_spec (least env st hk);have:=hr i e3;rw[<-e1,<-e2]at this;refine il htr a _ _ env st ?_ this
 .intro e env' st' h;cases e with
  |normal=>
   obtain⟨j,b3,b5,g⟩:=h;have hW:W (F j) ⟨c,G j⟩ (μ j):=⟨j,rfl,rfl,b3,rfl⟩;refine⟨F j,⟨c,G j⟩,g,⟨_,hW⟩, ?_⟩;show(if h:∃k,W (F j) ⟨c,G j⟩ k then Classical.choose (least _ _ h)else 0)<(if h:∃k,W env st k then Classical.choose (least env st h)else 0);rw[dif_pos ⟨_,hW⟩,dif_pos hk,<-e5];exact Nat.lt_of_le_of_lt ((Classical.choose_spec (least _ _ ⟨_,hW⟩)).2 _ hW) b5
  |exit j=>simp only[I3]at h⊢;split<;>rename_i hj<;>simp only[hj,aW,aX]at h<;>exact h
  |ret=>exact h
def nth:List ch->Nat->ch
 |[],_=>.un
 |a::_,0=>a
 |_::r,n+1=>nth r n
def Bi:∀(l:List ch) (n:Nat),l.getD n .un=nth l n
 |[],n=>by simp[nth]
 |a::_,0=>by simp[nth]
 |_::r,n+1=>by simpa[nth]using Bi r n
def cQ (env rs:List ch):Src->ch
 | .s n=>nth env n
 | .l p=>bif Nat.blt p rs.length then nth rs (rs.length-1-p)else .un
 | .c d=>⟨true,d⟩
theorem nQ (env rs:List ch):Src.ev env rs.reverse=cQ env rs:=by
 funext s;cases s with
 |s n=>exact Bi env n
 |l p=>
  simp only[Src.ev,cQ];cases h:Nat.blt p rs.length with
  |true=>
   have:p<rs.length:=by simp[Nat.blt]at h;omega
   rw[cond_true,<-Bi]
   grind
  |false=>
   have:¬p<rs.length:=by intro e;have:Nat.blt p rs.length=true:=by {simp[Nat.blt];omega};rw[this]at h;cases h
   grind
 |c d=>rfl
def aM (Y:Ctx)(draw:Bool)(l:List GI)(env rs:List ch)(nx:Nat)(m:List (Nat×bX))(K:List ch->St->Prop):Prop:=gS Y draw l env rs.reverse ⟨nx,m⟩ K
def Rm (env rs:List ch):List (Nat×Nat)->List ch
 |[]=>env
 |(s,p)::r=>Rm (env.set s (cQ [] rs (.l p))) rs r
theorem Jn (rs:List ch):∀(cm:List (Nat×Nat)) (env:List ch),ja env rs.reverse cm=Rm env rs cm
 |[],env=>rfl
 |(s,p)::r,env=>by
  simp only[ja,Rm];rw[Jn rs r,<-congrFun (nQ [] rs) (.l p)];rfl
def ar {draw:Bool}{ins:List GI}{cm:List (Nat×Nat)}{b:AC}{nx:Nat}{m:List (Nat×bX)}
  (h:aM Y draw ins env [] nx m (fun vs st'=>bK Y b Q (ja env vs cm) st')):bK Y (.seq (.reg draw ins cm) b) Q env ⟨nx,m⟩:=.intro (.intro h)
def Z2 {draw:Bool}{ins:List GI}{cm:List (Nat×Nat)}{nx:Nat}{m:List (Nat×bX)}
  (h:aM Y draw ins env [] nx m (fun vs st'=>Q .normal (ja env vs cm) st')):bK Y (.reg draw ins cm) Q env ⟨nx,m⟩:=.intro h
def Wc {draw:Bool}{cm:List (Nat×Nat)}{b:AC}{nx nx':Nat}{m:List (Nat×bX)}{rs fF env':List ch}(h:bK Y b Q env' ⟨nx',m⟩)
  (he:Rm env rs cm=env':=by exact rfl) (hn:nx+rs.length=nx':=by exact xS):aM Y draw [] fF rs nx m (fun vs st'=>bK Y b Q (ja env vs cm) st'):=by
 grind [aM,gS,Jn]
def Wd {draw:Bool}{cm:List (Nat×Nat)}{nx nx':Nat}{m:List (Nat×bX)}{rs fF env':List ch}(h:Q .normal env' ⟨nx',m⟩)
  (he:Rm env rs cm=env':=by exact rfl) (hn:nx+rs.length=nx':=by exact xS):aM Y draw [] fF rs nx m (fun vs st'=>Q .normal (ja env vs cm) st'):=by
 grind [aM,gS,Jn]
def av {c:Src}{a b r:AC}{t:Bool}(h1:t=true->bK Y (.seq a r) Q env st)(h2:t=false->bK Y (.seq b r) Q env st)(hc:cQ env [] c=⟨true,.bool t⟩:=by exact rfl):bK Y (.seq (.cond c a b) r) Q env st:=by
 have hc':c.ev env []=⟨true,.bool t⟩:=by rw[<-hc,<-nQ];rfl
 refine .intro (.intro ?_);simp only[hc'];refine⟨trivial,fun ht=>?_,fun ht=>?_⟩
 .obtain⟨e,s,g,h⟩:=h1 ht;exact ik g h
 .obtain⟨e,s,g,h⟩:=h2 ht;exact ik g h
def wp_cond {c:Src}{a b:AC}{t:Bool}(h1:t=true->bK Y a Q env st)(h2:t=false->bK Y b Q env st)(hc:cQ env [] c=⟨true,.bool t⟩:=by exact rfl):bK Y (.cond c a b) Q env st:=by
 have hc':c.ev env []=⟨true,.bool t⟩:=by rw[<-hc,<-nQ];rfl
 refine .intro ?_
 grind
theorem a7.to {lo c nx nx':Nat}{env env':List ch}{m m':List (Nat×bX)}(σ:List (Nat×Nat))(hc:nx'=c)(h:gT lo c σ=true)(he:dr lo σ env env')(hm:bo lo c σ m m'):a7 lo env ⟨nx,m⟩ env' ⟨nx',m'⟩:=by
 subst hc;exact .ren σ nx' env env' nx m m' h he hm
theorem aN {α β:Type}(q:α->β)(xs:List α):(xs.map q).take xs.length=xs.map q:=ee aJ
def br {α:Type}{q:α->D}(h:∀x,(q x).bJ=true):∀xs:List α,bH (xs.map q)=true
 |[]=>rfl
 |a::r=>by simp only[List.map_cons,bH,h a,br h r,nE]
def a7.fz {lo:Nat}{env env' env2:List ch}{nx k:Nat}{m m':List (Nat×bX)}{es:List D}{st2:St}(l:Nat)(hl:look m l=some (.buf k es))(hn:bH es=true)(he:lf l k es env=env')(hm:lQ l k es (cJ m l)=m')(h:a7 lo env' ⟨nx,m'⟩ env2 st2):a7 lo env ⟨nx,m⟩ env2 st2:=by
 have:=a7.QF (lo:=lo) l env ⟨nx,m⟩;simp only[Abs.QF,hl,hn,cond_true,he,hm]at this;exact .trans _ _ _ _ _ _ this h
def eI {a:AC}{nx k:Nat}{m m':List (Nat×bX)}{es:List D}{env env':List ch}(l:Nat)(h:bK Y a Q env' ⟨nx,m'⟩)(hl:look m l=some (.buf k es):=by exact rfl)(hn:bH es=true:=by first|exact rfl|exact br (fun _=>rfl) _)
  (he:lf l k es env=env':=by simp only[lf,iL,iV,lQ,nk,cJ,Nat.reduceEqDiff,aW,aX,cO,ct,cu,cT,cX,bR,bO,aL,bZ,aN,reduceCtorEq,aP,a8,Nat.reduceAdd,Nat.reduceLeDiff];exact rfl)
  (hm:lQ l k es (cJ m l)=m':=by simp only[lf,iL,iV,lQ,nk,cJ,Nat.reduceEqDiff,aW,aX,cO,ct,cu,cT,cX,bR,bO,aL,bZ,aN,reduceCtorEq,aP,a8,Nat.reduceAdd,Nat.reduceLeDiff];exact rfl):bK Y a Q env ⟨nx,m⟩:=
 ik (a7.fz l hl hn he hm (.refl _ _)) h
def WZ.rf:∀e:List ch,WZ e e
 |[]=>trivial
 |_::r=>⟨⟨rfl,.refl _⟩,WZ.rf r⟩
def I5.nil:I5 [] []:=⟨rfl,fun _=>.refl _⟩
def I5.cons {x y:D}{a b:List D}(h:yX x y)(h2:I5 a b):I5 (x::a) (y::b):=⟨by simp[h2.1],fun i=>by cases i with
 |zero=>exact h
 |succ i=>simpa using h2.2 i⟩
def I5.rf (a:List D):I5 a a:=⟨rfl,fun _=>.refl _⟩
def I5.map {α:Type}{q p:α->D}:∀{xs:List α},(∀x∈xs,yX (q x) (p x))->I5 (xs.map q) (xs.map p)
 |[],_=>.nil
 |x::r,h=>.cons (h x (.head _)) (I5.map fun y hy=>h y (.tail _ hy))
def yX.ag {a b:List D}(h:I5 a b):yX (.agg a) (.agg b):=.agg _ _ h.1 h.2
def yX.ss {k:Nat}{a b:List D}(h:I5 a b):yX (.sl k a) (.sl k b):=.sl _ _ _ h.1 h.2
def Oi.nil {m:List (Nat×bX)}:Oi m []:=trivial
def Oi.id {m r:List (Nat×bX)}{l:Nat}{b:bX}(h:look m l=some b)(h2:Oi m r):Oi m ((l,b)::r):=⟨⟨b,h,by cases b<;>first|exact⟨rfl,.rf _⟩|exact rfl⟩,h2⟩
def Oi.bf {m r:List (Nat×bX)}{l k:Nat}{es es':List D}(h:look m l=some (.buf k es))(hw:I5 es es')(h2:Oi m r):Oi m ((l,.buf k es')::r):=⟨⟨_,h,rfl,hw⟩,h2⟩
def kP {a:AC}{nx:Nat}{m:List (Nat×bX)}{env:List ch}(m':List (Nat×bX))(hm:Oi m m')(h:bK Y a Q env ⟨nx,m'⟩):bK Y a Q env ⟨nx,m⟩:=ik (.nz _ _ _ _ _ (WZ.rf _) hm) h
def dr.nil {lo:Nat}{σ:List (Nat×Nat)}:dr lo σ [] []:=trivial
def dr.un {lo:Nat}{σ:List (Nat×Nat)}{a:ch}{r s:List ch}(h:dr lo σ r s):dr lo σ (a::r) (.un::s):=⟨.inr rfl,h⟩
def dr.eq {lo:Nat}{σ:List (Nat×Nat)}{ok:Bool}{d d':D}{r s:List ch}(hd:ra lo σ d=some d')(h:dr lo σ r s):dr lo σ (⟨ok,d⟩::r) (⟨ok,d'⟩::s):=⟨.inl ⟨rfl,.inr (.inl hd)⟩,h⟩
theorem dr.nl {lo:Nat}{σ:List (Nat×Nat)}{ok:Bool}{d d':D}{r s:List ch}(hd:d'=d)(hn:d.bJ=true)(h:dr lo σ r s):dr lo σ (⟨ok,d⟩::r) (⟨ok,d'⟩::s):=⟨.inl ⟨rfl,.inl ⟨hd,hn⟩⟩,h⟩
def dr.ni {lo:Nat}{σ:List (Nat×Nat)}{ok:Bool}{d d':D}{r s:List ch}(hd:vi d d')(h:dr lo σ r s):dr lo σ (⟨ok,d⟩::r) (⟨ok,d'⟩::s):=⟨.inl ⟨rfl,.inr (.inr hd)⟩,h⟩
section
variable {lo c:Nat} {σ:List (Nat×Nat)} {m r:List (Nat×bX)}
def bo.nil:bo lo c σ m []:=trivial
theorem bo.nl {k l':Nat}{es es':List D}(l:Nat)(hl:lU lo σ l=some l')(hm:look m l=some (.buf k es))(he:es'=es)(hn:bH es=true)(h:bo lo c σ m r):bo lo c σ m ((l',.buf k es')::r):=
 ⟨.inl ⟨l,_,hl,hm,rfl,.inl ⟨he,hn⟩⟩,h⟩
def bo.eq {k l':Nat}{es es':List D}(l:Nat)(hl:lU lo σ l=some l')(hm:look m l=some (.buf k es))(he:oO lo σ es=some es')(h:bo lo c σ m r):bo lo c σ m ((l',.buf k es')::r):=
 ⟨.inl ⟨l,_,hl,hm,rfl,.inr (.inl he)⟩,h⟩
def bo.ni {k l':Nat}{es es':List D}(l:Nat)(hl:lU lo σ l=some l')(hm:look m l=some (.buf k es))(he:EA es es')(h:bo lo c σ m r):bo lo c σ m ((l',.buf k es')::r):=
 ⟨.inl ⟨l,_,hl,hm,rfl,.inr (.inr he)⟩,h⟩
def bo.fY {k l':Nat}{es':List D}(hl:lU lo σ l'=some l')(hm:look m l'=some (.buf k es'))(hn:bH es'=true)(h:bo lo c σ m r):bo lo c σ m ((l',.buf k es')::r):=.nl l' hl hm rfl hn h
def bo.Gc {k l':Nat}{es' es:List D}(hl:lU lo σ l'=some l')(hm:look m l'=some (.buf k es))(he:oO lo σ es=some es')(h:bo lo c σ m r):bo lo c σ m ((l',.buf k es')::r):=.eq l' hl hm he h
def bo.mt {k l':Nat}{es':List D}(h1:Nat.ble lo l'=true)(h2:Nat.blt l' c=true)(h3:σ.all (fun p=>!Nat.beq p.2 l')=true)(he:es'=[])(h:bo lo c σ m r):bo lo c σ m ((l',.buf k es')::r):=
 ⟨.inr ⟨h1,h2,h3,k,by rw[he]⟩,h⟩
def bo.it {l' p p':Nat}{s s':List UInt8}(l:Nat)(hl:lU lo σ l=some l')(hm:look m l=some (.iter s p))(hs:s'=s)(hp:p'=p)(h:bo lo c σ m r):bo lo c σ m ((l',.iter s' p')::r):=
 ⟨.inl ⟨l,_,hl,hm,hs,hp⟩,h⟩
def bo.idi {l' p p':Nat}{s s':List UInt8}(hl:lU lo σ l'=some l')(hm:look m l'=some (.iter s p))(hs:s'=s)(hp:p'=p)(h:bo lo c σ m r):bo lo c σ m ((l',.iter s' p')::r):=.it l' hl hm hs hp h
def bo.rw {l':Nat}{s s':List UInt8}(l:Nat)(hl:lU lo σ l=some l')(hm:look m l=some (.row s))(hs:s'=s)(h:bo lo c σ m r):bo lo c σ m ((l',.row s')::r):=
 ⟨.inl ⟨l,_,hl,hm,hs⟩,h⟩
def bo.bl {l' l1 l2 n n':Nat}{u u':Bool}(l:Nat)(hl:lU lo σ l=some l')(hm:look m l=some (.bld (some l1) n u))(h1:lU lo σ l1=some l2)(hn:n'=n)(hu:u'=u)(h:bo lo c σ m r):bo lo c σ m ((l',.bld (some l2) n' u')::r):=
 ⟨.inl ⟨l,_,hl,hm,⟨l2,h1,rfl⟩,hn,hu⟩,h⟩
def bo.b0 {l' n n':Nat}{u u':Bool}(l:Nat)(hl:lU lo σ l=some l')(hm:look m l=some (.bld none n u))(hn:n'=n)(hu:u'=u)(h:bo lo c σ m r):bo lo c σ m ((l',.bld none n' u')::r):=
 ⟨.inl ⟨l,_,hl,hm,rfl,hn,hu⟩,h⟩
end
mutual
def xC (m:List (Nat×bX)):Sh->D->D
 | .a,d=>match d with
  | .bq=>.sl 0 []
  |d=>d
 | .sl k cs,d=>match d with
  | .bq=>.sl k []
  | .own l k' i c=>.sl k' ((((bD m l).drop i).take c).map fun e=>match e with
   | .agg ds=>.agg (xL m cs ds)
   |e=>xH m cs e)
  |d=>d
 | .pt cs,d=>match d with
  | .ptr l k i o=>.ref k ((bD m l).map fun e=>match e with
   | .agg ds=>.agg (xL m cs ds)
   |e=>xH m cs e) i o
  |d=>d
def xH (m:List (Nat×bX)):List Sh->D->D
 |[],d=>d
 |s::_,d=>xC m s d
def xL (m:List (Nat×bX)):List Sh->List D->List D
 |[],ds=>ds
 |s::r,ds=>match ds with
  |[]=>[]
  |d::ds=>xC m s d::xL m r ds
end
def xV (m:List (Nat×bX))(cs:List Sh):D->D
 | .agg ds=>.agg (xL m cs ds)
 |e=>xH m cs e
mutual
def Xr (m:List (Nat×bX)):Sh->D->Prop
 | .a,d=>d.bJ=true
 | .sl _ cs,d=>match d with
  | .own l k' i c=>fZ m l k' (i+c)/\∀e∈((bD m l).drop i).take c,(match e with
   | .agg ds=>Ui m cs ds
   |e=>Xs m cs e)
  |d=>d.bJ=true
 | .pt cs,d=>match d with
  | .ptr l k _ _=>fZ m l k 0/\∀e∈bD m l,(match e with
   | .agg ds=>Ui m cs ds
   |e=>Xs m cs e)
  |d=>d.bJ=true
def Xs (m:List (Nat×bX)):List Sh->D->Prop
 |[],d=>d.bJ=true
 |s::_,d=>Xr m s d
def Ui (m:List (Nat×bX)):List Sh->List D->Prop
 |[],ds=>bH ds=true
 |s::r,ds=>match ds with
  |[]=>True
  |d::ds=>Xr m s d/\Ui m r ds
end
def Uj (m:List (Nat×bX))(cs:List Sh):D->Prop
 | .agg ds=>Ui m cs ds
 |e=>Xs m cs e
mutual
theorem Uh (m:List (Nat×bX)):∀(s:Sh) (d:D),qb m s d=xC m s d/\(m7 m s d↔Xr m s d)
 | .a,d=>by cases d<;>simp only[qb,xC,m7,Xr]<;>exact⟨trivial,trivial⟩
 | .sl k cs,d=>by
  cases d<;>simp only[qb,xC,m7,Xr]<;>first
   |exact⟨trivial,trivial⟩
   |skip
  rename_i l k' i c;exact⟨aj (D.sl k') (List.map_congr_left fun e _=>(IJ m cs e).1),and_congr_right fun _=>forall_congr' fun e=>imp_congr_right fun _=>(IJ m cs e).2⟩
 | .pt cs,d=>by
  cases d<;>simp only[qb,xC,m7,Xr]<;>first
   |exact⟨trivial,trivial⟩
   |skip
  rename_i l k' i c;exact⟨aj (fun x=>D.ref k' x i c) (List.map_congr_left fun e _=>(IJ m cs e).1),and_congr_right fun _=>forall_congr' fun e=>imp_congr_right fun _=>(IJ m cs e).2⟩
theorem IJ (m:List (Nat×bX)):∀(cs:List Sh) (d:D),kR m cs d=(match d with
   | .agg ds=>.agg (xL m cs ds)
   |e=>xH m cs e)/\(jy m cs d↔(match d with
   | .agg ds=>Ui m cs ds
   |e=>Xs m cs e))
 |[],d=>by cases d<;>simp only[kR,xH,xL,jy,Xs,Ui,D.bJ]<;>first|exact⟨trivial,Iff.rfl⟩|exact⟨trivial,trivial⟩
 |s::r,d=>by
  cases d<;>simp only[kR,xH,jy,Xs]<;>first
   |exact Uh m s _
   |skip
  rename_i ds;exact⟨aj D.agg (Mz m (s::r) ds).1,(Mz m (s::r) ds).2⟩
theorem Mz (m:List (Nat×bX)):∀(cs:List Sh) (ds:List D),qc m cs ds=xL m cs ds/\(nL m cs ds↔Ui m cs ds)
 |[],ds=>by simp only[qc,xL,nL,Ui];exact⟨trivial,trivial⟩
 |s::r,[]=>by simp only[qc,xL,nL,Ui];exact⟨trivial,trivial⟩
 |s::r,d::ds=>by
  simp only[qc,xL,nL,Ui,(Uh m s d).1,(Mz m r ds).1];exact⟨trivial,and_congr (Uh m s d).2 (Mz m r ds).2⟩
end
theorem Ev (m:List (Nat×bX))(cs:List Sh)(d:D):kR m cs d=xV m cs d/\(jy m cs d↔Uj m cs d):=by
 have:=IJ m cs d;cases d<;>exact this
def oK (m:List (Nat×bX)):List (List Sh)->List D->List D
 |_,[]=>[]
 |[],d::r=>xV m [.a] d::oK m [] r
 |s::ss,d::r=>xV m s d::oK m ss r
def lv (m:List (Nat×bX)):List (List Sh)->List D->Prop
 |_,[]=>True
 |[],d::r=>Uj m [.a] d/\lv m [] r
 |s::ss,d::r=>Uj m s d/\lv m ss r
theorem eB (m:List (Nat×bX)):∀(ss:List (List Sh)) (ds:List D),jm m ss ds=oK m ss ds/\(kI m ss ds↔lv m ss ds)
 |ss,[]=>by simp[jm,oK,kI,lv]
 |[],d::r=>by
  simp only[jm,oK,kI,lv,(Ev m [.a] d).1,(eB m [] r).1];exact⟨trivial,and_congr (Ev m _ d).2 (eB m [] r).2⟩
 |s::ss,d::r=>by
  simp only[jm,oK,kI,lv,(Ev m s d).1,(eB m ss r).1];exact⟨trivial,and_congr (Ev m _ d).2 (eB m ss r).2⟩
def YF (a:aC)(d:D):Ex->List ch->St->Prop:=fun e env st=>e.home/\rr st.m env a.res/\Mh a env st/\Wg a env st=d
def QD (a:aC)(env:List ch)(m:List (Nat×bX)):D:=match a.res with
 |[r]=>xV m (a.rsh.getD 0 []) (H9 m env r)
 |rs=>.tup (oK m a.rsh (ru m env rs))
def Ew (a:aC)(env:List ch)(m:List (Nat×bX)):Prop:=match a.res with
 |[r]=>Uj m (a.rsh.getD 0 []) (H9 m env r)
 |rs=>lv m a.rsh (ru m env rs)
def ZO {a:aC}{d:D}{e:Ex}{nx:Nat}{m:List (Nat×bX)}(he:e.home)(h1:rr m env a.res)(h2:Ew a env m)(h3:QD a env m=d):YF a d e env ⟨nx,m⟩:=by
 refine⟨he,h1, ?_, ?_⟩
 .unfold Mh;unfold Ew at h2;split<;>rename_i hr
  .rw[hr]at h2;exact(Ev _ _ _).2.2 h2
  .split at h2
   .rename_i hr2;exact absurd hr2 (hr _)
   .exact(eB _ _ _).2.2 h2
 grind [Wg,QD,Ev,eB]
def Oh (a:aC)(k:Nat)(vd sd:D):Ex->List ch->St->Prop:=fun e env st=>e.home/\rr st.m env a.res/\(mE a env st).bJ=true/\mE a env st=vd/\look st.m 0=some (.buf k [sd])/\sd.bJ=true
def iI {a:aC}{k:Nat}{vd sd:D}{e:Ex}{nx:Nat}{m:List (Nat×bX)}(he:e.home)(h1:rr m env a.res)(h2:mE a env ⟨nx,m⟩=vd)(h3:look m 0=some (.buf k [sd]))(hn:vd.bJ=true)(hs:sd.bJ=true):Oh a k vd sd e env ⟨nx,m⟩:=⟨he,h1,by rw[h2];exact hn,h2,h3,hs⟩
end
end
end Go.Abs
