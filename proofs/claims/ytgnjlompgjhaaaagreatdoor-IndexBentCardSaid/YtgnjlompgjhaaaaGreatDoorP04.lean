/- A part of the proofs. -/
import Derived.Scope
import Derived.Test.YtgnjlompgjhaaaaGreatDoorP03
set_option linter.all false
set_option maxRecDepth 60000
namespace Go.Abs
section
variable [dR]
section
variable {C:CC} {Y:Ctx}
structure Inv (C:CC)(a:Act)(x:X)(env:List cg)(st:St):Prop where
 len:env.length=C.slots.length
 env:∀n t:Nat,C.slots[n]? =some t->(env.getD n .un).ok=true->RD C.ν x (a.tmps.getD t undef) (env.getD n .un).d
 size:a.tmps.size=C.ntmps
 defers:a.defers=[]
 oJ:gv C.ν x (look st.m)
 fresh:gp st x
def Inv.Vi {a:Act}{x:X}{env:List cg}{st:St}(h:Inv C a x env st)(DD:List (Option Nat))(VS:List cg){D:Nat->Prop}(hD:∀p,¬D p):B1 C env DD VS D a x:=
 ⟨fun p t hp=>absurd hp (hD p),fun p t hp=>absurd hp (hD p),fun n t hn _ ho=>h.env n t hn ho,h.size,h.defers⟩
def Ag (vs:List cg):∀(cm:List (Nat×Nat)) (env:List cg),(iS env vs cm).length=env.length
 |[],env=>rfl
 |(s,p)::r,env=>by simp only[iS];rw[Ag vs r];simp
def CY {α:Type}(l:List α)(i j:Nat)(v d:α)(h:i<l.length):(l.set i v).getD j d=if j=i then v else l.getD j d:=by
 grind
def tJ (hnd:C.slots.Nodup)(vs:List cg):∀(ops:List Oper) (p:Nat) (env:List cg) (n t:Nat),C.slots[n]? =some t->env.length=C.slots.length->
  ((∀(j:Nat) (o:Oper),ops[j]? =some o->o.dst≠some t)->(iS env vs (C.ir p ops)).getD n .un=env.getD n .un)/\
  (∀(j:Nat) (o:Oper),ops[j]? =some o->o.dst=some t->(∀(j':Nat) (o':Oper),ops[j']? =some o'->o'.dst=some t->j'=j)->(iS env vs (C.ir p ops)).getD n .un=vs.getD (p+j) .un)
 |[],p,env,n,t,hn,hl=>⟨fun _=>rfl,fun j o h=>by simp at h⟩
 |o::r,p,env,n,t,hn,hl=>by
  have hnl:n<C.slots.length:=(List.getElem?_eq_some_iff.1 hn).1;cases hb:o.dst.bind (yl C.slots)with
  |none=>
   have e:C.ir p (o::r)=C.ir (p+1) r:=by simp[CC.ir,hb]
   rw[e];obtain⟨a1,a2⟩:=tJ hnd vs r (p+1) env n t hn hl;have hne:o.dst≠some t:=fun e=>by rw[e,Option.bind_some,EG _ _ _ hnd hn]at hb;cases hb
   refine⟨fun h=>a1 fun j o' hj=>h (j+1) o' (by simpa using hj),fun j o' hj hd hu=>?_⟩;cases j with
   |zero=>simp at hj;subst hj;exact absurd hd hne
   |succ j=>
    rw[show p+(j+1)=p+1+j by omega];exact a2 j o' (by simpa using hj) hd fun j' o'' hj' hd'=>by have:=hu (j'+1) o'' (by simpa using hj') hd';omega
  |some s=>
   have e:C.ir p (o::r)=(s,p)::C.ir (p+1) r:=by simp[CC.ir,hb]
   rw[e];simp only[iS];obtain⟨t',ht',hs⟩:=Option.bind_eq_some_iff.1 hb;have hsl:=pL _ _ _ hs;have hslen:s<env.length:=by rw[hl];exact(List.getElem?_eq_some_iff.1 hsl).1
   obtain⟨a1,a2⟩:=tJ hnd vs r (p+1) (env.set s (vs.getD p .un)) n t hn (by simpa using hl);have hst:s=n↔t'=t:=by
    constructor
    .rintro rfl;rw[hsl]at hn;exact bM hn
    .rintro rfl;have:=EG _ _ _ hnd hn;rw[hs]at this;exact bM this
   refine⟨fun h=>?_,fun j o' hj hd hu=>?_⟩
   .have hne:t'≠t:=fun e=>h 0 o aJ (by rw[ht',e])
    rw[a1 fun j o' hj=>h (j+1) o' (by simpa using hj),CY _ _ _ _ _ hslen,ak (fun e=>hne (hst.1 e.symm))]
   .cases j with
    |zero=>
     simp at hj;subst hj;have ht:t'=t:=by rw[ht']at hd;exact bM hd
     rw[a1 fun j o' hj hd'=>by have:=hu (j+1) o' (by simpa using hj) hd';omega,CY _ _ _ _ _ hslen,aw (hst.2 ht).symm];simp
    |succ j=>
     rw[show p+(j+1)=p+1+j by omega];exact a2 j o' (by simpa using hj) hd fun j' o'' hj' hd'=>by have:=hu (j'+1) o'' (by simpa using hj') hd';omega
def wA (hnd:C.slots.Nodup){ops:Array Oper}{l:List GI}(hsp:Spec C ops.toList l){env VS:List cg}{a:Act}{x:X}{st:St}(hlen:env.length=C.slots.length)(hm:B1 C env (ops.toList.map (·.dst)) VS (· <ops.size) a x)
  (hs:gv C.ν x (look st.m)) (hf:gp st x):Inv C a x (iS env VS (C.ir 0 ops.toList)) st:=by
 refine⟨by rw[Ag];exact hlen,fun n t hn ho=>?_,hm.size,hm.defers,hs,hf⟩;obtain⟨c1,c2⟩:=tJ hnd VS ops.toList 0 env n t hn hlen;by_cases hw:∃j:Nat,(ops.toList.map (·.dst))[j]? =some (some t)
 .obtain⟨j,hj⟩:=hw;have hj':=hj;rw[List.getElem?_map,dZ]at hj';obtain⟨o,ho1,ho2⟩:=hj';have e:=c2 j o ho1 ho2 fun j' o' h1 h2=>hsp.distinct hj (by rw[List.getElem?_map,h1,Option.map_some,h2])
  rw[bQ]at e;rw[e]at ho⊢;have hjl:j<ops.size:=by simpa using(List.getElem?_eq_some_iff.1 ho1).1
  exact hm.val j t hjl hj ho
 .have hw':∀j:Nat,(ops.toList.map (·.dst))[j]? ≠some (some t):=fun j e=>hw ⟨j,e⟩
  rw[c1 fun j o h1 h2=>hw' j (by rw[List.getElem?_map,h1,Option.map_some,h2])]at ho⊢;exact hm.old n t hn (fun p _=>hw' p) ho
def Ra {a:Act}{x:X}{env:List cg}{st:St}(h:Inv C a x env st){c:Operand}{s:Src}(hc:C.src [] c=some s)(hok:(s.ev env []).ok=true):RD C.ν x (a.eval c) (s.ev env []).d:=
 ((h.Vi [] [] (D:=fun _=>False) (fun _ h=>h)).rho (i:=0) (os:=[c]) (fun t p _ hp=>by simp at hp)) c (.head _) s (by simpa using hc) (by simpa using hok)
def Ex.of:Ex->Exit
 | .normal=>.normal
 | .exit id=>.exit id
 | .ret=>.ret
def Post (C:CC)(Q:Ex->List cg->St->Prop)(x0:X):Exit->Act->World->Prop:=fun e a w=>∃e' x' env' st',Ex.of e'=e/\x'.w=w/\Step x0 x'/\Inv C a x' env' st'/\Q e' env' st'
def Inv.weak {a:Act}{x:X}{env env':List cg}{nx:Nat}{m m':List (Nat×bW)}(h:Inv C a x env ⟨nx,m⟩)(hl:YH env env')(hm:Tt m m'):Inv C a x env' ⟨nx,m'⟩:=by
 have hle:∀(e e':List cg),YH e e'->e'.length=e.length/\∀n,e'.getD n .un=e.getD n .un\/e'.getD n .un=.un:=by
  intro e;induction e with
  |nil=>intro e' h;cases e'<;>simp_all[YH]
  |cons b r ih=>
   intro e' h;cases e' with
   |nil=>simp[YH]at h
   |cons b' r'=>
    simp only[YH]at h;obtain⟨i1,i2⟩:=ih r' h.2;refine⟨by simp[i1],fun n=>?_⟩;cases n with
    |zero=>simpa using h.1
    |succ n=>simpa using i2 n
 have hsub:∀(m':List (Nat×bW)),Tt m m'->∀l b,look m' l=some b->look m l=some b:=by
  intro m';induction m' with
  |nil=>intro _ l b h;simp[look]at h
  |cons p r ih=>
   grind [Tt,look]
 obtain⟨l1,l2⟩:=hle env env' hl;refine⟨l1.trans h.len,fun n t hn ho=>?_,h.size,h.defers,h.oJ.less fun l=>?_,h.fresh.β,fun l hl'=>?_⟩
 .rcases l2 n with e|e
  .rw[e]at ho⊢;exact h.env n t hn ho
  .rw[e];exact .any _
 .cases hl':look m' l with
  |none=>exact .inr (.inl rfl)
  |some b=>exact .inl (hsub m' hm l b hl').symm
 .cases hl2:look m' l with
  |none=>exact absurd hl2 hl'
  |some b=>exact h.fresh.m l (by show look m l≠none;rw[hsub m' hm l b hl2];simp)
theorem yz.cells {d d':D}(h:yz d d'):d'.cells.length=d.cells.length/\∀j,yz (d.cells.getD j .any) (d'.cells.getD j .any):=by
 cases h with
 |refl=>exact⟨rfl,fun j=>.refl _⟩
 |nil k=>exact⟨rfl,fun j=>by match j with
  |0=>exact .nil k
  |j+1=>exact .refl _⟩
 |agg a b hl h=>exact⟨hl,h⟩
 |sl k a b hl h=>exact⟨rfl,fun j=>by match j with
  |0=>exact .sl k a b hl h
  |j+1=>exact .refl _⟩
def yz.bI {d d':D}(h:yz d d')(hn:d.bI=true):d'.bI=true:=by
 induction h with
 |refl=>exact hn
 |nil k=>rfl
 |agg a b hl h ih=>exact rN fun i _=>ih i (dq hn i)
 |sl k a b hl h ih=>rfl
def RD.wk {ν:List (Nat×Nat)}{x:X}{v:Value}{d d':D}(hv:RD ν x v d)(hw:yz d d'):RD ν x v d':=by
 induction hv generalizing d' with
 |agg cs ds hl h1 h ih=>
  cases hw with
  |refl=>exact .agg cs ds hl h1 h
  |agg _ b hl2 h2=>exact .agg cs b (hl.trans hl2.symm) (fun i hi=>h1 i ae) (fun i hi=>ih i ae (h2 i))
 |sl a b off len cap k es c hlen ha hcap hm hk hn hc h1 h ih=>
  cases hw with
  |refl=>exact .sl a b off len cap k es c hlen ha hcap hm hk hn hc h1 h
  |sl _ _ es' hl2 h2=>
   refine .sl a b off len cap k es' c (hlen.trans hl2.symm) (ha.imp (fun e=>mh (by rw[hl2,e];rfl)) id) hcap hm (fun i hi=>(h2 i).cells.1.trans (hk i hi)) (fun i hi=>(h2 i).bI (hn i hi)) hc h1 (fun i j hi hj=>ih i j hi hj ((h2 i).cells.2 j))
 |bq=>
  cases hw with
  |refl=>exact .bq
  |nil k=>exact .sl none 0 0 0 0 k [] (fun _ _=>undef) rfl (.inl rfl) (aL _) (Nat.zero_le _) (fun i hi=>ae) (fun i hi=>ae) (fun i j hi=>ae) (fun i j hi=>ae) (fun i j hi=>ae)
 |any v=>cases hw;exact .any v
 |bool b=>cases hw;exact .bool b
 |int k n=>cases hw;exact .int k n
 |str s h=>cases hw;exact .str s h
 |tup cs ds hl h ih=>cases hw;exact .tup cs ds hl h
 |ref b off k i o at_ es c hI hat hk hn hc h1 h ih=>cases hw;exact .ref b off k i o at_ es c hI hat hk hn hc h1 h
 |ptr l k i o b base tot at_ hβ hat=>cases hw;exact .ptr l k i o b base tot at_ hβ hat
 |own l k i n b base tot cap a hβ ha hcap hm ht=>cases hw;exact .own l k i n b base tot cap a hβ ha hcap hm ht
 |own0 l k i a=>cases hw;exact .own0 l k i a
 |nilp=>cases hw;exact .nilp
 |fn fid n cs ds hν hl h ih=>cases hw;exact .fn fid n cs ds hν hl h
 |e8 fid n fs ds hν hl h ih=>cases hw;exact .e8 fid n fs ds hν hl h
 |mp r es cl ds hI hh hl h ih=>cases hw;exact .mp r es cl ds hI hh hl h
 |nilf=>cases hw;exact .nilf
 |it l b base tot hβ=>cases hw;exact .it l b base tot hβ
def o9.wk {ν:List (Nat×Nat)}{x:X}{b base tot:Nat}{blk blk':bW}(h:o9 ν x b base tot blk)(hw:Zy blk blk'):o9 ν x b base tot blk':=by
 match blk,blk',hw with
 | .buf k es,.buf k' es',hw=>
  obtain⟨rfl,hl,h2⟩:=hw;obtain⟨p1,p2,c,T,fr,p3,p4,p5,p6⟩:=h;refine⟨p1,ae,c,T,fr,p3,p4,p5,fun i hi=>⟨(h2 i).cells.1.trans (p6 i ae).1,fun j hj=>⟨((p6 i ae).2 j hj).1,((p6 i ae).2 j hj).2.wk ((h2 i).cells.2 j)⟩⟩⟩
 | .buf k es,.iter s p,hw=>cases hw
 | .buf k es,.row s,hw=>cases hw
 | .buf k es,.bld o n u,hw=>cases hw
 | .iter s p,b',hw=>simp only[Zy]at hw;subst hw;exact h
 | .row s,b',hw=>simp only[Zy]at hw;subst hw;exact h
 | .bld o n u,b',hw=>simp only[Zy]at hw;subst hw;exact h
def Inv.nz {a:Act}{x:X}{env env':List cg}{nx:Nat}{m m':List (Nat×bW)}(h:Inv C a x env ⟨nx,m⟩)(hl:Wt env env')(hm:NR m m'):Inv C a x env' ⟨nx,m'⟩:=by
 have hle:∀(e e':List cg),Wt e e'->e'.length=e.length/\∀n,(e'.getD n .un).ok=(e.getD n .un).ok/\yz (e.getD n .un).d (e'.getD n .un).d:=by
  intro e;induction e with
  |nil=>
   intro e' h;cases e' with
   |nil=>exact⟨rfl,fun n=>⟨rfl,.refl _⟩⟩
   |cons _ _=>exact h.elim
  |cons b r ih=>
   intro e' h;cases e' with
   |nil=>exact h.elim
   |cons b' r'=>
    obtain⟨i1,i2⟩:=ih r' h.2;refine⟨by simp[i1],fun n=>?_⟩;cases n with
    |zero=>simpa using h.1
    |succ n=>simpa using i2 n
 have hsub:∀(m':List (Nat×bW)),NR m m'->∀l b',look m' l=some b'->∃b,look m l=some b/\Zy b b':=by
  intro m';induction m' with
  |nil=>intro _ l b h;simp[look]at h
  |cons p r ih=>
   obtain⟨l0,b0⟩:=p;intro hs l b h;simp only[look]at h;split at h
   .rename_i e;subst e;obtain rfl:=bM h;exact hs.1
   .exact ih hs.2 l b h
 obtain⟨l1,l2⟩:=hle env env' hl;have live:∀l,look m' l≠none->look m l≠none:=fun l hl'=>by
  cases hl2:look m' l with
  |none=>exact absurd hl2 hl'
  |some b=>obtain⟨b0,q1,_⟩:=hsub m' hm l b hl2;rw[q1];simp
 refine⟨l1.trans h.len,fun n t hn ho=>?_,h.size,h.defers,⟨fun l blk b base tot e1 e2=>?_,fun l l' b base tot base' tot' e1 e2 e3 e4=>h.oJ.inj l l' b base tot base' tot' (live l e1) (live l' e2) e3 e4,h.oJ.imm,h.oJ.e8,h.oJ.gd⟩,h.fresh.β,fun l hl'=>h.fresh.m l (live l hl')⟩
 .obtain⟨q1,q2⟩:=l2 n;rw[q1]at ho;exact(h.env n t hn ho).wk q2
 .obtain⟨b0,q1,q2⟩:=hsub m' hm l blk e1;obtain⟨o1,o2⟩:=h.oJ.own l b0 b base tot q1 e2;exact⟨o1,o2.wk q2⟩
def Om (l k:Nat)(es:List D)(d:D):(iD l k es d).cells.length=d.cells.length/\∀j,(iD l k es d).cells.getD j .any=iD l k es (d.cells.getD j .any):=by
 cases d
 case agg cs=>exact⟨by simp[iD,D.cells,ix],fun j=>by simp only[iD,D.cells];exact mE l k es cs j⟩
 case own l' k' i n=>
  grind [iD,D.cells]
 case ptr l' k' i o=>
  grind [iD,D.cells]
 all_goals exact⟨by simp[iD,D.cells],fun j=>by cases j<;>simp[iD,D.cells]⟩
def KV (l k:Nat)(es:List D):∀e:List cg,(kS l k es e).length=e.length
 |[]=>rfl
 |⟨ok,d⟩::r=>by simp[kS,KV l k es r]
def Gn (l k:Nat)(es:List D):∀(e:List cg) (i:Nat),(kS l k es e).getD i .un=⟨(e.getD i .un).ok,iD l k es (e.getD i .un).d⟩
 |[],i=>by simp[kS,iD,cg.un]
 |⟨ok,d⟩::r,0=>by simp[kS]
 |⟨ok,d⟩::r,i+1=>by simpa[kS]using Gn l k es r i
def GS (l k:Nat)(es:List D)(l':Nat):∀m:List (Nat×bW),look (lG l k es m) l'=(look m l').map (mU l k es)
 |[]=>rfl
 |(a,b)::r=>by
  simp only[lG,look];split
  .rfl
  .exact GS l k es l' r
def Inv.Qd {a:Act}{x:X}{env:List cg}{nx:Nat}{m:List (Nat×bW)}(h:Inv C a x env ⟨nx,m⟩)(l:Nat):∃x':X,x'.w=x.w/\Step x x'/\Inv C a x' (Abs.Qd l (env,m)).1 ⟨nx,(Abs.Qd l (env,m)).2⟩:=by
 have hsame:∃x':X,x'.w=x.w/\Step x x'/\Inv C a x' env ⟨nx,m⟩:=⟨x,rfl,.refl x,h⟩
 simp only[Abs.Qd];split
 .rename_i k es hlk;cases hn:bG es with
  |false=>exact hsame
  |true=>
   simp only[cond_true]
   let x':X:=⟨x.w,fun b=>x.I b\/∃p,x.β l=some p/\p.1=b,x.β⟩
   have hle:Le x x':=⟨fun _ h=>.inl h,fun _ _=>rfl,fun _ _ h=>h⟩;have ho:∀b base tot,x.β l=some (b,base,tot)->x'.I b/\(∀i,i<es.length->(es.getD i .any).cells.length=k)/\∃c:Nat->Nat->Value,∀i j,i<es.length->j<k->
     x'.w.cell? ⟨b,base+i*k+j,none⟩=some (c i j)/\(c i j).oneCell'=true/\RD C.ν x' (c i j) ((es.getD i .any).cells.getD j .any):=by
    intro b base tot hβ;obtain⟨o1,o2,o3,c,T,fr,o4,o5,o6,o7⟩:=h.oJ.own l _ b base tot hlk hβ;refine⟨.inr ⟨_,hβ,rfl⟩,fun i hi=>(o7 i hi).1,fun i j=>c.getD (base+i*k+j) undef,fun i j hi hj=>⟨?_,((o7 i hi).2 j hj).1,((o7 i hi).2 j hj).2.mono hle⟩⟩;exact cell_of_heap o4 (by have:=jK (tot:=tot) (show i<tot by omega) hj;omega)
   have hrd:∀{v:Value} {d:D},RD C.ν x v d->RD C.ν x' v (iD l k es d):=fun hv=>hv.fz hle hn ho
   refine⟨x',rfl,⟨rfl,rfl,rfl,aL _,fun _ h=>.inl h,fun _ _=>rfl,fun _ _ h=>h,fun _ _ _=>rfl,fun b hb=>?_,fun _ _ h=>.inl h⟩, ?_⟩
   .rcases hb with hb|⟨p,h1,h2⟩
    .exact .inl hb
    .exact .inr (.inr ⟨l,p,h1,h2⟩)
   .have hlook:∀l',look (lG l k es (cH m l)) l'=if l'=l then none else(look m l').map (mU l k es):=fun l'=>by
     rw[GS,fT];split<;>rfl
    refine⟨by rw[KV];exact h.len,fun n t hn' hok=>?_,h.size,h.defers,⟨fun l' blk b base tot e1 e2=>?_,fun l1 l2 b base tot base' tot' e1 e2 e3 e4=>?_,fun b hb=>?_,h.oJ.e8,rE hle h.oJ.gd⟩,⟨h.fresh.β,fun l' hl'=>?_⟩⟩
    .rw[Gn]at hok⊢;exact hrd (h.env n t hn' hok)
    .simp only[hlook]at e1;split at e1
     .cases e1
     .rename_i hne;rw[dZ]at e1;obtain⟨blk0,e3,rfl⟩:=e1;obtain⟨o1,o2⟩:=h.oJ.own l' blk0 b base tot e3 e2;refine⟨?_, ?_⟩
      .rintro(hb|⟨⟨b',base',tot'⟩,h1,h2⟩)
       .exact o1 hb
       .simp only at h2;subst h2;exact hne (h.oJ.inj l' l b' base tot base' tot' (by simp only;rw[e3];simp) (by simp only;rw[hlk];simp) e2 h1)
      .cases blk0 with
       |iter s pos=>exact o2
       |row s=>exact o2
       |bld o n u=>exact o2
       |buf k' es'=>
        obtain⟨p1,p2,c,T,fr,p3,p4,p5,p6⟩:=o2;refine⟨p1,by rw[ix];exact p2,c,T,fr,p3,p4,p5,fun i hi=>?_⟩;rw[ix]at hi;obtain⟨q1,q2⟩:=Om l k es (es'.getD i .any);rw[mE,q1];refine⟨(p6 i hi).1,fun j hj=>⟨((p6 i hi).2 j hj).1, ?_⟩⟩;rw[q2];exact hrd ((p6 i hi).2 j hj).2
    .simp only[hlook]at e1 e2;refine h.oJ.inj l1 l2 b base tot base' tot' ?_ ?_ e3 e4
     .intro e;simp[e]at e1
     .intro e;simp[e]at e2
    .rcases hb with hb|⟨⟨b',base',tot'⟩,h1,h2⟩
     .exact h.oJ.imm b hb
     .simp only at h2;subst h2;exact h.oJ.e8 l _ _ _ h1
    .simp only[hlook]at hl';refine h.fresh.m l' ?_;intro e;simp only at e;simp[e]at hl'
 .exact hsame
theorem lr {lo:Nat}{σ:List (Nat×Nat)}:∀{ds ds':List D},ox lo σ ds=some ds'->ds'.length=ds.length/\∀i,i<ds.length->qY lo σ (ds.getD i .any)=some (ds'.getD i .any)
 |[],ds',h=>by simp[ox]at h;subst h;exact⟨rfl,fun i hi=>by simp at hi⟩
 |d::r,ds',h=>by
  simp only[ox]at h;split at h
  .rename_i d' r' h1 h2;simp only[bh]at h;subst h;obtain⟨a1,a2⟩:=lr h2
   grind
  .cases h
theorem oy {lo:Nat}{σ:List (Nat×Nat)}{l:Nat}{f:Nat->D}{d:D}(h:Co lo σ l f=some d):∃l',lK lo σ l=some l'/\d=f l':=by
 grind [Co]
def vC {lo c:Nat}:∀{σ:List (Nat×Nat)}{l l':Nat},gI lo c σ=true->lK lo σ l=some l'->l'<c/\(l<lo/\l'=l\/lo<=l'/\(l,l')∈σ)
 |[],l,l',h0,h=>by
  unfold lK at h;simp only[gI,Nat.ble_eq]at h0;cases hb:Nat.blt l lo<;>simp only[hb,cond_true,cond_false,reduceCtorEq,bh]at h;have:l<lo:=by simp[Nat.blt]at hb;omega
  subst h;exact⟨ae,.inl ⟨this,rfl⟩⟩
 |(a,b)::r,l,l',h0,h=>by
  unfold lK at h;simp only[gI,bB,Nat.ble_eq]at h0;obtain⟨p2,p3,p4,p5⟩:=h0;have p3:b<c:=by simp[Nat.blt]at p3;omega
  cases hq:Nat.beq a l<;>simp only[hq,cond_true,cond_false,bh]at h
  .obtain⟨q1,q2⟩:=vC p5 h
   grind
  .have:=Nat.eq_of_beq_eq_true hq;subst this;subst h;exact⟨p3,.inr ⟨p2,.head _⟩⟩
def sC {lo c:Nat}:∀{σ:List (Nat×Nat)}{a b:Nat},gI lo c σ=true->(a,b)∈σ->b<c
 |[],a,b,_,h=>by cases h
 |p::r,a,b,h0,h=>by
  simp only[gI,bB,Nat.blt,Nat.ble_eq]at h0;rcases ca.1 h with rfl|h
  .have:=h0.2.1;simp only at this;omega
  .exact sC h0.2.2.2 h
theorem FW {lo c:Nat}:∀{σ:List (Nat×Nat)}{a a' b b':Nat},gI lo c σ=true->(a,b)∈σ->(a',b')∈σ->(b=b'->a=a')
 |[],a,a',b,b',_,h,_=>by cases h
 |(a0,b0)::r,a,a',b,b',h0,h1,h2=>by
  simp only[gI,bB,List.all_eq_true,bd]at h0;obtain⟨_,_,p4,p5⟩:=h0;intro e;rcases ca.1 h1 with h1|h1<;>rcases ca.1 h2 with h2|h2
  .simp only[eG]at h1 h2;omega
  .have:=(p4 _ h2).2;simp only[eG]at h1;obtain⟨rfl,rfl⟩:=h1;subst e;simp at this
  .have:=(p4 _ h1).2;simp only[eG]at h2;obtain⟨rfl,rfl⟩:=h2;subst e;simp at this
  .exact FW p5 h1 h2 e
def lT:List (Nat×Nat)->Nat->Option Nat
 |[],_=>none
 |(a,b)::r,l=>if b=l then some a else lT r l
def mJ:∀{σ:List (Nat×Nat)}{l a:Nat},lT σ l=some a->(a,l)∈σ
 |[],l,a,h=>by cases h
 |(a0,b0)::r,l,a,h=>by
  simp only[lT]at h;split at h
  .grind
  .exact .tail _ (mJ h)
def yL {lo c:Nat}:∀{σ:List (Nat×Nat)}{l a:Nat},gI lo c σ=true->(a,l)∈σ->lT σ l=some a
 |[],l,a,_,h=>by cases h
 |(a0,b0)::r,l,a,h0,h=>by
  simp only[lT];split
  .grind [FW]
  .rename_i e;rcases ca.1 h with h|h
   .grind
   .simp only[gI,bB]at h0;exact yL h0.2.2.2 h
def Dv {lo:Nat}{σ:List (Nat×Nat)}{d d':D}(h:qY lo σ d=some d'):d'.cells.length=d.cells.length/\∀j,j<d.cells.length->qY lo σ (d.cells.getD j .any)=some (d'.cells.getD j .any):=by
 cases d
 case agg cs=>
  simp only[qY]at h;split at h
  .rename_i cs' h1;obtain rfl:=bM h;exact lr h1
  .cases h
 case tup cs=>
  simp only[qY]at h;split at h
  .obtain rfl:=bM h;exact⟨rfl,fun j hj=>by simp[D.cells]at hj⟩
  .cases h
 case fn f cs=>
  grind [qY,D.cells]
 case own l k i n=>
  grind [qY,oy,D.cells]
 case ptr l k i n=>
  grind [qY,oy,D.cells]
 case it l=>
  grind [qY,oy,D.cells]
 all_goals
  have h0:=h;simp only[qY,bh]at h;subst h;exact⟨rfl,fun j hj=>by simp[D.cells]at hj<;>(subst hj;simpa[D.cells]using h0)⟩
theorem RD.rn {ν:List (Nat×Nat)}{x x':X}{lo:Nat}{σ:List (Nat×Nat)}(hw:x'.w=x.w)(hI:x'.I=x.I)(hβ:∀l l',lK lo σ l=some l'->x'.β l'=x.β l){v:Value}{d:D}(h:RD ν x v d):∀d',qY lo σ d=some d'->RD ν x' v d':=by
 have hk:∀b,x.I b->x'.w.heap[b]? =x.w.heap[b]? :=fun _ _=>by rw[hw]
 have hI':∀b,x.I b->x'.I b:=fun b h=>by rw[hI];exact h
 induction h with
 |any v=>intro d' h;obtain rfl:=bM h;exact .any v
 |bool b=>intro d' h;obtain rfl:=bM h;exact .bool b
 |int k n=>intro d' h;obtain rfl:=bM h;exact .int k n
 |str s h0=>intro d' h;obtain rfl:=bM h;exact .str s h0
 |bq=>intro d' h;obtain rfl:=bM h;exact .bq
 |nilp=>intro d' h;obtain rfl:=bM h;exact .nilp
 |nilf=>intro d' h;obtain rfl:=bM h;exact .nilf
 |sl a b off len cap k' es' c hlen ha hcap hm hk' hn' hc h1 h _=>
  intro d' h2;obtain rfl:=bM h2;exact(RD.sl a b off len cap k' es' c hlen ha hcap hm hk' hn' hc h1 h).bI rfl hI' hk
 |ref b off k' i o at_ es' c hI0 hat hk' hn' hc h1 h _=>
  intro d' h2;obtain rfl:=bM h2;exact(RD.ref b off k' i o at_ es' c hI0 hat hk' hn' hc h1 h).bI rfl hI' hk
 |agg cs ds hl' h1 _ ih=>
  intro d' h;simp only[qY]at h;split at h
  .rename_i cs' h2;obtain rfl:=bM h;obtain⟨a1,a2⟩:=lr h2;exact .agg cs cs' ae (fun i hi=>h1 i ae) fun i hi=>ih i ae _ (a2 i ae)
  .cases h
 |tup cs ds hl' _ ih=>
  intro d' h;simp only[qY]at h;split at h
  .rename_i cs' h2;obtain rfl:=bM h;obtain⟨a1,a2⟩:=lr h2;exact .tup cs cs' ae fun i hi=>ih i ae _ (a2 i ae)
  .cases h
 |fn fid n cs ds hν hl' _ ih=>
  intro d' h;simp only[qY]at h;split at h
  .rename_i cs' h2;obtain rfl:=bM h;obtain⟨a1,a2⟩:=lr h2;exact .fn fid n cs cs' hν ae fun i hi=>ih i ae _ (a2 i ae)
  .cases h
 |e8 fid n cs ds hν hl' _ ih=>
  grind [qY,lr,e8]
 |mp r es cl ds hI0 hh hl' _ ih=>
  intro d' h;simp only[qY]at h;split at h
  .rename_i cs' h2;obtain rfl:=bM h;obtain⟨a1,a2⟩:=lr h2;exact .mp r es cl cs' (hI' _ hI0) ((hk _ hI0).trans hh) ae fun i hi=>ih i ae _ (a2 i ae)
  .cases h
 |ptr l k i o b base tot at_ hb hat=>
  intro d' h;obtain⟨l',h1,rfl⟩:=oy h;exact .ptr l' k i o b base tot at_ ((hβ _ _ h1).trans hb) hat
 |own l k i n b base tot cap a hb ha hcap hm ht=>
  intro d' h;obtain⟨l',h1,rfl⟩:=oy h;exact .own l' k i n b base tot cap a ((hβ _ _ h1).trans hb) ha hcap hm ht
 |own0 l k i a=>
  intro d' h;obtain⟨l',h1,rfl⟩:=oy h;exact .own0 l' k i a
 |it l b base tot hb=>
  intro d' h;obtain⟨l',h1,rfl⟩:=oy h;exact .it l' b base tot ((hβ _ _ h1).trans hb)
def q9:∀{ds ds':List D},D8 ds ds'->ds'.length=ds.length/\∀i,i<ds.length->uL (ds.getD i .any) (ds'.getD i .any)
 |[],ds',h=>by simp only[D8]at h;subst h;exact⟨rfl,fun i hi=>by simp at hi⟩
 |d::r,ds',h=>by
  simp only[D8]at h;obtain⟨d',r',rfl,h1,h2⟩:=h;obtain⟨a1,a2⟩:=q9 h2
  grind
def Cw {d d':D}(h:uL d d'):d'.cells.length=d.cells.length/\∀j,j<d.cells.length->uL (d.cells.getD j .any) (d'.cells.getD j .any):=by
 cases d
 case agg a=>
  simp only[uL]at h;obtain⟨b,rfl,h⟩:=h;exact q9 h
 case bq=>
  grind [uL,D.cells]
 all_goals
  have h0:=h;simp only[uL]at h;obtain⟨rfl,hn⟩:=h;refine⟨rfl,fun j hj=>?_⟩;simp[D.cells]at hj;try(subst hj;simpa[D.cells]using h0)
theorem RD.nl {ν:List (Nat×Nat)}{x x':X}(hw:x'.w=x.w)(hI:x'.I=x.I){v:Value}{d:D}(h:RD ν x v d):∀d',uL d d'->RD ν x' v d':=by
 have hk:∀b,x.I b->x'.w.heap[b]? =x.w.heap[b]? :=fun _ _=>by rw[hw]
 have hI':∀b,x.I b->x'.I b:=fun b h=>by rw[hI];exact h
 induction h with
 |bq=>
  intro d' h2;simp only[uL]at h2;rcases h2 with rfl|⟨l,k,i,rfl⟩
  .exact .bq
  .exact .own0 l k i _
 |agg cs ds hl' h1 _ ih=>
  intro d' h;simp only[uL]at h;obtain⟨b,rfl,h⟩:=h;obtain⟨a1,a2⟩:=q9 h;exact .agg cs b ae (fun i hi=>h1 i ae) fun i hi=>ih i ae _ (a2 i ae)
 |any v=>intro d' h;simp only[uL]at h;rw[h.1];exact .any v
 |bool b=>intro d' h;simp only[uL]at h;rw[h.1];exact .bool b
 |int k n=>intro d' h;simp only[uL]at h;rw[h.1];exact .int k n
 |str s h0=>intro d' h;simp only[uL]at h;rw[h.1];exact .str s h0
 |tup cs ds hl' h0 _=>intro d' h;simp only[uL]at h;rw[h.1];exact(RD.tup cs ds hl' h0).bI h.2 hI' hk
 |sl a b off len cap k' es' c hlen ha hcap hm hk' hn' hc h1 h0 _=>
  intro d' h2;simp only[uL]at h2;rw[h2.1];exact(RD.sl a b off len cap k' es' c hlen ha hcap hm hk' hn' hc h1 h0).bI h2.2 hI' hk
 |ref b off k' i o at_ es' c hI0 hat hk' hn' hc h1 h0 _=>
  intro d' h2;simp only[uL]at h2;rw[h2.1];exact(RD.ref b off k' i o at_ es' c hI0 hat hk' hn' hc h1 h0).bI h2.2 hI' hk
 |nilp=>intro d' h;simp only[uL]at h;rw[h.1];exact .nilp
 |nilf=>intro d' h;simp only[uL]at h;rw[h.1];exact .nilf
 |fn fid n cs ds hν hl' h0 _=>intro d' h;simp only[uL]at h;rw[h.1];exact(RD.fn fid n cs ds hν hl' h0).bI h.2 hI' hk
 |e8 fid n cs ds hν hl' h0 _=>intro d' h;simp only[uL]at h;rw[h.1];exact(RD.e8 fid n cs ds hν hl' h0).bI h.2 hI' hk
 |mp r es cl ds hI hh hl' h0 _=>intro d' h;simp only[uL]at h;rw[h.1];exact(RD.mp r es cl ds hI hh hl' h0).bI h.2 hI' hk
 |ptr=>intro d' h;simp only[uL]at h;simp[D.bI]at h
 |own=>intro d' h;simp only[uL]at h;simp[D.bI]at h
 |own0=>intro d' h;simp only[uL]at h;simp[D.bI]at h
 |it=>intro d' h;simp only[uL]at h;simp[D.bI]at h
def FU {lo:Nat}{σ:List (Nat×Nat)}:∀{e e':List cg},dp lo σ e e'->e'.length=e.length/\∀n,(e'.getD n .un).ok=(e.getD n .un).ok/\T1 lo σ (e.getD n .un).d (e'.getD n .un).d\/e'.getD n .un=.un
 |[],[],_=>⟨rfl,fun n=>.inr aJ⟩
 |[],_::_,h=>h.elim
 |_::_,[],h=>h.elim
 |a::r,b::s,h=>by
  simp only[dp]at h;obtain⟨i1,i2⟩:=FU h.2;refine⟨by simp[i1],fun n=>?_⟩;cases n with
  |zero=>simpa using h.1
  |succ n=>simpa using i2 n
def FV {lo c:Nat}{σ:List (Nat×Nat)}{m:List (Nat×bW)}:∀{m':List (Nat×bW)},bo lo c σ m m'->∀l' b',look m' l'=some b'->(∃l b,lK lo σ l=some l'/\look m l=some b/\sB lo σ b b')\/(Nat.ble lo l'=true/\Nat.blt l' c=true/\σ.all (fun p=>!Nat.beq p.2 l')=true/\∃k,b'=.buf k [])
 |[],_,l',b',h=>by simp[look]at h
 |(l0,b0)::r,hh,l',b',h=>by
  simp only[bo]at hh;simp only[look]at h;split at h
  .grind
  .exact FV hh.2 l' b' h
def C2:∀{σ:List (Nat×Nat)}{l:Nat},σ.all (fun p=>!Nat.beq p.2 l)=true->lT σ l=none
 |[],l,_=>rfl
 |(a,b)::r,l,h=>by
  simp only[List.all_cons,bB,bd]at h;simp only[lT];rw[ak (fun e=>by subst e;simp at h),C2 h.2]
def Inv.ren {a:Act}{x0 x:X}{env env':List cg}{nx:Nat}{m m':List (Nat×bW)}{lo c:Nat}{σ:List (Nat×Nat)}(h:Inv C a x env ⟨nx,m⟩)(hs:Step x0 x)(hlo:∀l,lo<=l->x0.β l=none)(hok:gI lo c σ=true)(he:dp lo σ env env')(hm:bo lo c σ m m'):
  ∃x':X,x'.w=x.w/\Step x0 x'/\Inv C a x' env' ⟨c,m'⟩:=by
 let x':X:=⟨x.w,x.I,fun l'=>if l'<lo then x.β l' else(lT σ l').bind x.β⟩
 have hβ:∀l l',lK lo σ l=some l'->x'.β l'=x.β l:=by
  intro l l' e;obtain⟨p1,p2⟩:=vC hok e;rcases p2 with⟨p2,rfl⟩|⟨p3,p4⟩
  .simp only[x',aw p2]
  .simp only[x',ak (Nat.not_lt.2 p3),yL hok p4,Option.bind_some]
 have hβi:∀l' p,x'.β l'=some p->∃l,x.β l=some p:=by
  intro l' p e;simp only[x']at e;split at e
  .exact⟨l',e⟩
  .obtain⟨l,_,h2⟩:=Option.bind_eq_some_iff.1 e;exact⟨l,h2⟩
 have hrd:∀{v:Value} {d d':D},RD C.ν x v d->T1 lo σ d d'->RD C.ν x' v d':=by
  intro v d d' hv hd;rcases hd with⟨rfl,hn⟩|hd|hd
  .exact hv.bI hn (fun _ h=>h) (fun _ _=>rfl)
  rotate_left
  .exact RD.nl (x:=x) (x':=x') rfl rfl hv _ hd
  .exact RD.rn (x:=x) (x':=x') rfl rfl hβ hv _ hd
 obtain⟨e1,e2⟩:=FU he;have hm1:=FV hm;have hm2:∀l' b' p,look m' l'=some b'->x'.β l'=some p->∃l b,lK lo σ l=some l'/\look m l=some b/\sB lo σ b b':=by
  intro l' b' p h1 h2;rcases hm1 l' b' h1 with h3|⟨q1,q2,q3,q4⟩
  .exact h3
  .have q1:lo<=l':=by simpa using q1
   simp only[x',ak (show ¬l'<lo by omega),C2 q3,Option.bind_none]at h2;cases h2
 refine⟨x',rfl,⟨hs.os,hs.tape,hs.output,hs.size,hs.I,hs.pk,fun l p hp=>?_,hs.old,hs.newI,fun l' p hp=>?_⟩,⟨e1.trans h.len,fun n t hn ho=>?_,h.size,h.defers,⟨fun l' blk b base tot e3 e4=>?_,fun l1 l2 b base tot base' tot' e3 e4 e5 e6=>?_,h.oJ.imm,fun l' b base tot e=>?_,dR.le x _ (fun _ h=>h) (fun _ _=>rfl) h.oJ.gd⟩,⟨fun l' hl'=>?_,fun l' hl'=>?_⟩⟩⟩
 .have hl:l<lo:=by
   rcases hY l lo with h1|h1
   .exact h1
   .rw[hlo l h1]at hp;cases hp
  simp only[x',aw hl];exact hs.β l p hp
 .obtain⟨l,hl⟩:=hβi l' p hp;rcases hs.newβ l p hl with h1|h1|h1
  .exact .inr (.inr ⟨l,p,h1,rfl⟩)
  .exact .inr (.inl h1)
  .exact .inr (.inr h1)
 .rcases e2 n with⟨q1,q2⟩|q
  .rw[q1]at ho;exact hrd (h.env n t hn ho) q2
  .rw[q];exact .any _
 .obtain⟨l,b0,q1,q2,q3⟩:=hm2 l' blk _ e3 e4;rw[hβ l l' q1]at e4;obtain⟨o1,o2⟩:=h.oJ.own l b0 b base tot q2 e4;refine⟨o1, ?_⟩;cases b0 with
  |iter s p=>
   cases blk with
   |iter s' p'=>simp only[sB]at q3;obtain⟨rfl,rfl⟩:=q3;exact o2
   |_=>simp[sB]at q3
  |row s=>
   cases blk with
   |row s'=>simp only[sB]at q3;subst q3;exact o2
   |_=>simp[sB]at q3
  |bld o n u=>
   cases blk with
   |bld o' n' u'=>
    simp only[sB]at q3;obtain⟨q3,rfl,rfl⟩:=q3;obtain⟨p1,v,p2,p3⟩:=o2;refine⟨p1,v,p2, ?_⟩;cases o with
    |none=>simp only at q3;subst q3;exact p3
    |some l0=>
     obtain⟨l1,q4,rfl⟩:=q3;obtain⟨g,t,p4,p5,p6⟩:=p3;exact⟨g,t,p4,p5,by rw[hβ l0 l1 q4];exact p6⟩
   |_=>simp[sB]at q3
  |buf k es=>
   cases blk with
   |iter s' p'=>simp[sB]at q3
   |row s'=>simp[sB]at q3
   |bld o' n' u'=>simp[sB]at q3
   |buf k' es'=>
    simp only[sB]at q3;obtain⟨rfl,q3⟩:=q3;obtain⟨p1,p2,cc,T,fr,p3,p4,p5,p6⟩:=o2;rcases q3 with⟨rfl,hn⟩|q3|q3
    .exact⟨p1,p2,cc,T,fr,p3,p4,p5,fun i hi=>⟨(p6 i hi).1,fun j hj=>⟨((p6 i hi).2 j hj).1,((p6 i hi).2 j hj).2.bI (l6 (dq hn i) j) (fun _ h=>h) (fun _ _=>rfl)⟩⟩⟩
    rotate_left
    .obtain⟨r1,r2⟩:=q9 q3;refine⟨p1,ae,cc,T,fr,p3,p4,p5,fun i hi=>?_⟩;have hi':i<es.length:=ae;obtain⟨s1,s2⟩:=Cw (r2 i hi');refine⟨s1.trans (p6 i hi').1,fun j hj=>⟨((p6 i hi').2 j hj).1,hrd ((p6 i hi').2 j hj).2 (.inr (.inr (s2 j (by rw[(p6 i hi').1];exact hj))))⟩⟩
    .obtain⟨r1,r2⟩:=lr q3;refine⟨p1,ae,cc,T,fr,p3,p4,p5,fun i hi=>?_⟩;have hi':i<es.length:=ae;obtain⟨s1,s2⟩:=Dv (r2 i hi');refine⟨s1.trans (p6 i hi').1,fun j hj=>⟨((p6 i hi').2 j hj).1,hrd ((p6 i hi').2 j hj).2 (.inr (.inl (s2 j (by rw[(p6 i hi').1];exact hj))))⟩⟩
 .cases f1:look m' l1 with
  |none=>simp only at e3;exact absurd f1 e3
  |some b1=>
   cases f2:look m' l2 with
   |none=>simp only at e4;exact absurd f2 e4
   |some b2=>
    obtain⟨l1',b1',q1,q2,_⟩:=hm2 l1 b1 _ f1 e5;obtain⟨l2',b2',r1,r2,_⟩:=hm2 l2 b2 _ f2 e6;rw[hβ _ _ q1]at e5;rw[hβ _ _ r1]at e6;have:=h.oJ.inj l1' l2' b base tot base' tot' (by simp only;rw[q2];simp) (by simp only;rw[r2];simp) e5 e6;subst this;rw[q1]at r1;exact bM r1
 .obtain⟨l,hl⟩:=hβi l' _ e;exact h.oJ.e8 l b base tot hl
 .have hc:lo<=c:=by
   clear hβ hrd e2 hm2 he hm;induction σ with
   |nil=>simpa[gI]using hok
   |cons p r ih=>simp only[gI,bB,Nat.ble_eq,Nat.blt]at hok;omega
  have hl'':c<=l':=hl';simp only[x',ak (show ¬l'<lo by omega)];cases hi:lT σ l' with
  |none=>rfl
  |some l=>
   have hmem:=mJ hi;have:=sC hok hmem;omega
 .cases f1:look m' l' with
  |none=>simp only at hl';exact absurd f1 hl'
  |some b1=>
   rcases hm1 l' b1 f1 with⟨l,b,q1,_⟩|⟨_,q2,_⟩
   .exact(vC hok q1).1
   .simp only;simp[Nat.blt]at q2;omega
def Inv.ghost {a:Act}{x0:X}{lo:Nat}{env env':List cg}{st st':St}(hlo:∀l,lo<=l->x0.β l=none)(g:a7 lo env st env' st'):∀{x:X},Inv C a x env st->Step x0 x->∃x':X,x'.w=x.w/\Step x0 x'/\Inv C a x' env' st':=by
 induction g with
 |refl env st=>intro x h hs;exact⟨x,rfl,hs,h⟩
 |Qd l env st=>
  intro x h hs;obtain⟨x',a1,a2,a3⟩:=Inv.Qd (nx:=st.nx) (m:=st.m) h l;exact⟨x',a1,hs.trans a2,a3⟩
 |ren σ c env env' nx m m' h0 he hm=>intro x h hs;exact h.ren hs hlo h0 he hm
 |wk env env' nx m m' he hm=>intro x h hs;exact⟨x,rfl,hs,h.weak he hm⟩
 |nz env env' nx m m' he hm=>intro x h hs;exact⟨x,rfl,hs,h.nz he hm⟩
 |trans env1 env2 env3 st1 st2 st3 g1 g2 ih1 ih2=>
  grind
def least {p:Nat->Prop}(h:∃n,p n):∃n,p n/\∀m,p m->n<=m:=by
 obtain⟨n,hn⟩:=h;induction n using Nat.strongRecOn with
 |_ n ih=>
  grind
def tI (hΓ:Ok C.P C.ν C.c7 Y)(hnd:C.slots.Nodup)(hmix:C.P.follows .mixedOrders=true)(x0:X)(hlo:∀l,Y.lo<=l->x0.β l=none):∀(c:Code) (ac:AC),C.code c=some ac->∀(Q:Ex->List cg->St->Prop) (env:List cg) (st:St) (a:Act) (x:X),
  bJ Y ac Q env st->Inv C a x env st->Step x0 x->c.wp C.P (Post C Q x0) a x.w:=by
 intro c;induction c with
 |skip=>
  intro ac hc Q env st a x hw hi hs;simp only[CC.code,bh]at hc;subst hc;obtain⟨env,st,hgh,hw⟩:=hw;obtain⟨x,hxf,hs,hi⟩:=Inv.ghost hlo hgh hi hs;rw[<-hxf];exact wp_skip ⟨.normal,x,env,st,rfl,rfl,hs,hi,hw⟩
 |region id ops draw=>
  intro ac hc Q env st a x hw hi hs;simp only[CC.code]at hc;split at hc
  .rename_i l0 hl;cases draw with
   |false=>
    .simp only[gy,aX,bh]at hc;subst hc;have hsp:=Spec.start hl;simp only[bJ]at hw;obtain⟨env,st,hgh,hw⟩:=hw;obtain⟨x,hxf,hs,hi⟩:=Inv.ghost hlo hgh hi hs;rw[<-hxf];refine wp_region ?_;rw[List.range_eq_range'];refine LU hsp hΓ (x0:=x0) (K:=fun vs st'=>Q .normal (iS env vs (C.ir 0 ops.toList)) st') (fun vs' st' a' x' hk _ hm hst hsm hfr=>?_) ops.size 0 [] st x a ae rfl (hi.Vi _ _ (fun p h=>ae)) hs hi.oJ hi.fresh hw;exact⟨.normal,x',_,st',rfl,rfl,hst,wA hnd hsp hi.len hm hsm hfr,hk⟩
   |true=>
    simp only[aW]at hc;split at hc
    .rename_i hdo;simp only[bh]at hc;subst hc;have hsp:=(Spec.start hl).mY (px [] ops.toList);generalize mY (px [] ops.toList) l0 0 l0=l at hsp hdo hw;simp only[bJ]at hw;obtain⟨env,st,hgh,hw⟩:=hw;obtain⟨x,hxf,hs,hi⟩:=Inv.ghost hlo hgh hi hs;rw[<-hxf];have ho:=Sp hdo;have hasm:∀g∈l,∀vs',g.i.IC true (Src.ev env vs'):=by
      intro g hg vs';refine QH fun s _ hS hok=>?_
      have:=hS rfl;obtain⟨n,rfl⟩:∃n,s=.s n:=by
       cases s<;>simp only[Src.RE]at this<;>first
        |exact⟨_,rfl⟩
        |cases this
      simp only[Src.ev]at hok⊢;by_cases hn:n<C.slots.length
      .exact⟨_,_,_,hi.env n C.slots[n] (by simp[hn]) hok⟩
      .refine⟨C.ν,x,undef, ?_⟩;have:env.getD n .un=.un:=by simp[List.getD,List.getElem?_eq_none (show env.length<=n by rw[hi.len];omega)]
       rw[this];exact .any _
     rcases YO hdo with hnM|hlm
     .obtain⟨VS,M,tr,hM0,hk⟩:=xT hnM hasm hi.fresh.m hw;have hg:gU x.w {x.w with drawn:=x.w.drawn+1}:=⟨rfl,rfl,rfl,aL _,fun _ _=>rfl⟩
      let x1:X:=⟨{x.w with drawn:=x.w.drawn+1},x.I,x.β⟩
      have hst1:Step x x1:=Step.grow hg hi.oJ.imm;have hs1:gv C.ν x1 (look st.m):=hi.oJ.grow hg;refine wp_region_any hmix ?_;refine Gd hsp ho hnM hΓ tr (x0:=x0) (fun a' x' hm hst hsm hfr=>?_) ops.size _ a x1 (look st.m) 0 ?_ ?_
      .exact⟨.normal,x',_,_,rfl,rfl,hst,wA hnd hsp hi.len hm hsm hfr,hk⟩
      .have hno:∀p,¬(Array.replicate ops.size false).getD p false=true:=fun p=>by
        simp[Array.getElem?_replicate];split<;>simp
       refine⟨?_,hs.trans hst1,hs1,aJ,fun j hj=>absurd hj (hno j),fun l' hl' _=>hi.fresh.β l' hl',fun p g _ _=>⟨fun h=>absurd h (hno p),fun h=>ae⟩,fun l' hl'=>?_,fun q g _ _ _ h=>absurd h (hno q)⟩
       .have:=hi.Vi (ops.toList.map (·.dst)) VS (D:=fun p=>(Array.replicate ops.size false).getD p false=true) hno;exact⟨fun p t hp=>absurd hp (hno p),fun p t hp=>absurd hp (hno p),fun n t hn h1 h2=>(this.old n t hn h1 h2).mono hst1.le,this.size,this.defers⟩
       .have hlt:l'<st.nx:=by
         rcases hY l' st.nx with h1|h1
         .exact h1
         .exact absurd (hi.fresh.β l' h1) hl'
        rw[show max 0 (l'+1-st.nx)=0 by omega,hM0]
      .unfold Zz;exact dm (List.length_filter_le _ _) aJ
     .obtain⟨l',vM,rfl,hsuf,hfull,hnM⟩:=Ji hlm;have hlen:l'.length+vM.length=ops.size:=by have:=hsp.len;simpa using this
      have hsz:ops.size=l'.length+vM.length:=hlen.symm;have hpl:(ops.extract 0 l'.length).toList=ops.toList.take l'.length:=aJ;have hpz:(ops.extract 0 l'.length).size=l'.length:=cY;have hops:ops.toList=(ops.extract 0 l'.length).toList++ops.toList.drop l'.length:=by rw[hpl,List.take_append_drop]
      generalize ops.extract 0 l'.length=ps at hpl hpz hops;have hpop:∀j,j<l'.length->ps.toList[j]? =ops.toList[j]? :=fun j hj=>by rw[hpl,List.getElem?_take,aw hj]
      have hdd:∀j,j<l'.length->(ps.toList.map (·.dst))[j]? =(ops.toList.map (·.dst))[j]? :=fun j hj=>by
       rw[List.getElem?_map,List.getElem?_map,hpop j hj]
      have htk:∀j,j<=l'.length->(ps.toList.map (·.dst)).take j=(ops.toList.map (·.dst)).take j:=fun j hj=>by
       rw[hpl,List.map_take,List.take_take,Nat.min_eq_left hj]
      have hsp':Spec C ps.toList l':=by
       refine⟨by simpa using hpz.symm,fun i oi hoi=>?_,fun i oi d hoi hd=>?_⟩
       .have hi':i<l'.length:=by have:=(List.getElem?_eq_some_iff.1 hoi).1;simp at this;omega
        rw[hpop i hi']at hoi;obtain⟨g,g1,g2,g3⟩:=hsp.op i oi hoi;rw[List.getElem?_append_left hi']at g1;exact⟨g,g1,by rw[htk i ae];exact g2,by rw[htk i ae];exact g3⟩
       .have hi':i<l'.length:=by have:=(List.getElem?_eq_some_iff.1 hoi).1;simp at this;omega
        rw[hpop i hi']at hoi;obtain⟨h1,h2⟩:=hsp.dst i oi d hoi hd;exact⟨h1,fun p hp=>by rw[hdd p ae];exact h2 p hp⟩
      have ho':Order ps.toList l' (px [] ops.toList):=Order.pre (os:=ops.toList.drop l'.length) (ls:=vM) (by rw[<-hops];exact ho);have hgd:∀(i:Nat) (o:Oper),ops[i]? =some o->∀j w,o.guard=some (j,w)->j<i:=by
       intro i oi hoi j w hj;obtain⟨g,_,_,g3⟩:=hsp.op i oi (by simpa using hoi);rw[hj]at g3;simp only[CC.guard]at g3;split at g3
       .rename_i t ht;have:=(List.getElem?_eq_some_iff.1 ht).1;simp only[er]at this;omega
       .cases g3
      have hw':=HH l' [] st rfl hnM hw;obtain⟨VS,M,tr,hM0,hk⟩:=xT hnM (fun g hg=>hasm g (List.mem_append_left _ hg)) hi.fresh.m hw';have hVS:VS.length=l'.length:=tr.len;have hg:gU x.w {x.w with drawn:=x.w.drawn+1}:=⟨rfl,rfl,rfl,aL _,fun _ _=>rfl⟩
      let x1:X:=⟨{x.w with drawn:=x.w.drawn+1},x.I,x.β⟩
      have hst1:Step x x1:=Step.grow hg hi.oJ.imm;have hs1:gv C.ν x1 (look st.m):=hi.oJ.grow hg;refine wp_region_any hmix ?_;have hno:∀(n p:Nat),¬(Array.replicate n false).getD p false=true:=fun n p=>by
       simp[Array.getElem?_replicate];split<;>simp
      rw[hsz];refine Cy vM.length hsz aJ ho hfull hgd a x1.w ?_;rw[show ops.extract 0 l'.length=ps by apply Array.ext';rw[hpl];simp];refine Gd hsp' ho' hnM hΓ tr (x0:=x0) (fun a' x' hm hst hsm hfr=>?_) l'.length _ a x1 (look st.m) 0 ?_ ?_
      ·
       show wpOps C.P ops _ (List.range' l'.length vM.length) a' x'.w;have hk2:=Th hsuf hk;simp only at hk2;rw[show st.nx+l'.length-VS.length=st.nx by omega]at hk2;have hmid:B1 C env (ops.toList.map (·.dst)) VS (· <l'.length) a' x':=by
        refine⟨fun p t hp h1 h2=>hm.val p t (by rw[hpz];exact hp) (by rw[hdd p hp];exact h1) h2,fun p t hp h1 h2=>hm.und p t (by rw[hpz];exact hp) (by rw[hdd p hp];exact h1) h2,fun n t hn h1 h2=>hm.old n t hn (fun p hp=>?_) h2,hm.size,hm.defers⟩;have hp':p<l'.length:=by have hp:p<ps.size:=hp;omega
        rw[hdd p hp'];exact h1 p hp'
       exact LU hsp hΓ (x0:=x0) (K:=fun vs st'=>Q .normal (iS env vs (C.ir 0 ops.toList)) st') (fun vs' st' a' x' hk _ hm hst hsm hfr=>⟨.normal,x',_,st',rfl,rfl,hst,wA hnd hsp hi.len hm hsm hfr,hk⟩) vM.length l'.length VS ⟨st.nx,M l'.length⟩ x' a' hlen hVS hmid hst hsm hfr (by rw[List.drop_left];exact hk2)
      .refine⟨?_,hs.trans hst1,hs1,by simp[hpz],fun j hj=>absurd hj (hno _ j),fun l' hl' _=>hi.fresh.β l' hl',fun p g _ _=>⟨fun h=>absurd h (hno _ p),fun h=>ae⟩,fun l' hl'=>?_,fun q g _ _ _ h=>absurd h (hno _ q)⟩
       .have:=hi.Vi (ps.toList.map (·.dst)) VS (D:=fun p=>(Array.replicate l'.length false).getD p false=true) (hno _);exact⟨fun p t hp=>absurd hp (hno _ p),fun p t hp=>absurd hp (hno _ p),fun n t hn h1 h2=>(this.old n t hn h1 h2).mono hst1.le,this.size,this.defers⟩
       .have hlt:l'<st.nx:=by
         rcases hY l' st.nx with h1|h1
         .exact h1
         .exact absurd (hi.fresh.β l' h1) hl'
        rw[show max 0 (l'+1-st.nx)=0 by omega,hM0]
      .unfold Zz;refine dm (List.length_filter_le _ _) (by simp[hpz])
    .cases hc
  .cases hc
 |seq c1 c2 ih1 ih2=>
  intro ac hc Q env st a x hw hi hs;simp only[CC.code]at hc;split at hc
  .rename_i a1 a2 h1 h2;simp only[bh]at hc;subst hc;simp only[bJ]at hw;obtain⟨env,st,hgh,hw⟩:=hw;obtain⟨x,hxf,hs,hi⟩:=Inv.ghost hlo hgh hi hs;rw[<-hxf];refine wp_seq (wp_mono (ih1 a1 h1 _ env st a x hw hi hs) fun e a' w' hp=>?_);obtain⟨e',x',env',st',he,hxw,hst,hi',hq⟩:=hp;subst hxw;cases e' with
   |normal=>subst he;exact ih2 a2 h2 Q env' st' a' x' hq hi' hst
   |exit id=>subst he;exact⟨.exit id,x',env',st',rfl,rfl,hst,hi',hq⟩
   |ret=>subst he;exact⟨.ret,x',env',st',rfl,rfl,hst,hi',hq⟩
  .cases hc
 |cond c c1 c2 ih1 ih2=>
  intro ac hc Q env st a x hw hi hs;simp only[CC.code]at hc;split at hc
  .rename_i s a1 a2 h0 h1 h2;simp only[bh]at hc;subst hc;simp only[bJ]at hw;obtain⟨env,st,hgh,hw⟩:=hw;obtain⟨x,hxf,hs,hi⟩:=Inv.ghost hlo hgh hi hs;rw[<-hxf];obtain⟨hok,hw⟩:=hw;have hv:=Ra hi h0 hok;cases hd:(s.ev env []).d<;>simp only[hd]at hw;rename_i t;rw[hd]at hv;cases t with
   |true=>exact wp_cond_true hv.jR (ih1 a1 h1 Q env st a x (hw.1 rfl) hi hs)
   |false=>exact wp_cond_false hv.jR (ih2 a2 h2 Q env st a x (hw.2 rfl) hi hs)
  .cases hc
 |block id c1 ih=>
  intro ac hc Q env st a x hw hi hs;simp only[CC.code,dZ]at hc;obtain⟨a1,h1,rfl⟩:=hc;simp only[bJ]at hw;obtain⟨env,st,hgh,hw⟩:=hw;obtain⟨x,hxf,hs,hi⟩:=Inv.ghost hlo hgh hi hs;rw[<-hxf];refine wp_block (wp_mono (ih a1 h1 _ env st a x hw hi hs) fun e a' w' hp=>?_);obtain⟨e',x',env',st',he,hxw,hst,hi',hq⟩:=hp;subst hxw;cases e' with
  |normal=>subst he;exact⟨.normal,x',env',st',rfl,rfl,hst,hi',hq⟩
  |exit j=>
   subst he;simp only[Ex.of,Exit.inBlock];by_cases hj:j=id
   .rw[aw hj];simp only[hj,aW]at hq;exact⟨.normal,x',env',st',rfl,rfl,hst,hi',hq⟩
   .rw[ak hj];simp only[hj,aX]at hq;exact⟨.exit j,x',env',st',rfl,rfl,hst,hi',hq⟩
  |ret=>subst he;exact⟨.ret,x',env',st',rfl,rfl,hst,hi',hq⟩
 |loop c1 ih=>
  intro ac hc Q env st a x hw hi hs;simp only[CC.code,dZ]at hc;obtain⟨a1,h1,rfl⟩:=hc;simp only[bJ]at hw;obtain⟨env,st,hgh,hw⟩:=hw;obtain⟨x,hxf,hs,hi⟩:=Inv.ghost hlo hgh hi hs;rw[<-hxf];obtain⟨I,μ,hI,hround⟩:=hw
  let W:Act->World->Nat->Prop:=fun a w n=>∃env st x,x.w=w/\Step x0 x/\Inv C a x env st/\I env st/\μ env st=n
  open Classical in
  let μ':Act->World->Nat:=fun a w=>if h:∃n,W a w n then Classical.choose (least h)else 0
  refine wp_loop (fun a w=>∃n,W a w n) μ' ⟨_,env,st,x,rfl,hs,hi,hI,rfl⟩ fun a w hIn=>?_
  have hμ:μ' a w=Classical.choose (least hIn):=dif_pos hIn;obtain⟨env2,st2,x2,hxw,hst2,hi2,hI2,hmu⟩:=(Classical.choose_spec (least hIn)).1;subst hxw;refine wp_mono (ih a1 h1 _ env2 st2 a x2 (hround env2 st2 hI2) hi2 hst2) fun e a' w' hp=>?_
  obtain⟨e',x',env',st',he,hxw,hst,hi',hq⟩:=hp;subst hxw;cases e' with
  |normal=>
   subst he;obtain⟨env3,st3,hgh3,hI3,hlt⟩:=hq;obtain⟨x',hxf',hst,hi'⟩:=Inv.ghost hlo hgh3 hi' hst;rw[<-hxf'];have hW:W a' x'.w (μ env3 st3):=⟨env3,st3,x',rfl,hst,hi',hI3,rfl⟩;refine⟨⟨_,hW⟩, ?_⟩;have h2:μ' a' x'.w=Classical.choose (least (⟨_,hW⟩:∃n,W a' x'.w n)):=dif_pos ⟨_,hW⟩;rw[h2,hμ];exact Nat.lt_of_le_of_lt ((Classical.choose_spec (least (⟨_,hW⟩:∃n,W a' x'.w n))).2 _ hW) (by rw[<-hmu];exact hlt)
  |exit id=>subst he;exact⟨.exit id,x',env',st',rfl,rfl,hst,hi',hq⟩
  |ret=>subst he;exact⟨.ret,x',env',st',rfl,rfl,hst,hi',hq⟩
 |exit id=>
  intro ac hc Q env st a x hw hi hs;simp only[CC.code,bh]at hc;subst hc;obtain⟨env,st,hgh,hw⟩:=hw;obtain⟨x,hxf,hs,hi⟩:=Inv.ghost hlo hgh hi hs;rw[<-hxf];exact wp_exit ⟨.exit id,x,env,st,rfl,rfl,hs,hi,hw⟩
 |ret=>
  intro ac hc Q env st a x hw hi hs;simp only[CC.code,bh]at hc;subst hc;obtain⟨env,st,hgh,hw⟩:=hw;obtain⟨x,hxf,hs,hi⟩:=Inv.ghost hlo hgh hi hs;rw[<-hxf];exact wp_ret ⟨.ret,x,env,st,rfl,rfl,hs,hi,hw⟩
 |scope c1 ih=>
  intro ac hc Q env st a x hw hi hs;simp only[CC.code]at hc;refine wp_scope_straight (wp_mono (ih ac hc Q env st a x hw hi hs) fun e a' w' hp=>?_);obtain⟨e',x',env',st',he,hxw,hst,hi',hq⟩:=hp;subst he;cases e'<;>exact⟨_,x',env',st',rfl,hxw,hst,hi',hq⟩
 |label l=>
  intro ac hc Q env st a x hw hi hs;simp only[CC.code,bh]at hc;subst hc;obtain⟨env,st,hgh,hw⟩:=hw;obtain⟨x,hxf,hs,hi⟩:=Inv.ghost hlo hgh hi hs;rw[<-hxf];exact wp_label ⟨.normal,x,env,st,rfl,rfl,hs,hi,hw⟩
 |_=>intro ac hc;simp[CC.code]at hc
end
end
section
variable [dR]
section
variable {C:CC} {Y:Ctx}
def RR {P:Program}{ν:List (Nat×Nat)}{x:X}{f:Nat->Option bW}{m:List (Nat×bW)}{t:TypeId}{v:Value}{d:D}(hn0:P.cellsOf t≠0)(hu:(P.underlying t).isNone=false)(h1':cL P t=false->P.cellsOf t=1)
  (hv:RD ν x v d) (k2:GQ m (P.cellsOf t) d) (hs:gv ν x f) (hag:∀l,look m l≠none->f l=look m l):
  ∃ad u,v=.pointer (some ad)/\(loadVar t ad).run P x.w=.ok u x.w/\RD ν x u (FK m (P.cellsOf t) (cL P t) d):=by
 cases d<;>simp only[GQ]at k2
 .rename_i k es i o';cases hv with
  |ref b off _ _ _ at_ _ c hI hat hk hn hcc hone hh=>
   obtain⟨v,r1,r2⟩:=yM (P:=P) (ν:=ν) (x:=x) (e:=es.getD i .any) (k:=k) (n:=P.cellsOf t) (o:=o') (b:=b) (at0:=off+i*k) (ag:=cL P t) (ty:=t) (c:=c i) (hk i k2.1) k2.2
    (fun j hj=>⟨hcc i j k2.1 hj,hone i j k2.1 hj,hh i j k2.1 hj⟩) rfl hn0 hu rfl h1'
   grind [FK]
 .rename_i l k i o';cases hv with
  |ptr _ _ _ _ b base tot at_ hβ hat=>
   obtain⟨g1,g2,hnI,hk0,ht,c,T,fr,q1,q2,q3,q4⟩:=Ac hs hag k2.1 hβ;have hi:i<(bC m l).length:=ae;obtain⟨v,r1,r2⟩:=yM (P:=P) (ν:=ν) (x:=x) (e:=(bC m l).getD i .any) (k:=k) (n:=P.cellsOf t) (o:=o') (b:=b) (at0:=base+i*k) (ag:=cL P t) (ty:=t) (c:=fun j=>c.getD (base+i*k+j) undef)
    ((q4 i hi).1) k2.2
    (fun j hj=>⟨cell_of_heap q1 (by have:=jK (tot:=tot) (show i<tot by omega) hj;omega),((q4 i hi).2 j hj).1,((q4 i hi).2 j hj).2⟩) rfl hn0 hu rfl h1'
   grind [FK]
def Br (a:Act):ResultVar->Sem Value
 | .tmp t=>pure (a.tmps.getD t undef)
 | .cell ad t=>do loadVar t (<-asAddr (a.tmps.getD ad undef))
def sb {a:Act}{x:X}{env:List cg}{st:St}(hi:Inv C a x env st):∀(rs:List ResultVar) (ars:List NB),vB C.P C.slots rs=some ars->qW st.m env ars->
  ∃vs,(rs.mapM (Br a)).run C.P x.w=.ok vs x.w/\vs.length=ars.length/\(qX st.m env ars).length=ars.length/\∀i,i<ars.length->RD C.ν x (vs.getD i undef) ((qX st.m env ars).getD i .any)
 |[],ars,h,_=>by simp[vB]at h;subst h;exact⟨[],aJ,rfl,by simp[qX],fun i hi=>by simp at hi⟩
 | .tmp t::r,ars,h,ho=>by
  simp only[vB]at h;split at h
  .rename_i s l h1 h2;simp only[bh]at h;subst h;simp only[qW]at ho;obtain⟨vs,b1,b2,b4,b3⟩:=sb hi r l h2 ho.2.2;refine⟨a.tmps.getD t undef::vs,by simp[Br,b1],by simp[b2],by simp[qX,b4],fun i hil=>?_⟩;cases i with
   |zero=>simpa[qX,HJ]using hi.env s t (pL _ _ _ h1) ho.1
   |succ i=>simpa[qX]using b3 i (by simpa using hil)
  .cases h
 | .cell t ty::r,ars,h,ho=>by
  simp only[vB]at h;split at h
  .rename_i s l h1 h2;split at h
   .cases h
   rename_i hce;simp only[bh]at h;subst h;simp only[qW]at ho;obtain⟨vs,b1,b2,b4,b3⟩:=sb hi r l h2 ho.2.2;have hu:(C.P.underlying ty).isNone=false:=by cases hn:(C.P.underlying ty).isNone with|false=>rfl|true=>exact absurd (.inr (.inl hn)) hce
   have h1':cL C.P ty=false->C.P.cellsOf ty=1:=fun e=>by
    rcases Nat.decEq (C.P.cellsOf ty) 1 with h|h
    .exact absurd (.inr (.inr ⟨e,h⟩)) hce
    .exact h
   obtain⟨ad,u,c1,c2,c3⟩:=RR (fun e=>hce (.inl e)) hu h1' (hi.env s t (pL _ _ _ h1) ho.1) ho.2.1 hi.oJ (fun _ _=>rfl);refine⟨u::vs, ?_,by simp[b2],by simp[qX,b4],fun i hil=>?_⟩
   .have e:(Br a (.cell t ty)).run C.P x.w=.ok u x.w:=by simp only[Br,c1];simp[asAddr,c2]
    simp[List.mapM_cons,e,b1]
   .cases i with
    |zero=>simpa[qX,HJ]using c3
    |succ i=>simpa[qX]using b3 i (by simpa using hil)
  .cases h
def Kc (fn:Func)(a:Act):results fn a.tmps=(do
  let vs <-fn.results.mapM (Br a)
  pure (if h:vs.size=1 then vs[0]else .tuple vs)):=by
 unfold results;congr 1
def sa {a:Act}{x:X}{env:List cg}{st:St}(hi:Inv C a x env st){fn:Func}{af:aC}(hr:vB C.P C.slots fn.results.toList=some af.res)(ho:qW st.m env af.res):
  ∃v,(results fn a.tmps).run C.P x.w=.ok v x.w/\RD C.ν x v (me af env st)/\(af.res.length≠1->∃cs,v=.tuple cs):=by
 obtain⟨vs,b1,b2,b4,b3⟩:=sb hi _ _ hr ho;have hrun:(results fn a.tmps).run C.P x.w=.ok (if h:vs.length=1 then vs[0]else .tuple vs.toArray) x.w:=by
  rw[Kc,Sem.run_bind,Array.mapM_eq_mapM_toList,Sem.run_map,b1];simp[Result.andThen]
 rcases hres:af.res with _|⟨r,_|⟨r2,rs⟩⟩
 .rw[hres]at b2 b3 b4;have h0:vs.length≠1:=by rw[b2];simp
  rw[dif_neg h0]at hrun;refine⟨_,hrun, ?_,fun _=>⟨_,rfl⟩⟩;simp only[me,hres];refine .tup _ _ (by simp[b2,b4]) fun i hi=>?_
  have:=b3 i ae
  rwa [<-cB]
 .rw[hres]at b2 b3 b4;have h0:vs.length=1:=by rw[b2];rfl
  rw[dif_pos h0]at hrun;refine⟨_,hrun, ?_,fun h=>absurd rfl h⟩;simp only[me,hres];have:=b3 0 aJ;simp only[qX,jt]at this
  rwa [qn _ _ _ ae]at this
 .rw[hres]at b2 b3 b4;have h0:vs.length≠1:=by rw[b2];simp
  rw[dif_neg h0]at hrun;refine⟨_,hrun, ?_,fun _=>⟨_,rfl⟩⟩;simp only[me,hres];refine .tup _ _ (by simp[b2,b4]) fun i hi=>?_
  have:=b3 i ae
  rwa [<-cB]
def v8:∀(l acc:List Nat),∃r,dedup acc l=acc.reverse++r
 |[],acc=>⟨[],by simp[dedup]⟩
 |a::l,acc=>by
  simp only[dedup];split
  .exact v8 l acc
  .obtain⟨r,h⟩:=v8 l (a::acc);exact⟨a::r,by rw[h];simp⟩
def rl:∀(l acc:List Nat),acc.Nodup->(dedup acc l).Nodup
 |[],acc,h=>by simp only[dedup];exact List.pairwise_reverse.2 (h.imp fun h=>Ne.symm h)
 |a::l,acc,h=>by
  simp only[dedup];split
  .exact rl l acc h
  .rename_i hn;exact rl l (a::acc) (List.nodup_cons.2 ⟨by simpa using hn,h⟩)
def xy (rest:List Nat):∀(n j:Nat),dedup (List.range j).reverse (List.range' j n++rest)=dedup (List.range (j+n)).reverse rest
 |0,j=>aJ
 |n+1,j=>by
  rw[List.range'_succ,fB];simp only[dedup];rw[ak aJ];have e:j::(List.range j).reverse=(List.range (j+1)).reverse:=by rw[List.range_succ];simp
  rw[e,xy rest n (j+1)];congr 2;congr 1;omega
def oU (fn:Func):(slotsOf fn).Nodup/\fn.params.size+fn.nfree<=(slotsOf fn).length/\∀n,n<fn.params.size+fn.nfree->(slotsOf fn)[n]? =some n:=by
 refine⟨rl _ _ List.nodup_nil, ?_⟩;have e:slotsOf fn=dedup (List.range (fn.params.size+fn.nfree)).reverse (sW fn.results.toList++BL (fn.body.getD .skip)):=by
  have:=xy (sW fn.results.toList++BL (fn.body.getD .skip)) (fn.params.size+fn.nfree) 0;simp only[List.range_zero,List.reverse_nil,bQ]at this;unfold slotsOf;rw[eu,List.range_eq_range'];rw[this,List.range_eq_range']
 obtain⟨r,h⟩:=v8 (sW fn.results.toList++BL (fn.body.getD .skip)) (List.range (fn.params.size+fn.nfree)).reverse
 grind
end
end
section
variable [dR]
section
variable {P:Program} {ν:List (Nat×Nat)} {c7:List Nat} {Y:Ctx}
def Ok.at (h:Ok P ν c7 Y)(n:Nat):Ok P ν c7 (Y.at n):=⟨h.small,h.bld,h.pure,h.effF,h.c7⟩
def jv {fn:Func}{af:aC}(hc:compile P ν c7 fn=some af):
  ∃body,fn.body=some body/\CC.code {P,ν,c7,slots:=slotsOf fn,ntmps:=fn.ntmps,vm:=P3 P fn} body=some af.body/\vB P (slotsOf fn) fn.results.toList=some af.res/\
   fn.params.size+fn.nfree<=fn.ntmps/\af.np=fn.params.size+fn.nfree/\af.ns=(slotsOf fn).length:=by
 grind [compile]
def xg {fn:Func}{af:aC}{x:X}{args:Array Value}{ds:List D}{st:St}(hnp:fn.params.size+fn.nfree<=fn.ntmps)(h1:af.np=fn.params.size+fn.nfree)(h2:af.ns=(slotsOf fn).length)(hl:args.size=ds.length)(hd:ds.length=af.np)
  (hargs:∀i,i<ds.length->RD ν x (args.getD i undef) (ds.getD i .any)) (hs:gv ν x (look st.m)) (hf:gp st x):
  Inv {P,ν,c7,slots:=slotsOf fn,ntmps:=fn.ntmps,vm:=P3 P fn} {tmps:=args++Array.replicate (fn.ntmps-args.size) undef,defers:=[]} x (fD af ds) st:=by
 obtain⟨s1,s2,s3⟩:=oU fn;refine⟨?_,fun n t hn ho=>?_,cY,rfl,hs,hf⟩
 .simp only[fD,bP,bN,List.length_replicate];omega
 .simp only at hn;simp only[fD]at ho⊢;rw[dz]at ho⊢;simp only[bN]at ho⊢;by_cases h:n<ds.length
  .grind [nC]
  .rw[ak h];have:(List.replicate (af.ns-af.np) cg.un).getD (n-ds.length) .un=.un:=by
    simp only[List.getD,List.getElem?_replicate];split<;>rfl
   rw[this];exact .any _
def Ex.EP {e:Ex}(h:e.home):Ex.of e=.normal\/Ex.of e=.ret:=by
 cases e with
 |normal=>exact .inl rfl
 |exit id=>exact h.elim
 |ret=>exact .inr rfl
def UJ {fid:Nat}{fn:Func}{af:aC}{d:D}(hΓ:Ok P ν c7 Y)(hmix:P.follows .mixedOrders=true)(hf:P.funcs[fid]? =some fn)(hc:compile P ν c7 fn=some af)
  {x:X} {args:Array Value} {ds:List D} (hl:args.size=ds.length) (hargs:∀i,i<ds.length->RD ν x (args.getD i undef) (ds.getD i .any)) (hnl:bG ds=true) (himm:∀b,x.I b->b<x.w.heap.size) (hgd:dR.gd x)
  (hnp:ds.length=af.np) (hw:bJ (Y.at 0) af.body (fun e env st=>e.home/\qW st.m env af.res/\LN af env st/\VN af env st=d) (fD af ds) ⟨0,[]⟩):
  Calls P fid args x.w fun
   | .returned v,w'=>∃x',x'.w=w'/\nW x x'/\RD ν x' v d
   |_,_=>False:=by
 obtain⟨body,c1,c2,c3,c4,c5,c6⟩:=jv hc
 let x0:X:=⟨x.w,x.I,fun _=>none⟩
 have hs0:gv ν x0 (look []):=⟨fun l blk b base tot h=>by simp[look]at h,fun l l' b base tot base' tot' h=>by simp[look]at h,himm,fun l b base tot h=>(by cases h),dR.le x _ (fun _ h=>h) (fun _ _=>rfl) hgd⟩;have hf0:gp ⟨0,[]⟩ x0:=⟨fun l _=>rfl,fun l h=>by simp[look]at h⟩;have hi:=xg (P:=P) (ν:=ν) (c7:=c7) (x:=x0) (st:=⟨0,[]⟩) c4 c5 c6 hl hnp (fun i hi=>(hargs i hi).bI (dq hnl i) (fun _ h=>h) (fun _ _=>rfl)) hs0 hf0;have hcs:=tI (C:={P,ν,c7,slots:=slotsOf fn,ntmps:=fn.ntmps,vm:=P3 P fn}) (hΓ.at 0) (oU fn).1 hmix x0 (fun _ _=>rfl) body af.body c2 _ _ _ _ x0 hw hi (.refl _);refine calls_of_wp hf c1 (wp_mono hcs fun e a w' hp=>?_);obtain⟨e',x',env',st',he,hxw,hst,hi',hh,hro,hrpo,hrp⟩:=hp;subst hxw;obtain⟨v,r1,r2,r3⟩:=sa hi' c3 hro;have hI:∀b,(x'.n5 (look st'.m)).I b->b<x'.w.heap.size:=by
  intro b hb;rcases hb with h|⟨l,⟨b',base,tot⟩,h1,h2,h3⟩
  .exact hi'.oJ.imm b h
  .subst h2;exact hi'.oJ.e8 l _ _ _ h1
 have hnew:∀b,(x'.n5 (look st'.m)).I b->x.I b\/x.w.heap.size<=b:=by
  intro b hb;rcases hb with h|⟨l,p,h1,h2,h3⟩
  .rcases hst.newI b h with h|h|⟨l,p,h,_⟩
   .exact .inl h
   .exact .inr h
   .cases h
  .subst h2;rcases hst.newβ l p h1 with h|h|⟨l',p',h,_⟩
   .cases h
   .exact .inr h
   .cases h
 have hps:nW x ⟨x'.w,(x'.n5 (look st'.m)).I,x.β⟩:=
  ⟨⟨hst.os,hst.tape,hst.output,hst.size,fun b hb=>hst.old b hb fun l p h=>by cases h⟩,fun b hb=>.inl (hst.I b hb),hnew,hI,rfl⟩
 have hrd:RD ν ⟨x'.w,(x'.n5 (look st'.m)).I,x.β⟩ v d:=by
  rw[<-hrp];have key:∀(v:Value) (d:D),RD ν (x'.n5 (look st'.m)) v d->d.bI=true->RD ν ⟨x'.w,(x'.n5 (look st'.m)).I,x.β⟩ v d:=fun v d h hn=>h.bI hn (fun _ h=>h) (fun _ _=>rfl)
  unfold me at r2;unfold LN at hrpo;unfold VN;rcases hres:af.res with _|⟨r,_|⟨r2',rs⟩⟩
  .simp only[hres]at r2 hrpo⊢;generalize hvs:qX st'.m env' []=vs at r2 hrpo⊢;cases r2 with
   |tup cs _ hl' hh'=>
    obtain⟨q1,q2,q3⟩:=j9 hi'.oJ (fun _ _=>rfl) af.rsh vs (fun j=>cs.getD j undef) hh' hrpo;exact .tup cs _ (by rw[q1,hl']) fun i hi=>key _ _ (q3 i ae) (dq q2 i)
  .simp only[hres]at r2 hrpo⊢;obtain⟨q1,q2⟩:=uk hi'.oJ (fun _ _=>rfl) _ _ _ r2 hrpo;exact key _ _ q1 q2
  .simp only[hres]at r2 hrpo⊢;generalize hvs:qX st'.m env' (r::r2'::rs)=vs at r2 hrpo⊢;cases r2 with
   |tup cs _ hl' hh'=>
    obtain⟨q1,q2,q3⟩:=j9 hi'.oJ (fun _ _=>rfl) af.rsh vs (fun j=>cs.getD j undef) hh' hrpo;exact .tup cs _ (by rw[q1,hl']) fun i hi=>key _ _ (q3 i ae) (dq q2 i)
 rcases Ex.EP hh with h|h<;>rw[h]at he<;>subst he<;>exact⟨hi'.defers,v,r1,⟨x'.w,(x'.n5 (look st'.m)).I,x.β⟩,rfl,hps,hrd⟩
def UH {fid:Nat}{fn:Func}{af:aC}{vd sd:D}(hΓ:Ok P ν c7 Y)(hmix:P.follows .mixedOrders=true)(hf:P.funcs[fid]? =some fn)(hc:compile P ν c7 fn=some af)
  {x:X} {f:Nat->Option bW} {args:Array Value} {l k:Nat} {d:D} {ds:List D} (hl:args.size=ds.length+1) (h0:RD ν x (args.getD 0 undef) (.ptr l k 0 0)) (hargs:∀i,i<ds.length->RD ν x (args.getD (i+1) undef) (ds.getD i .any))
  (hs:gv ν x f) (hfl:f l=some (.buf k [d])) (hd:d.bI=true) (hnl:bG ds=true) (hnp:ds.length+1=af.np)
  (hw:bJ (Y.at 1) af.body (fun e env st=>e.home/\qW st.m env af.res/\(me af env st).bI=true/\me af env st=vd/\look st.m 0=some (.buf k [sd])/\sd.bI=true) (fD af (.ptr 0 k 0 0::ds)) ⟨1,[(0,.buf k [d])]⟩):
  Calls P fid args x.w fun
   | .returned v,w'=>∃x',x'.w=w'/\Step x x'/\RD ν x' v vd/\gv ν x' (fun l'=>if l'=l then some (.buf k [sd])else f l')/\x'.β=x.β
   |_,_=>False:=by
 obtain⟨body,c1,c2,c3,c4,c5,c6⟩:=jv hc;obtain⟨b,base,tot,hβ,ha0⟩:∃b base tot,x.β l=some (b,base,tot)/\args.getD 0 undef=.pointer (some ⟨b,base,none⟩):=by
  generalize args.getD 0 undef=v0 at h0;cases h0 with
  |ptr _ _ _ _ b base tot at_ hβ hat=>exact⟨b,base,tot,hβ,by simp[hat]⟩
 let x1:X:=⟨x.w,x.I,fun l'=>if l'=0 then x.β l else none⟩
 have hx1:∀l' p,x1.β l'=some p->l'=0/\p=(b,base,tot):=by
  intro l' p h;simp only[x1]at h;split at h
  .rename_i e;rw[hβ]at h;exact⟨e,(bM h).symm⟩
  .cases h
 have hx1':x1.β 0=some (b,base,tot):=by simp[x1,hβ]
 have key1:∀(v:Value) (d:D),RD ν x v d->d.bI=true->RD ν x1 v d:=fun v d h hn=>h.bI hn (fun _ h=>h) (fun _ _=>rfl)
 have hbR:=hs.own l _ b base tot hfl hβ;have hs1:gv ν x1 (look [(0,.buf k [d])]):=by
  refine⟨fun l' blk b' base' tot' e1 e2=>?_,fun l1 l2 b' base' tot' base'' tot'' e1 e2 e3 e4=>(hx1 _ _ e3).1.trans (hx1 _ _ e4).1.symm,hs.imm,fun l' b' base' tot' e=>?_,dR.le x _ (fun _ h=>h) (fun _ _=>rfl) hs.gd⟩
  .obtain⟨rfl,e3⟩:=hx1 _ _ e2;simp only[eG]at e3;obtain⟨rfl,rfl,rfl⟩:=e3;simp only[look,aW,bh]at e1;subst e1;refine⟨hbR.1, ?_⟩;obtain⟨p1,p2,c,T,fr,p3,p4,p5,p6⟩:=hbR.2;refine⟨p1,p2,c,T,fr,p3,p4,p5,fun i hi=>⟨(p6 i hi).1,fun j hj=>⟨((p6 i hi).2 j hj).1,key1 _ _ ((p6 i hi).2 j hj).2 ?_⟩⟩⟩;have:i=0:=by simpa using hi
   subst this;exact l6 (by simpa using hd) j
  .obtain⟨_,e3⟩:=hx1 _ _ e;simp only[eG]at e3;rw[e3.1];exact hs.e8 l b base tot hβ
 have hf1:gp ⟨1,[(0,.buf k [d])]⟩ x1:=⟨fun l' hl'=>by
   cases h:x1.β l' with
   |none=>rfl
   |some p=>have:=(hx1 _ _ h).1;simp only at hl';omega,fun l' hl'=>by
   simp only[look]at hl';split at hl'
   .rename_i e;simp only;omega
   .exact absurd rfl hl'⟩
 have hi:=xg (P:=P) (ν:=ν) (c7:=c7) (x:=x1) (ds:=.ptr 0 k 0 0::ds) (st:=⟨1,[(0,.buf k [d])]⟩) c4 c5 c6 (args:=args) (by simpa using hl) (by simpa using hnp) (fun i hi=>by
  cases i with
  |zero=>simp only[jt];rw[ha0];exact .ptr 0 k 0 0 b base tot base hx1' aJ
  |succ i=>simp only[List.getD_cons_succ];exact key1 _ _ (hargs i (by simpa using hi)) (dq hnl i)) hs1 hf1
 have hcs:=tI (C:={P,ν,c7,slots:=slotsOf fn,ntmps:=fn.ntmps,vm:=P3 P fn}) (hΓ.at 1) (oU fn).1 hmix x1 (fun l h=>hf1.β l h) body af.body c2 _ _ _ _ x1 hw hi (.refl _);refine calls_of_wp hf c1 (wp_mono hcs fun e a w' hp=>?_);obtain⟨e',x',env',st',he,hxw,hst,hi',hh,hro,hrn,hrv,hlk,hsn⟩:=hp;subst hxw;obtain⟨v,r1,r2,r3⟩:=sa hi' c3 hro
 let x2:X:=⟨x'.w,x'.I,x.β⟩
 have key2:∀(v:Value) (d:D),RD ν x' v d->d.bI=true->RD ν x2 v d:=fun v d h hn=>h.bI hn (fun _ h=>h) (fun _ _=>rfl)
 have hb':x'.β 0=some (b,base,tot):=hst.β _ _ hx1';have hnewI:∀b',x'.I b'->x.I b'\/x.w.heap.size<=b'\/b'=b:=by
  intro b' h;rcases hst.newI b' h with h|h|⟨l',p,h1,h2⟩
  .exact .inl h
  .exact .inr (.inl h)
  .right;right;rw[<-h2,(hx1 _ _ h1).2]
 have hstep:Step x x2:=by
  refine⟨hst.os,hst.tape,hst.output,hst.size,hst.I,hst.pk,fun _ _ h=>h,fun b' hb' hn=>hst.old b' hb' fun l' p h e=>?_,fun b' h=>?_,fun _ _ h=>.inl h⟩
  .have:=hn l _ hβ;rw[(hx1 _ _ h).2]at e;exact this e
  .rcases hnewI b' h with h|h|h
   .exact .inl h
   .exact .inr (.inl h)
   .exact .inr (.inr ⟨l,_,hβ,h.symm⟩)
 have hsim:gv ν x2 (fun l'=>if l'=l then some (.buf k [sd])else f l'):=by
  have hbb:=hi'.oJ.own 0 _ b base tot hlk hb';refine⟨fun l' blk b' base' tot' e1 e2=>?_,fun l1 l2 b' base' tot' base'' tot'' e1 e2 e3 e4=>?_,hi'.oJ.imm,fun l' b' base' tot' e=>fm (hs.e8 l' b' base' tot' e) hst.size,dR.le x' _ (fun _ h=>h) (fun _ _=>rfl) hi'.oJ.gd⟩
  .by_cases hll:l'=l
   .subst hll;simp only[aW,bh]at e1;subst e1;have e2':x.β l'=some (b',base',tot'):=e2;rw[hβ]at e2';simp only[bh,eG]at e2';obtain⟨rfl,rfl,rfl⟩:=e2';refine⟨hbb.1, ?_⟩;obtain⟨p1,p2,c,T,fr,p3,p4,p5,p6⟩:=hbb.2;refine⟨p1,p2,c,T,fr,p3,p4,p5,fun i hi=>⟨(p6 i hi).1,fun j hj=>⟨((p6 i hi).2 j hj).1,key2 _ _ ((p6 i hi).2 j hj).2 ?_⟩⟩⟩;have:i=0:=by simpa using hi
    subst this;exact l6 (by simpa using hsn) j
   .simp only[ak hll]at e1;have e2':x.β l'=some (b',base',tot'):=e2;obtain⟨q1,q2⟩:=hs.own l' blk b' base' tot' e1 e2';have hne:b'≠b:=fun e=>by subst e;exact hll (hs.inj l' l b' base' tot' base tot (by rw[e1];simp) (by rw[hfl];simp) e2' hβ)
    have hlt:=hs.e8 l' b' base' tot' e2';refine⟨fun h=>?_,q2.mono hstep.le (hst.old b' hlt fun l'' p h e=>hne (by rw[<-e,(hx1 _ _ h).2]))⟩;rcases hnewI b' h with h|h|h
    .exact q1 h
    .omega
    .exact hne h
  .have hne:∀l',(if l'=l then some (bW.buf k [sd])else f l')≠none->f l'≠none:=fun l' h=>by
    by_cases e:l'=l
    .rw[e,hfl];simp
    .rwa [ak e]at h
   exact hs.inj l1 l2 b' base' tot' base'' tot'' (hne _ e1) (hne _ e2) e3 e4
 rw[hrv]at r2;rcases Ex.EP hh with h|h<;>rw[h]at he<;>subst he<;>exact⟨hi'.defers,v,r1,x2,rfl,hstep,key2 _ _ r2 (by rw[<-hrv];exact hrn),hsim,rfl⟩
structure X4 where
 key:Nat->Nat
 mu:Nat->List D->Nat
 muE:Nat->List D->St->Nat
def Ctx.under (Y:Ctx)(R:X4)(k u:Nat):Ctx where
 pre n ds:=(R.key n<k\/R.key n=k/\R.mu n ds<u)/\Y.pre n ds
 val:=Y.val
 tr n ds st K:=(R.key n<k\/R.key n=k/\R.muE n ds st<u)/\Y.tr n ds st K
 fp n d ds:=(R.key n<k\/R.key n=k/\R.mu n (d::ds)<u)/\Y.fp n d ds
 fv:=Y.fv
 fs:=Y.fs
 lo:=Y.lo
def ok_of (R:X4)(hsm:∀fid n,fI ν fid=some n->n<1000000)(hB:∀t,c7.contains (1000000000+t)=true->t=dR.tB)
  (hp:∀fid n,fI ν fid=some n->∀ds,Y.pre n ds->Ok P ν c7 (Y.under R (R.key n) (R.mu n ds))->∀(x:X) (args:Array Value),args.size=ds.length->(∀i,i<ds.length->RD ν x (args.getD i undef) (ds.getD i .any))->bG ds=true->
    (∀b,x.I b->b<x.w.heap.size)->dR.gd x->jP P x (fun v x'=>nW x x'/\RD ν x' v (Y.val n ds)) ((callFunc fid args).run P x.w))
  (hf:∀fid n,fI ν fid=some n->c7.contains (2*n+1)=true->∀(d:D) (ds:List D),Y.fp n d ds->Ok P ν c7 (Y.under R (R.key n) (R.mu n (d::ds)))->∀(x:X) (f:Nat->Option bW) (args:Array Value) (l k:Nat),args.size=ds.length+1->
    RD ν x (args.getD 0 undef) (.ptr l k 0 0)->(∀i,i<ds.length->RD ν x (args.getD (i+1) undef) (ds.getD i .any))->gv ν x f->f l=some (.buf k [d])->d.bI=true->bG ds=true->
    jP P x (fun v x'=>Step x x'/\RD ν x' v (Y.fv n d ds)/\gv ν x' (fun l'=>if l'=l then some (.buf k [Y.fs n d ds])else f l')/\x'.β=x.β) ((callFunc fid args).run P x.w))
  (he:∀fid n,fI ν fid=some n->∀(ds:List D) (st:St) (K:D->St->Prop),Y.tr n ds st K->Ok P ν c7 (Y.under R (R.key n) (R.muE n ds st))->∀(x:X) (args:Array Value),args.size=ds.length->(∀i,i<ds.length->RD ν x (args.getD i undef) (ds.getD i .any))->
    gv ν x (look st.m)->gp st x->jP P x (fun v x'=>∃d st',K d st'/\Step x x'/\RD ν x' v d/\gv ν x' (look st'.m)/\gp st' x') ((callFunc fid args).run P x.w)):Ok P ν c7 Y:=by
 have key:∀k u,Ok P ν c7 (Y.under R k u):=by
  intro k;induction k using Nat.strongRecOn with
  |_ k ihk=>
   intro u;induction u using Nat.strongRecOn with
   |_ u ihu=>
    refine⟨hsm,hB,fun fid n hn x args ds hl hargs hnl himm hgd hpre=>?_,fun fid n hn hef x f args l kk d ds hl h0 hargs hs hfl hd hnl hpre=>?_,fun fid n hn x args ds st K hl hargs hs hf' htr=>?_⟩
    .obtain⟨hlt,hpre⟩:=hpre;refine hp fid n hn ds hpre ?_ x args hl hargs hnl himm hgd;rcases hlt with h|⟨h1,h2⟩
     .exact ihk _ h _
     .rw[h1];exact ihu _ h2
    .obtain⟨hlt,hpre⟩:=hpre;refine hf fid n hn hef d ds hpre ?_ x f args l kk hl h0 hargs hs hfl hd hnl;rcases hlt with h|⟨h1,h2⟩
     .exact ihk _ h _
     .rw[h1];exact ihu _ h2
    .obtain⟨hlt,htr⟩:=htr;refine he fid n hn ds st K htr ?_ x args hl hargs hs hf';rcases hlt with h|⟨h1,h2⟩
     .exact ihk _ h _
     .rw[h1];exact ihu _ h2
 refine⟨hsm,hB,fun fid n hn x args ds hl hargs hnl himm hgd hpre=>?_,fun fid n hn hef x f args l kk d ds hl h0 hargs hs hfl hd hnl hpre=>?_,fun fid n hn x args ds st K hl hargs hs hf' htr=>?_⟩
 .exact hp fid n hn ds hpre (key _ _) x args hl hargs hnl himm hgd
 .exact hf fid n hn hef d ds hpre (key _ _) x f args l kk hl h0 hargs hs hfl hd hnl
 .exact he fid n hn ds st K htr (key _ _) x args hl hargs hs hf'
def ji {fid:Nat}{fn:Func}(hf:P.funcs[fid]? =some fn)(hn:(fn.name== "runtime.NumGoroutine")=false)(hb:fn.body.isSome=true)(args:Array Value)(w:World):(callFunc fid args).run P w=.ok (.enter fid args) w:=by
 have h1:fn.name≠ "runtime.NumGoroutine" :=by simpa using hn
 have h2:fn.body≠none:=by intro h;rw[h]at hb;cases hb
 simp[callFunc,hf,h1,h2]
end
end
def cu {p:Prop}(h:p:=by first|exact fun _=>rfl|exact fun h=>h|(intro h;simp_all)):p:=h
def du {p:Prop}(h:p:=by first|exact rfl|exact⟨_,_,rfl,rfl⟩):p:=h
def vJ {p:Prop}(h:p:=by first|exact fun _=>rfl|(intro h;omega)|(intro h;simp at h;omega)):p:=h
def yy {p:Prop}(h:p:=by intro h;repeat' first|exact trivial|exact rfl|exact h|refine And.intro ?_ ?_|decide):p:=h
def xo {p:Prop}(h:p:=by simp only[aP,a8,Nat.reduceAdd];exact rfl):p:=h
def uG {p:Prop}(h:p:=by intro h;first|omega|(simp at h;omega)):p:=h
def Il {p:Prop}(h:p:=by intro h;first|(constructor<;>omega)|(simp at h;constructor<;>omega)):p:=h
section
section
variable {Y:Ctx} {Q Q':Ex->List cg->St->Prop} {env:List cg} {st:St}
def Ctx.b7 (Y:Ctx):Prop:=∀f ds st (K K':D->St->Prop),(∀d st,K d st->K' d st)->Y.tr f ds st K->Y.tr f ds st K'
def ku {draw:Bool}{K K':List cg->St->Prop}(h:∀vs st,K vs st->K' vs st)(htr:Y.b7):∀(l:List GI) (env vs:List cg) (st:St),hZ Y draw l env vs st K->hZ Y draw l env vs st K'
 |[],env,vs,st,hh=>h _ _ hh
 |⟨i,g⟩::r,env,vs,st,hh=>by
  cases hcm:i.dC with
  |true=>
   cases i<;>simp only[aV.dC]at hcm<;>try(cases hcm;done)
   .exact⟨hh.1,fun hf=>⟨(hh.2.1 hf).1,htr _ _ _ _ _ (fun d st' ⟨h1,h2⟩=>⟨h1,ku h htr r _ _ _ h2⟩) (hh.2.1 hf).2⟩,fun hf=>ku h htr r _ _ _ (hh.2.2 hf)⟩
   .rename_i fv args;simp only[hZ]at hh⊢;refine⟨hh.1,hh.2.1,hh.2.2.1, ?_⟩;have h3:=hh.2.2.2;cases hd:(Src.ev env vs fv).d<;>simp only[hd]at h3⊢;exact⟨h3.1,htr _ _ _ _ _ (fun d st' ⟨h1,h2⟩=>⟨h1,ku h htr r _ _ _ h2⟩) h3.2⟩
   .exact⟨hh.1,hh.2.1,hh.2.2.1,fun b hb=>ku h htr r _ _ _ (hh.2.2.2 b hb)⟩
  |false=>
   cases hf:i.vk draw g with
   |true=>
    rw[Dp hcm hf]at hh⊢;exact⟨hh.1,fun e=>⟨(hh.2.1 e).1,ku h htr r _ _ _ (hh.2.1 e).2⟩,fun e=>ku h htr r _ _ _ (hh.2.2 e)⟩
   |false=>
    rw[nQ hcm hf]at hh⊢;exact⟨hh.1,hh.2.1,fun ha=>(hh.2.2 ha).imp fun _ h2=>⟨h2.1,ku h htr r _ _ _ h2.2⟩⟩
def Gh.mono {lo:Nat}{p q:List cg->St->Prop}(h:∀env st,p env st->q env st):Gh lo p env st->Gh lo q env st
 |⟨e,s,h1,h2⟩=>⟨e,s,h1,h _ _ h2⟩
def Gh.intro {lo:Nat}{p:List cg->St->Prop}(h:p env st):Gh lo p env st:=⟨env,st,.refl _ _,h⟩
def hH (htr:Y.b7):∀(a:AC) (Q Q':Ex->List cg->St->Prop) (env:List cg) (st:St),(∀e env st,Q e env st->Q' e env st)->bJ Y a Q env st->bJ Y a Q' env st
 | .reg draw ins cm,Q,Q',env,st,h,hh=>Gh.mono (fun env st h2=>ku (fun vs st=>h _ _ _) htr _ _ _ _ h2) hh
 | .seq a b,Q,Q',env,st,h,hh=>Gh.mono (fun env st h2=>hH htr a _ _ env st (fun e env st h2=>by
   cases e with
   |normal=>exact hH htr b Q Q' env st h h2
   |exit id=>exact h _ _ _ h2
   |ret=>exact h _ _ _ h2) h2) hh
 | .cond c a b,Q,Q',env,st,h,hh=>Gh.mono (fun env st h2=>by
  refine⟨h2.1, ?_⟩;have:=h2.2;cases hd:(c.ev env []).d<;>simp only[hd]at this⊢;exact⟨fun ht=>hH htr a Q Q' env st h (this.1 ht),fun ht=>hH htr b Q Q' env st h (this.2 ht)⟩) hh
 | .block id a,Q,Q',env,st,h,hh=>Gh.mono (fun env st h2=>hH htr a _ _ env st (fun e env st h2=>by
   cases e with
   |normal=>exact h _ _ _ h2
   |exit j=>simp only at h2⊢;split<;>rename_i hj<;>simp only[hj,aW,aX]at h2<;>exact h _ _ _ h2
   |ret=>exact h _ _ _ h2) h2) hh
 | .loop a,Q,Q',env,st,h,hh=>Gh.mono (fun env st h2=>by
  obtain⟨I,μ,h1,h2⟩:=h2;refine⟨I,μ,h1,fun env st hi=>hH htr a _ _ env st (fun e env' st' h3=>?_) (h2 env st hi)⟩;cases e with
  |normal=>exact h3
  |exit id=>exact h _ _ _ h3
  |ret=>exact h _ _ _ h3) hh
 | .exit id,Q,Q',env,st,h,hh=>Gh.mono (fun _ _=>h _ _ _) hh
 | .ret,Q,Q',env,st,h,hh=>Gh.mono (fun _ _=>h _ _ _) hh
 | .skip,Q,Q',env,st,h,hh=>Gh.mono (fun _ _=>h _ _ _) hh
def hE {a:AC}{env':List cg}{st':St}(g:a7 Y.lo env st env' st')(h:bJ Y a Q env' st'):bJ Y a Q env st:=by
 cases a<;>(obtain⟨e2,s2,g2,h2⟩:=h;exact⟨e2,s2,.trans _ _ _ _ _ _ g g2,h2⟩)
def BQ (Y:Ctx)(id:Nat)(r:AC)(Q:Ex->List cg->St->Prop):Ex->List cg->St->Prop:=fun e env st=>match e with
 | .normal=>bJ Y r Q env st
 | .exit j=>if j=id then bJ Y r Q env st else Q (.exit j) env st
 | .ret=>Q .ret env st
def LQ (Y:Ctx)(id:Nat)(r:AC)(next:List cg->St->Prop)(Q:Ex->List cg->St->Prop):Ex->List cg->St->Prop:=fun e env st=>match e with
 | .normal=>next env st
 | .exit j=>if j=id then bJ Y r Q env st else Q (.exit j) env st
 | .ret=>Q .ret env st
def BQ.normal {id:Nat}{r:AC}(h:bJ Y r Q env st):BQ Y id r Q .normal env st:=h
def BQ.out {id:Nat}{r:AC}(h:bJ Y r Q env st):BQ Y id r Q (.exit id) env st:=by simp only[BQ,aW];exact h
def BQ.other {id j:Nat}{r:AC}(hj:(j==id)=false)(h:Q (.exit j) env st):BQ Y id r Q (.exit j) env st:=by simp only[BQ,ak (by simpa using hj)];exact h
def BQ.ret {id:Nat}{r:AC}(h:Q .ret env st):BQ Y id r Q .ret env st:=h
def LQ.normal {id:Nat}{r:AC}{next:List cg->St->Prop}(h:next env st):LQ Y id r next Q .normal env st:=h
def LQ.out {id:Nat}{r:AC}{next:List cg->St->Prop}(h:bJ Y r Q env st):LQ Y id r next Q (.exit id) env st:=by simp only[LQ,aW];exact h
def LQ.other {id j:Nat}{r:AC}{next:List cg->St->Prop}(hj:(j==id)=false)(h:Q (.exit j) env st):LQ Y id r next Q (.exit j) env st:=by simp only[LQ,ak (by simpa using hj)];exact h
def LQ.ret {id:Nat}{r:AC}{next:List cg->St->Prop}(h:Q .ret env st):LQ Y id r next Q .ret env st:=h
def TO {a b c:AC}(h:bJ Y (.seq a (.seq b c)) Q env st):bJ Y (.seq (.seq a b) c) Q env st:=by
 obtain⟨e1,s1,g1,h1⟩:=h;refine⟨e1,s1,g1,e1,s1,.refl _ _, ?_⟩;have:∀(Q1 Q2:Ex->List cg->St->Prop),Q1=Q2->bJ Y a Q1 e1 s1->bJ Y a Q2 e1 s1:=fun _ _ e h=>e▸h
 refine this _ _ ?_ h1;funext e env st;cases e with
 |normal=>exact propext ⟨fun⟨e2,s2,g2,h2⟩=>hE g2 h2,fun h=>⟨_,_,.refl _ _,h⟩⟩
 |exit id=>rfl
 |ret=>rfl
def Kz {b:AC}(h:bJ Y b Q env st):bJ Y (.seq .skip b) Q env st:=.intro (.intro h)
def wp_skip (h:Q .normal env st):bJ Y .skip Q env st:=.intro h
def Qa {b:AC}(h:Q .ret env st):bJ Y (.seq .ret b) Q env st:=.intro (.intro h)
def wp_ret (h:Q .ret env st):bJ Y .ret Q env st:=.intro h
def Ky {id:Nat}{b:AC}(h:Q (.exit id) env st):bJ Y (.seq (.exit id) b) Q env st:=.intro (.intro h)
def wp_exit {id:Nat}(h:Q (.exit id) env st):bJ Y (.exit id) Q env st:=.intro h
def Ii {id:Nat}{a r:AC}(h:bJ Y a (BQ Y id r Q) env st)(htr:Y.b7):bJ Y (.seq (.block id a) r) Q env st:=by
 refine .intro (.intro (hH htr a _ _ _ _ (fun e env st h=>?_) h));cases e with
 |normal=>exact h
 |exit j=>simp only[BQ]at h⊢;split<;>rename_i hj<;>simp only[hj,aW,aX]at h<;>exact h
 |ret=>exact h
def wp_block {id:Nat}{a:AC}(h:bJ Y a (BQ Y id .skip Q) env st)(htr:Y.b7)(hQ:∀e env env' st st',a7 Y.lo env st env' st'->Q e env' st'->Q e env st):bJ Y (.block id a) Q env st:=by
 refine .intro (hH htr a _ _ _ _ (fun e env st h=>?_) h);have hs:∀env st,bJ Y .skip Q env st->Q .normal env st:=fun env st ⟨e2,s2,g2,h2⟩=>hQ _ _ _ _ _ g2 h2
 cases e with
 |normal=>exact hs _ _ h
 |exit j=>simp only[BQ]at h⊢;split<;>rename_i hj<;>simp only[hj,aW,aX]at h<;>first|exact hs _ _ h|exact h
 |ret=>exact h
def CQ (next:List cg->St->Prop)(Q:Ex->List cg->St->Prop):Ex->List cg->St->Prop:=fun e env st=>match e with
 | .normal=>next env st
 | .exit j=>Q (.exit j) env st
 | .ret=>Q .ret env st
def CQ.normal {next:List cg->St->Prop}(h:next env st):CQ next Q .normal env st:=h
def CQ.other {next:List cg->St->Prop}{j:Nat}(h:Q (.exit j) env st):CQ next Q (.exit j) env st:=h
def CQ.ret {next:List cg->St->Prop}(h:Q .ret env st):CQ next Q .ret env st:=h
def Ix (id:Nat)(Q:Ex->List cg->St->Prop):Ex->List cg->St->Prop:=fun e env st=>match e with
 | .normal=>Q .normal env st
 | .exit j=>if j=id then Q .normal env st else Q (.exit j) env st
 | .ret=>Q .ret env st
def Ix.normal {id:Nat}(h:Q .normal env st):Ix id Q .normal env st:=h
def Ix.out {id:Nat}(h:Q .normal env st):Ix id Q (.exit id) env st:=by simp only[Ix,aW];exact h
def Ix.other {id j:Nat}(hj:(j==id)=false)(h:Q (.exit j) env st):Ix id Q (.exit j) env st:=by grind [Ix]
def Ix.ret {id:Nat}(h:Q .ret env st):Ix id Q .ret env st:=h
def P9 {id:Nat}{a:AC}(h:bJ Y a (Ix id Q) env st)(htr:Y.b7):bJ Y (.block id a) Q env st:=by
 refine .intro (hH htr a _ _ _ _ (fun e env st h=>?_) h);cases e with
 |normal=>exact h
 |exit j=>simp only[Ix]at h⊢;split<;>rename_i hj<;>simp only[hj,aW,aX]at h<;>exact h
 |ret=>exact h
def sw (htr:Y.b7){a b:AC}{ι:Type}(F:ι->List cg)(G:ι->List (Nat×bW))(c:Nat)(P:ι->Prop)
  (h1:bJ Y a (CQ (fun env' st'=>∃j,P j/\a7 Y.lo env' st' (F j) ⟨c,G j⟩) Q) env st)
  (h2:∀i,P i->bJ Y b Q (F i) ⟨c,G i⟩):bJ Y (.seq a b) Q env st:=by
 refine .intro (hH htr a _ _ _ _ (fun e env st h=>?_) h1);cases e with
 |normal=>obtain⟨j,hj,g⟩:=h;exact hE g (h2 j hj)
 |exit j=>exact h
 |ret=>exact h
def ba (htr:Y.b7){a r:AC}{id:Nat}{ι:Type}(F:ι->List cg)(G:ι->List (Nat×bW))(c:Nat)(P:ι->Prop)(μ:ι->Nat)(i0:ι)
  (hP:P i0) (h0:a7 Y.lo env st (F i0) ⟨c,G i0⟩)
  (hr:∀i,P i->bJ Y a (LQ Y id r (fun env' st'=>∃j,P j/\μ j<μ i/\a7 Y.lo env' st' (F j) ⟨c,G j⟩) Q) (F i) ⟨c,G i⟩):bJ Y (.seq (.block id (.loop a)) r) Q env st:=by
 let W:List cg->St->Nat->Prop:=fun env st k=>∃i,env=F i/\st=⟨c,G i⟩/\P i/\μ i=k
 have least:∀env st,(∃k,W env st k)->∃k,W env st k/\∀k',W env st k'->k<=k':=by
  intro env st ⟨k,hk⟩;induction k using Nat.strongRecOn with
  |_ k ih=>
   by_cases h:∃k',k'<k/\W env st k'
   .obtain⟨k',h1,h2⟩:=h;exact ih k' h1 h2
   .exact⟨k,hk,fun k' hk'=>by
     rcases hY k' k with h1|h1
     .exact absurd ⟨k',h1,hk'⟩ h
     .exact h1⟩
 open Classical in
 refine .intro (.intro ⟨_,_,h0,fun env st=>∃k,W env st k,fun env st=>if h:∃k,W env st k then Classical.choose (least env st h)else 0,⟨_,i0,rfl,rfl,hP,rfl⟩,fun env st hk=>?_⟩);obtain⟨⟨i,e1,e2,e3,e5⟩,hmin⟩:=Classical.choose_spec (least env st hk);have:=hr i e3;rw[<-e1,<-e2]at this;refine hH htr a _ _ env st ?_ this
 .intro e env' st' h;cases e with
  |normal=>
   obtain⟨j,b3,b5,g⟩:=h;have hW:W (F j) ⟨c,G j⟩ (μ j):=⟨j,rfl,rfl,b3,rfl⟩;refine⟨F j,⟨c,G j⟩,g,⟨_,hW⟩, ?_⟩;show(if h:∃k,W (F j) ⟨c,G j⟩ k then Classical.choose (least _ _ h)else 0)<(if h:∃k,W env st k then Classical.choose (least env st h)else 0);rw[dif_pos ⟨_,hW⟩,dif_pos hk,<-e5];exact Nat.lt_of_le_of_lt ((Classical.choose_spec (least _ _ ⟨_,hW⟩)).2 _ hW) b5
  |exit j=>simp only[LQ]at h⊢;split<;>rename_i hj<;>simp only[hj,aW,aX]at h<;>exact h
  |ret=>exact h
def Iz (id:Nat)(next:List cg->St->Prop)(Q:Ex->List cg->St->Prop):Ex->List cg->St->Prop:=fun e env st=>match e with
 | .normal=>next env st
 | .exit j=>if j=id then Q .normal env st else Q (.exit j) env st
 | .ret=>Q .ret env st
def Iz.normal {id:Nat}{next:List cg->St->Prop}(h:next env st):Iz id next Q .normal env st:=h
def Iz.out {id:Nat}{next:List cg->St->Prop}(h:Q .normal env st):Iz id next Q (.exit id) env st:=by simp only[Iz,aW];exact h
def Iz.other {id j:Nat}{next:List cg->St->Prop}(hj:(j==id)=false)(h:Q (.exit j) env st):Iz id next Q (.exit j) env st:=by grind [Iz]
def Iz.ret {id:Nat}{next:List cg->St->Prop}(h:Q .ret env st):Iz id next Q .ret env st:=h
def qG (htr:Y.b7){a:AC}{id:Nat}{ι:Type}(F:ι->List cg)(G:ι->List (Nat×bW))(c:Nat)(P:ι->Prop)(μ:ι->Nat)(i0:ι)
  (hP:P i0) (h0:a7 Y.lo env st (F i0) ⟨c,G i0⟩)
  (hr:∀i,P i->bJ Y a (Iz id (fun env' st'=>∃j,P j/\μ j<μ i/\a7 Y.lo env' st' (F j) ⟨c,G j⟩) Q) (F i) ⟨c,G i⟩):bJ Y (.block id (.loop a)) Q env st:=by
 let W:List cg->St->Nat->Prop:=fun env st k=>∃i,env=F i/\st=⟨c,G i⟩/\P i/\μ i=k
 have least:∀env st,(∃k,W env st k)->∃k,W env st k/\∀k',W env st k'->k<=k':=by
  intro env st ⟨k,hk⟩;induction k using Nat.strongRecOn with
  |_ k ih=>
   by_cases h:∃k',k'<k/\W env st k'
   .obtain⟨k',h1,h2⟩:=h;exact ih k' h1 h2
   .exact⟨k,hk,fun k' hk'=>by
     rcases hY k' k with h1|h1
     .exact absurd ⟨k',h1,hk'⟩ h
     .exact h1⟩
 open Classical in
 refine .intro ⟨_,_,h0,fun env st=>∃k,W env st k,fun env st=>if h:∃k,W env st k then Classical.choose (least env st h)else 0,⟨_,i0,rfl,rfl,hP,rfl⟩,fun env st hk=>?_⟩;obtain⟨⟨i,e1,e2,e3,e5⟩,hmin⟩:=Classical.choose_spec (least env st hk);have:=hr i e3;rw[<-e1,<-e2]at this;refine hH htr a _ _ env st ?_ this
 .intro e env' st' h;cases e with
  |normal=>
   obtain⟨j,b3,b5,g⟩:=h;have hW:W (F j) ⟨c,G j⟩ (μ j):=⟨j,rfl,rfl,b3,rfl⟩;refine⟨F j,⟨c,G j⟩,g,⟨_,hW⟩, ?_⟩;show(if h:∃k,W (F j) ⟨c,G j⟩ k then Classical.choose (least _ _ h)else 0)<(if h:∃k,W env st k then Classical.choose (least env st h)else 0);rw[dif_pos ⟨_,hW⟩,dif_pos hk,<-e5];exact Nat.lt_of_le_of_lt ((Classical.choose_spec (least _ _ ⟨_,hW⟩)).2 _ hW) b5
  |exit j=>simp only[Iz]at h⊢;split<;>rename_i hj<;>simp only[hj,aW,aX]at h<;>exact h
  |ret=>exact h
def nth:List cg->Nat->cg
 |[],_=>.un
 |a::_,0=>a
 |_::r,n+1=>nth r n
def AR:∀(l:List cg) (n:Nat),l.getD n .un=nth l n
 |[],n=>by simp[nth]
 |a::_,0=>by simp[nth]
 |_::r,n+1=>by simpa[nth]using AR r n
def cR (env rs:List cg):Src->cg
 | .s n=>nth env n
 | .l p=>bif Nat.blt p rs.length then nth rs (rs.length-1-p)else .un
 | .c d=>⟨true,d⟩
theorem nB (env rs:List cg):Src.ev env rs.reverse=cR env rs:=by
 funext s;cases s with
 |s n=>exact AR env n
 |l p=>
  simp only[Src.ev,cR];cases h:Nat.blt p rs.length with
  |true=>
   have:p<rs.length:=by simp[Nat.blt]at h;omega
   rw[cond_true,<-AR]
   grind
  |false=>
   have:¬p<rs.length:=by intro e;have:Nat.blt p rs.length=true:=by {simp[Nat.blt];omega};rw[this]at h;cases h
   grind
 |c d=>rfl
def aM (Y:Ctx)(draw:Bool)(l:List GI)(env rs:List cg)(nx:Nat)(m:List (Nat×bW))(K:List cg->St->Prop):Prop:=hZ Y draw l env rs.reverse ⟨nx,m⟩ K
def QS (env rs:List cg):List (Nat×Nat)->List cg
 |[]=>env
 |(s,p)::r=>QS (env.set s (cR [] rs (.l p))) rs r
theorem IY (rs:List cg):∀(cm:List (Nat×Nat)) (env:List cg),iS env rs.reverse cm=QS env rs cm
 |[],env=>rfl
 |(s,p)::r,env=>by
  simp only[iS,QS];rw[IY rs r,<-congrFun (nB [] rs) (.l p)];rfl
def ar {draw:Bool}{ins:List GI}{cm:List (Nat×Nat)}{b:AC}{nx:Nat}{m:List (Nat×bW)}
  (h:aM Y draw ins env [] nx m (fun vs st'=>bJ Y b Q (iS env vs cm) st')):bJ Y (.seq (.reg draw ins cm) b) Q env ⟨nx,m⟩:=.intro (.intro h)
def Zu {draw:Bool}{ins:List GI}{cm:List (Nat×Nat)}{nx:Nat}{m:List (Nat×bW)}
  (h:aM Y draw ins env [] nx m (fun vs st'=>Q .normal (iS env vs cm) st')):bJ Y (.reg draw ins cm) Q env ⟨nx,m⟩:=.intro h
def VJ {draw:Bool}{cm:List (Nat×Nat)}{b:AC}{nx nx':Nat}{m:List (Nat×bW)}{rs fD env':List cg}(h:bJ Y b Q env' ⟨nx',m⟩)
  (he:QS env rs cm=env':=by exact rfl) (hn:nx+rs.length=nx':=by exact xo):aM Y draw [] fD rs nx m (fun vs st'=>bJ Y b Q (iS env vs cm) st'):=by
 grind [aM,hZ,IY]
def VK {draw:Bool}{cm:List (Nat×Nat)}{nx nx':Nat}{m:List (Nat×bW)}{rs fD env':List cg}(h:Q .normal env' ⟨nx',m⟩)
  (he:QS env rs cm=env':=by exact rfl) (hn:nx+rs.length=nx':=by exact xo):aM Y draw [] fD rs nx m (fun vs st'=>Q .normal (iS env vs cm) st'):=by
 grind [aM,hZ,IY]
def av {c:Src}{a b r:AC}{t:Bool}(h1:t=true->bJ Y (.seq a r) Q env st)(h2:t=false->bJ Y (.seq b r) Q env st)(hc:cR env [] c=⟨true,.bool t⟩:=by exact rfl):bJ Y (.seq (.cond c a b) r) Q env st:=by
 have hc':c.ev env []=⟨true,.bool t⟩:=by rw[<-hc,<-nB];rfl
 refine .intro (.intro ?_);simp only[hc'];refine⟨trivial,fun ht=>?_,fun ht=>?_⟩
 .obtain⟨e,s,g,h⟩:=h1 ht;exact hE g h
 .obtain⟨e,s,g,h⟩:=h2 ht;exact hE g h
def wp_cond {c:Src}{a b:AC}{t:Bool}(h1:t=true->bJ Y a Q env st)(h2:t=false->bJ Y b Q env st)(hc:cR env [] c=⟨true,.bool t⟩:=by exact rfl):bJ Y (.cond c a b) Q env st:=by
 have hc':c.ev env []=⟨true,.bool t⟩:=by rw[<-hc,<-nB];rfl
 refine .intro ?_
 grind
theorem a7.to {lo c nx nx':Nat}{env env':List cg}{m m':List (Nat×bW)}(σ:List (Nat×Nat))(hc:nx'=c)(h:gI lo c σ=true)(he:dp lo σ env env')(hm:bo lo c σ m m'):a7 lo env ⟨nx,m⟩ env' ⟨nx',m'⟩:=by
 subst hc;exact .ren σ nx' env env' nx m m' h he hm
theorem aN {α β:Type}(q:α->β)(xs:List α):(xs.map q).take xs.length=xs.map q:=ed aJ
def br {α:Type}{q:α->D}(h:∀x,(q x).bI=true):∀xs:List α,bG (xs.map q)=true
 |[]=>rfl
 |a::r=>by simp only[List.map_cons,bG,h a,br h r,nb]
def a7.fz {lo:Nat}{env env' env2:List cg}{nx k:Nat}{m m':List (Nat×bW)}{es:List D}{st2:St}(l:Nat)(hl:look m l=some (.buf k es))(hn:bG es=true)(he:kS l k es env=env')(hm:lG l k es (cH m l)=m')(h:a7 lo env' ⟨nx,m'⟩ env2 st2):a7 lo env ⟨nx,m⟩ env2 st2:=by
 have:=a7.Qd (lo:=lo) l env ⟨nx,m⟩;simp only[Abs.Qd,hl,hn,cond_true,he,hm]at this;exact .trans _ _ _ _ _ _ this h
def eH {a:AC}{nx k:Nat}{m m':List (Nat×bW)}{es:List D}{env env':List cg}(l:Nat)(h:bJ Y a Q env' ⟨nx,m'⟩)(hl:look m l=some (.buf k es):=by exact rfl)(hn:bG es=true:=by first|exact rfl|exact br (fun _=>rfl) _)
  (he:kS l k es env=env':=by simp only[kS,iD,iN,lG,mU,cH,Nat.reduceEqDiff,aW,aX,cN,cr,ct,cS,cW,bQ,bN,aL,bY,aN,reduceCtorEq,aP,a8,Nat.reduceAdd,Nat.reduceLeDiff];exact rfl)
  (hm:lG l k es (cH m l)=m':=by simp only[kS,iD,iN,lG,mU,cH,Nat.reduceEqDiff,aW,aX,cN,cr,ct,cS,cW,bQ,bN,aL,bY,aN,reduceCtorEq,aP,a8,Nat.reduceAdd,Nat.reduceLeDiff];exact rfl):bJ Y a Q env ⟨nx,m⟩:=
 hE (a7.fz l hl hn he hm (.refl _ _)) h
def Wt.rf:∀e:List cg,Wt e e
 |[]=>trivial
 |_::r=>⟨⟨rfl,.refl _⟩,Wt.rf r⟩
def IB.nil:IB [] []:=⟨rfl,fun _=>.refl _⟩
def IB.cons {x y:D}{a b:List D}(h:yz x y)(h2:IB a b):IB (x::a) (y::b):=⟨by simp[h2.1],fun i=>by cases i with
 |zero=>exact h
 |succ i=>simpa using h2.2 i⟩
def IB.rf (a:List D):IB a a:=⟨rfl,fun _=>.refl _⟩
def IB.map {α:Type}{q p:α->D}:∀{xs:List α},(∀x∈xs,yz (q x) (p x))->IB (xs.map q) (xs.map p)
 |[],_=>.nil
 |x::r,h=>.cons (h x (.head _)) (IB.map fun y hy=>h y (.tail _ hy))
def yz.ag {a b:List D}(h:IB a b):yz (.agg a) (.agg b):=.agg _ _ h.1 h.2
def yz.ss {k:Nat}{a b:List D}(h:IB a b):yz (.sl k a) (.sl k b):=.sl _ _ _ h.1 h.2
def NR.nil {m:List (Nat×bW)}:NR m []:=trivial
def NR.id {m r:List (Nat×bW)}{l:Nat}{b:bW}(h:look m l=some b)(h2:NR m r):NR m ((l,b)::r):=⟨⟨b,h,by cases b<;>first|exact⟨rfl,.rf _⟩|exact rfl⟩,h2⟩
def NR.bf {m r:List (Nat×bW)}{l k:Nat}{es es':List D}(h:look m l=some (.buf k es))(hw:IB es es')(h2:NR m r):NR m ((l,.buf k es')::r):=⟨⟨_,h,rfl,hw⟩,h2⟩
def kF {a:AC}{nx:Nat}{m:List (Nat×bW)}{env:List cg}(m':List (Nat×bW))(hm:NR m m')(h:bJ Y a Q env ⟨nx,m'⟩):bJ Y a Q env ⟨nx,m⟩:=hE (.nz _ _ _ _ _ (Wt.rf _) hm) h
def dp.nil {lo:Nat}{σ:List (Nat×Nat)}:dp lo σ [] []:=trivial
def dp.un {lo:Nat}{σ:List (Nat×Nat)}{a:cg}{r s:List cg}(h:dp lo σ r s):dp lo σ (a::r) (.un::s):=⟨.inr rfl,h⟩
def dp.eq {lo:Nat}{σ:List (Nat×Nat)}{ok:Bool}{d d':D}{r s:List cg}(hd:qY lo σ d=some d')(h:dp lo σ r s):dp lo σ (⟨ok,d⟩::r) (⟨ok,d'⟩::s):=⟨.inl ⟨rfl,.inr (.inl hd)⟩,h⟩
theorem dp.nl {lo:Nat}{σ:List (Nat×Nat)}{ok:Bool}{d d':D}{r s:List cg}(hd:d'=d)(hn:d.bI=true)(h:dp lo σ r s):dp lo σ (⟨ok,d⟩::r) (⟨ok,d'⟩::s):=⟨.inl ⟨rfl,.inl ⟨hd,hn⟩⟩,h⟩
def dp.ni {lo:Nat}{σ:List (Nat×Nat)}{ok:Bool}{d d':D}{r s:List cg}(hd:uL d d')(h:dp lo σ r s):dp lo σ (⟨ok,d⟩::r) (⟨ok,d'⟩::s):=⟨.inl ⟨rfl,.inr (.inr hd)⟩,h⟩
section
variable {lo c:Nat} {σ:List (Nat×Nat)} {m r:List (Nat×bW)}
def bo.nil:bo lo c σ m []:=trivial
theorem bo.nl {k l':Nat}{es es':List D}(l:Nat)(hl:lK lo σ l=some l')(hm:look m l=some (.buf k es))(he:es'=es)(hn:bG es=true)(h:bo lo c σ m r):bo lo c σ m ((l',.buf k es')::r):=
 ⟨.inl ⟨l,_,hl,hm,rfl,.inl ⟨he,hn⟩⟩,h⟩
def bo.eq {k l':Nat}{es es':List D}(l:Nat)(hl:lK lo σ l=some l')(hm:look m l=some (.buf k es))(he:ox lo σ es=some es')(h:bo lo c σ m r):bo lo c σ m ((l',.buf k es')::r):=
 ⟨.inl ⟨l,_,hl,hm,rfl,.inr (.inl he)⟩,h⟩
def bo.ni {k l':Nat}{es es':List D}(l:Nat)(hl:lK lo σ l=some l')(hm:look m l=some (.buf k es))(he:D8 es es')(h:bo lo c σ m r):bo lo c σ m ((l',.buf k es')::r):=
 ⟨.inl ⟨l,_,hl,hm,rfl,.inr (.inr he)⟩,h⟩
def bo.fW {k l':Nat}{es':List D}(hl:lK lo σ l'=some l')(hm:look m l'=some (.buf k es'))(hn:bG es'=true)(h:bo lo c σ m r):bo lo c σ m ((l',.buf k es')::r):=.nl l' hl hm rfl hn h
def bo.FJ {k l':Nat}{es' es:List D}(hl:lK lo σ l'=some l')(hm:look m l'=some (.buf k es))(he:ox lo σ es=some es')(h:bo lo c σ m r):bo lo c σ m ((l',.buf k es')::r):=.eq l' hl hm he h
def bo.mt {k l':Nat}{es':List D}(h1:Nat.ble lo l'=true)(h2:Nat.blt l' c=true)(h3:σ.all (fun p=>!Nat.beq p.2 l')=true)(he:es'=[])(h:bo lo c σ m r):bo lo c σ m ((l',.buf k es')::r):=
 ⟨.inr ⟨h1,h2,h3,k,by rw[he]⟩,h⟩
def bo.it {l' p p':Nat}{s s':List UInt8}(l:Nat)(hl:lK lo σ l=some l')(hm:look m l=some (.iter s p))(hs:s'=s)(hp:p'=p)(h:bo lo c σ m r):bo lo c σ m ((l',.iter s' p')::r):=
 ⟨.inl ⟨l,_,hl,hm,hs,hp⟩,h⟩
def bo.idi {l' p p':Nat}{s s':List UInt8}(hl:lK lo σ l'=some l')(hm:look m l'=some (.iter s p))(hs:s'=s)(hp:p'=p)(h:bo lo c σ m r):bo lo c σ m ((l',.iter s' p')::r):=.it l' hl hm hs hp h
def bo.rw {l':Nat}{s s':List UInt8}(l:Nat)(hl:lK lo σ l=some l')(hm:look m l=some (.row s))(hs:s'=s)(h:bo lo c σ m r):bo lo c σ m ((l',.row s')::r):=
 ⟨.inl ⟨l,_,hl,hm,hs⟩,h⟩
def bo.bl {l' l1 l2 n n':Nat}{u u':Bool}(l:Nat)(hl:lK lo σ l=some l')(hm:look m l=some (.bld (some l1) n u))(h1:lK lo σ l1=some l2)(hn:n'=n)(hu:u'=u)(h:bo lo c σ m r):bo lo c σ m ((l',.bld (some l2) n' u')::r):=
 ⟨.inl ⟨l,_,hl,hm,⟨l2,h1,rfl⟩,hn,hu⟩,h⟩
def bo.b0 {l' n n':Nat}{u u':Bool}(l:Nat)(hl:lK lo σ l=some l')(hm:look m l=some (.bld none n u))(hn:n'=n)(hu:u'=u)(h:bo lo c σ m r):bo lo c σ m ((l',.bld none n' u')::r):=
 ⟨.inl ⟨l,_,hl,hm,rfl,hn,hu⟩,h⟩
end
mutual
def xC (m:List (Nat×bW)):Sh->D->D
 | .a,d=>match d with
  | .bq=>.sl 0 []
  |d=>d
 | .sl k cs,d=>match d with
  | .bq=>.sl k []
  | .own l k' i c=>.sl k' ((((bC m l).drop i).take c).map fun e=>match e with
   | .agg ds=>.agg (xL m cs ds)
   |e=>xH m cs e)
  |d=>d
 | .pt cs,d=>match d with
  | .ptr l k i o=>.ref k ((bC m l).map fun e=>match e with
   | .agg ds=>.agg (xL m cs ds)
   |e=>xH m cs e) i o
  |d=>d
def xH (m:List (Nat×bW)):List Sh->D->D
 |[],d=>d
 |s::_,d=>xC m s d
def xL (m:List (Nat×bW)):List Sh->List D->List D
 |[],ds=>ds
 |s::r,ds=>match ds with
  |[]=>[]
  |d::ds=>xC m s d::xL m r ds
end
def xV (m:List (Nat×bW))(cs:List Sh):D->D
 | .agg ds=>.agg (xL m cs ds)
 |e=>xH m cs e
mutual
def WT (m:List (Nat×bW)):Sh->D->Prop
 | .a,d=>d.bI=true
 | .sl _ cs,d=>match d with
  | .own l k' i c=>fX m l k' (i+c)/\∀e∈((bC m l).drop i).take c,(match e with
   | .agg ds=>TQ m cs ds
   |e=>WU m cs e)
  |d=>d.bI=true
 | .pt cs,d=>match d with
  | .ptr l k _ _=>fX m l k 0/\∀e∈bC m l,(match e with
   | .agg ds=>TQ m cs ds
   |e=>WU m cs e)
  |d=>d.bI=true
def WU (m:List (Nat×bW)):List Sh->D->Prop
 |[],d=>d.bI=true
 |s::_,d=>WT m s d
def TQ (m:List (Nat×bW)):List Sh->List D->Prop
 |[],ds=>bG ds=true
 |s::r,ds=>match ds with
  |[]=>True
  |d::ds=>WT m s d/\TQ m r ds
end
def TR (m:List (Nat×bW))(cs:List Sh):D->Prop
 | .agg ds=>TQ m cs ds
 |e=>WU m cs e
mutual
theorem TP (m:List (Nat×bW)):∀(s:Sh) (d:D),pR m s d=xC m s d/\(mN m s d↔WT m s d)
 | .a,d=>by cases d<;>simp only[pR,xC,mN,WT]<;>exact⟨trivial,trivial⟩
 | .sl k cs,d=>by
  cases d<;>simp only[pR,xC,mN,WT]<;>first
   |exact⟨trivial,trivial⟩
   |skip
  rename_i l k' i c;exact⟨aj (D.sl k') (List.map_congr_left fun e _=>(Ij m cs e).1),and_congr_right fun _=>forall_congr' fun e=>imp_congr_right fun _=>(Ij m cs e).2⟩
 | .pt cs,d=>by
  cases d<;>simp only[pR,xC,mN,WT]<;>first
   |exact⟨trivial,trivial⟩
   |skip
  rename_i l k' i c;exact⟨aj (fun x=>D.ref k' x i c) (List.map_congr_left fun e _=>(Ij m cs e).1),and_congr_right fun _=>forall_congr' fun e=>imp_congr_right fun _=>(Ij m cs e).2⟩
theorem Ij (m:List (Nat×bW)):∀(cs:List Sh) (d:D),kH m cs d=(match d with
   | .agg ds=>.agg (xL m cs ds)
   |e=>xH m cs e)/\(jo m cs d↔(match d with
   | .agg ds=>TQ m cs ds
   |e=>WU m cs e))
 |[],d=>by cases d<;>simp only[kH,xH,xL,jo,WU,TQ,D.bI]<;>first|exact⟨trivial,Iff.rfl⟩|exact⟨trivial,trivial⟩
 |s::r,d=>by
  cases d<;>simp only[kH,xH,jo,WU]<;>first
   |exact TP m s _
   |skip
  rename_i ds;exact⟨aj D.agg (L8 m (s::r) ds).1,(L8 m (s::r) ds).2⟩
theorem L8 (m:List (Nat×bW)):∀(cs:List Sh) (ds:List D),pS m cs ds=xL m cs ds/\(nu m cs ds↔TQ m cs ds)
 |[],ds=>by simp only[pS,xL,nu,TQ];exact⟨trivial,trivial⟩
 |s::r,[]=>by simp only[pS,xL,nu,TQ];exact⟨trivial,trivial⟩
 |s::r,d::ds=>by
  simp only[pS,xL,nu,TQ,(TP m s d).1,(L8 m r ds).1];exact⟨trivial,and_congr (TP m s d).2 (L8 m r ds).2⟩
end
theorem D4 (m:List (Nat×bW))(cs:List Sh)(d:D):kH m cs d=xV m cs d/\(jo m cs d↔TR m cs d):=by
 have:=Ij m cs d;cases d<;>exact this
def ot (m:List (Nat×bW)):List (List Sh)->List D->List D
 |_,[]=>[]
 |[],d::r=>xV m [.a] d::ot m [] r
 |s::ss,d::r=>xV m s d::ot m ss r
def kY (m:List (Nat×bW)):List (List Sh)->List D->Prop
 |_,[]=>True
 |[],d::r=>TR m [.a] d/\kY m [] r
 |s::ss,d::r=>TR m s d/\kY m ss r
theorem eA (m:List (Nat×bW)):∀(ss:List (List Sh)) (ds:List D),je m ss ds=ot m ss ds/\(kr m ss ds↔kY m ss ds)
 |ss,[]=>by simp[je,ot,kr,kY]
 |[],d::r=>by
  simp only[je,ot,kr,kY,(D4 m [.a] d).1,(eA m [] r).1];exact⟨trivial,and_congr (D4 m _ d).2 (eA m [] r).2⟩
 |s::ss,d::r=>by
  simp only[je,ot,kr,kY,(D4 m s d).1,(eA m ss r).1];exact⟨trivial,and_congr (D4 m _ d).2 (eA m ss r).2⟩
def X7 (a:aC)(d:D):Ex->List cg->St->Prop:=fun e env st=>e.home/\qW st.m env a.res/\LN a env st/\VN a env st=d
def Qb (a:aC)(env:List cg)(m:List (Nat×bW)):D:=match a.res with
 |[r]=>xV m (a.rsh.getD 0 []) (HJ m env r)
 |rs=>.tup (ot m a.rsh (qX m env rs))
def D5 (a:aC)(env:List cg)(m:List (Nat×bW)):Prop:=match a.res with
 |[r]=>TR m (a.rsh.getD 0 []) (HJ m env r)
 |rs=>kY m a.rsh (qX m env rs)
def Zg {a:aC}{d:D}{e:Ex}{nx:Nat}{m:List (Nat×bW)}(he:e.home)(h1:qW m env a.res)(h2:D5 a env m)(h3:Qb a env m=d):X7 a d e env ⟨nx,m⟩:=by
 refine⟨he,h1, ?_, ?_⟩
 .unfold LN;unfold D5 at h2;split<;>rename_i hr
  .rw[hr]at h2;exact(D4 _ _ _).2.2 h2
  .split at h2
   .rename_i hr2;exact absurd hr2 (hr _)
   .exact(eA _ _ _).2.2 h2
 grind [VN,Qb,D4,eA]
def NQ (a:aC)(k:Nat)(vd sd:D):Ex->List cg->St->Prop:=fun e env st=>e.home/\qW st.m env a.res/\(me a env st).bI=true/\me a env st=vd/\look st.m 0=some (.buf k [sd])/\sd.bI=true
def iA {a:aC}{k:Nat}{vd sd:D}{e:Ex}{nx:Nat}{m:List (Nat×bW)}(he:e.home)(h1:qW m env a.res)(h2:me a env ⟨nx,m⟩=vd)(h3:look m 0=some (.buf k [sd]))(hn:vd.bI=true)(hs:sd.bI=true):NQ a k vd sd e env ⟨nx,m⟩:=⟨he,h1,by rw[h2];exact hn,h2,h3,hs⟩
end
end
end Go.Abs
