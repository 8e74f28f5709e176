/- A part of the proofs. -/
import Derived.Deep.DeepAppendWide
import Derived.Lib.SliceRun
import Derived.Orders
import Derived.WalkSpells
import Derived.Test.YtfeebkgpalkobaaGreatDoorP02
set_option linter.all false
set_option maxRecDepth 60000
set_option maxHeartbeats 2000000
namespace Go.Abs
section
variable [di]
section
variable {x:X} {f:Nat->Option bL} {C:CC} {defs:List (Option Nat)} {J:Src->bI} {ev:Operand->Value} {Y:Ctx} {m:List (Nat×bL)} {L:Nat}
def flat_get (n k:Nat)(g:Nat->Nat->Value)(i j:Nat)(hi:i<n)(hj:j<k):((List.range (n*k)).map fun q=>g (q/k) (q%k)).getD (i*k+j) undef=g i j:=by
 have hlt:=iA hi hj;have h1:(i*k+j) /k=i:=by rw[Nat.mul_comm,Nat.mul_add_div ah,Nat.div_eq_of_lt hj];omega
 have h2:(i*k+j)%k=j:=by rw[Nat.mul_comm,Nat.mul_add_mod];exact Nat.mod_eq_of_lt hj
 simp[List.getD,hlt,h1,h2]
def VF {u:TypeId}{k:Nat}(hk0:k≠0)(hkind:(∃e',C.P.underlying u=some (.slice e'))\/C.P.underlying u=some .string){v:Value}{d:D}(hv:RD C.ν x v d)(hd:wP m k d)(hs:eK C.ν x f)(hag:∀l,l∈dk d->f l=look m l):
  ∃news,Go.Src C.P k u v (nO m d).length news x.w/\∀i,i<(nO m d).length->((nO m d).getD i .any).cells.length=k/\∀j,j<k->
   RD C.ν x (news.getD (i*k+j) undef) (((nO m d).getD i .any).cells.getD j .any):=by
 have nothing:∀(a:Option Addr) (c:Nat),Go.Src C.P k u (.slice a 0 c) 0 [] x.w:=by
  intro a c;have hf:∀w':World,(Builtin.firstCells k 0 (.slice a 0 c)).run C.P w'=.ok #[] w':=by
   intro w';cases a<;>simp[Builtin.firstCells,loadCells,loadCellsFrom]
  exact⟨hkind,fun _=>rfl,hf _,hf _,bg,fun _ h=>by cases h⟩
 have some_:∀(b off n cap:Nat) (g:Nat->Nat->Value),(∀i j,i<n->j<k->x.w.cell? ⟨b,off+i*k+j,none⟩=some (g i j)/\(g i j).oneCell'=true)->
   Go.Src C.P k u (.slice (some ⟨b,off,none⟩) n cap) n ((List.range (n*k)).map fun q=>g (q/k) (q%k)) x.w:=by
  intro b off n cap g hg;have hqd:∀q,q<n*k->q/k<n/\q%k<k/\q/k*k+q%k=q:=fun q hq=>
   ⟨Nat.div_lt_of_lt_mul (by rw[Nat.mul_comm];exact hq),Nat.mod_lt _ ah,by rw[Nat.mul_comm];exact Nat.div_add_mod q k⟩
  have hcell:∀j u',((List.range (n*k)).map fun q=>g (q/k) (q%k))[j]? =some u'->x.w.cell? ((⟨b,off,none⟩:Addr).add j)=some u':=by
   intro j u' hj;obtain⟨hj2,rfl⟩:=List.getElem?_eq_some_iff.1 hj;simp at hj2;obtain⟨h1,h2,h3⟩:=hqd j hj2;rw[Addr.uC];simp only[List.getElem_map,List.getElem_range];rw[<-(hg _ _ h1 h2).1];congr 2;omega
  refine⟨hkind,fun _=>rfl,run_firstCells_some x.w k n _ n cap _ bg hcell,run_firstCells_some x.w.drew k n _ n cap _ bg (by simpa using hcell),bg,fun u' hu'=>?_⟩;obtain⟨q,hq,rfl⟩:=fF.1 hu';obtain⟨h1,h2,_⟩:=hqd q (by simpa using hq);exact(hg _ _ h1 h2).2
 cases d<;>simp only[wP]at hd
 ·
  rename_i s;obtain⟨rfl,h2⟩:=hv.ic;subst hd;have hsz:(⟨⟨s⟩⟩:ByteArray).size=s.length:=rfl;refine⟨byteCells ⟨⟨s⟩⟩, ?_,fun i hi=>?_⟩
  .have:(nO m (.str s)).length=(⟨⟨s⟩⟩:ByteArray).size:=by simp[nO,hsz]
   rw[this];exact⟨hkind,fun _=>rfl,firstCells_string _ _,firstCells_string _ _,by rw[byteCells_length,Nat.mul_one],fun u' hu'=>by
    obtain⟨_,_,rfl⟩:=fF.1 hu';rfl⟩
  .have hi':i<s.length:=by simpa[nO]using hi
   have e:(nO m (.str s)).getD i .any=.int .u8 (s.getD i 0).toNat:=by simp[nO,List.getD,hi']
   rw[e];refine⟨rfl,fun j hj=>?_⟩;obtain rfl:j=0:=ah;have e2:(byteCells ⟨⟨s⟩⟩).getD (i*1+0) undef=.int .u8 (s.getD i 0).toNat:=by simp[byteCells,List.getD,hi']
   rw[e2];exact .int _ _
 .cases hv;exact⟨[],nothing none 0,fun i hi=>by simp[nO]at hi⟩
 .rename_i k' es;subst hd;cases hv with
  |sl a b off len cap _ _ c hlen ha hcap hm hk hn hcc hone hh=>
   subst hlen;rcases ha with rfl|⟨rfl,hI⟩
   .exact⟨[],by simpa[nO]using nothing a cap,fun i hi=>by simp[nO]at hi⟩
   .refine⟨_,some_ b off es.length cap c (fun i j hi hj=>⟨hcc i j hi hj,hone i j hi hj⟩),fun i hi=>⟨hk i hi,fun j hj=>?_⟩⟩;rw[flat_get es.length k' c i j hi hj];exact hh i j hi hj
 .rename_i l k' i0 n;obtain⟨rfl,hb⟩:=hd;cases hv with
  |own0 _ _ _ a=>exact⟨[],by simpa[nO]using nothing a 0,fun i hi=>by simp[nO]at hi⟩
  |own _ _ _ _ b base tot cap aa hβ ha hcap hm ht=>
   obtain⟨g1,g2,g3⟩:=qD hs (hag l (by simp[dk])) hb;obtain⟨hnI,hk0',ht',c,T,fr,q1,q2,q3,q4⟩:=hs.own l _ b base tot g1 hβ;have hlen:(nO m (.own l k' i0 n)).length=n:=by simp only[nO];exact gr _ _ _ g2
   rw[hlen];by_cases hn0:n=0
   .subst hn0;exact⟨[],nothing _ _,fun i hi=>ah⟩
   .have ha':=ha ah;subst ha';have hg:∀i,i<n->(nO m (.own l k' i0 n)).getD i .any=(bh m l).getD (i0+i) .any:=fun i hi=>by simp only[nO];exact ef _ _ _ _ _ hi
    refine⟨_,some_ b (base+i0*k') n cap (fun i j=>c.getD (base+(i0+i)*k'+j) undef) (fun i j hi hj=>?_),fun i hi=>?_⟩
    .have h1:=iA (tot:=tot) (show i0+i<tot by omega) hj;refine⟨?_,((q4 (i0+i) ah).2 j hj).1⟩;rw[<-cell_of_heap q1 (by omega:base+(i0+i)*k'+j<c.size)];congr 2;rw[Nat.add_mul];omega
    .rw[hg i hi];refine⟨(q4 (i0+i) ah).1,fun j hj=>?_⟩;rw[flat_get n k' (fun i j=>c.getD (base+(i0+i)*k'+j) undef) i j hi hj];exact((q4 (i0+i) ah).2 j hj).2
theorem cY {α:Type}(a b:List α)(i:Nat)(d:α):(a++b).getD i d=if i<a.length then a.getD i d else b.getD (i-a.length) d:=by
 grind
def JX {k n mm cap:Nat}{T:TypeId}{olds news:List Value}{zs:Array Value}{es1 es2:List D}(x':X)(b:Nat)(hk0:k≠0)
  (hlo:olds.length=n*k) (hln:news.length=mm*k) (h1:es1.length=n) (h2:es2.length=mm) (hcap:n+mm<=cap) (hzs:zs.size=(cap-(n+mm))*k)
  (hx:x'.w.heap[b]? =some (.cells ((olds++news).toArray++zs) T (0,0)))
  (ho:∀i,i<n->(es1.getD i .any).cells.length=k/\∀j,j<k->(olds.getD (i*k+j) undef).oneCell'=true/\RD C.ν x' (olds.getD (i*k+j) undef) ((es1.getD i .any).cells.getD j .any))
  (hn:∀i,i<mm->(es2.getD i .any).cells.length=k/\∀j,j<k->(news.getD (i*k+j) undef).oneCell'=true/\RD C.ν x' (news.getD (i*k+j) undef) ((es2.getD i .any).cells.getD j .any)):
  mG C.ν x' b 0 cap (.buf k (es1++es2)):=by
 have hsz:((olds++news).toArray++zs).size=cap*k:=by
  simp only[Array.size_append,List.size_toArray,bS,hlo,hln,hzs,<-Nat.add_mul];congr 1;omega
 refine rE (w':=x'.w) (L:=0) x' hx ah dH ah (fun o _=>bg) (fun i hi=>?_);simp only[bS,h1,h2]at hi;have hge:∀j,j<k->(((olds++news).toArray++zs).getD (i*k+j) undef)=(olds++news).getD (i*k+j) undef:=by
  intro j hj;have:=iA hi hj;rw[Nat.add_mul]at this;rw[<-cB];simp only[Array.toList_append];rw[cY,ay dH]
 rw[cY];by_cases h:i<n
 .grind [cY,iA]
 .rw[aj ah,h1];refine⟨(hn (i-n) ah).1,fun j hj=>?_⟩;have hnk:n*k<=i*k:=fg _ ah;rw[hge j hj,cY,aj ah,show i*k+j-olds.length=(i-n)*k+j by rw[hlo,Nat.sub_mul];omega];exact(hn (i-n) ah).2 j hj
def M7 {news:List Value}(h:∀u∈news,u.oneCell'=true)(q:Nat)(hq:q<news.length):(news.getD q undef).oneCell'=true:=by
 grind
def eK.less {f f':Nat->Option bL}{ν:List (Nat×Nat)}(h:eK ν x f)(hf:∀l,f' l=f l\/f' l=none\/x.β l=none):eK ν x f':=by
 refine⟨fun l blk b base tot e1 e2=>?_,fun l1 l2 b base tot base' tot' e1 e2 e3 e4=>?_,h.imm,h.ek,h.gd⟩
 .rcases hf l with e|e|e
  .exact h.own l blk b base tot (e▸e1) e2
  .rw[e]at e1;cases e1
  .rw[e]at e2;cases e2
 .refine h.inj l1 l2 b base tot base' tot' ?_ ?_ e3 e4
  .grind
  grind
def Cu {f':Nat->Option bL}{t u ty e:TypeId}{ti:TypeInfo}{z:Value}{k:Nat}{base:Option Addr}{sLen sCap mm:Nat}{olds news:List Value}{xv:Value}{es1 E:List D}
  (hs:eK C.ν x f) (hL:x.β L=none) (ht:C.P.underlying t=some (.slice e)) (hi:C.P.info? e=some ti) (hz:ti.zero=some z) (hzd:z.cells.size=ti.size) (hk:ti.size=k) (hk0:k≠0) (hby:ti.bytes<=65536)
  (hold:(Builtin.firstCells k sLen (.slice base sLen sCap)).run C.P x.w.drew=.ok olds.toArray x.w.drew) (hol:olds.length=sLen*k) (h1:es1.length=sLen) (h2:E.length=mm)
  (ho:∀i,i<sLen->(es1.getD i .any).cells.length=k/\∀j,j<k->(olds.getD (i*k+j) undef).oneCell'=true/\RD C.ν x (olds.getD (i*k+j) undef) ((es1.getD i .any).cells.getD j .any))
  (hsrc:Go.Src C.P k u xv mm news x.w) (hn:∀i,i<mm->(E.getD i .any).cells.length=k/\∀j,j<k->RD C.ν x (news.getD (i*k+j) undef) ((E.getD i .any).cells.getD j .any))
  (hg:sCap<sLen+mm) (hle:sLen+mm<=1073741824) (hf:∀l,l≠L->f' l=f l\/f' l=none) (hfL:f' L=some (.buf k (es1++E)))
  {r:Result Next} (hr:r=((Builtin.append_ #[t,u] ty #[.slice base sLen sCap,xv]).run C.P x.w).andThen fun v w'=>.ok (.value v) w'):
  uB C.ν x f' L (.own L k 0 (sLen+mm)) r:=by
 subst hk;have hfit:=growslice_fits_wide (need:=sLen+mm) (old:=sCap) (bytes:=ti.bytes) hg (by
  have:(sLen+mm+(sLen+mm) /4+192)*ti.bytes<=(sLen+mm+(sLen+mm) /4+192)*65536:=Nat.mul_le_mul_left _ hby;omega)
 have hrun:=run_append_grow_src x.w t u ty e ti z ht hi hz base sLen sCap olds hold xv mm news hsrc hg ah hfit;have hcge:=grownCap_ge x.w (sLen+mm) sCap e;have hcle:=grownCap_le_maxLen x.w (sLen+mm) sCap e (by simp only[maxLen];omega);generalize grownCap x.w (sLen+mm) sCap e=cap at hrun hcge hcle;have hgrow:fU x.w (x.w.drew.alloc (.cells ((olds++news).toArray++Builtin.zeroCells z.cells (cap-(sLen+mm))) e)):=by
  refine⟨rfl,rfl,rfl, ?_,fun b hb=>?_⟩
  .have:=(fU.alloc x.w.drew (.cells ((olds++news).toArray++Builtin.zeroCells z.cells (cap-(sLen+mm))) e)).size;exact this
  .exact kd x.w.drew _ b hb
 have hlex:=Bh (tot:=cap) hs hgrow hL;have hs':eK C.ν x (fun l=>if f' l=none then none else f l):=hs.less (fun l=>by
  by_cases h:f' l=none
  .right;left;simp[h]
  .left;simp[h])
 refine mi (f:=fun l=>if f' l=none then none else f l) (v:=.slice (some ⟨x.w.heap.size,0,none⟩) (sLen+mm) cap) (tot:=cap) (blk:=.buf ti.size (es1++E)) hs' hL hgrow ?_ ?_ ?_ ?_ (fun l=>?_)
 .show x.w.heap.size<(x.w.drew.heap.push _).size;rw[Array.size_push];exact Nat.lt_succ_self _
 .exact JX (n:=sLen) (mm:=mm) (olds:=olds) (news:=news) (T:=e) (zs:=Builtin.zeroCells z.cells (cap-(sLen+mm))) _ _ hk0 hol hsrc.newsLen h1 h2 hcge
   (by rw[size_zeroCells,hzd]) (ea x.w.drew _)
   (fun i hi=>⟨(ho i hi).1,fun j hj=>⟨((ho i hi).2 j hj).1,((ho i hi).2 j hj).2.mono hlex⟩⟩)
   (fun i hi=>⟨(hn i hi).1,fun j hj=>⟨M7 hsrc.one _ (by rw[hsrc.newsLen];exact iA hi hj),((hn i hi).2 j hj).mono hlex⟩⟩)
 .exact .own L _ 0 (sLen+mm) x.w.heap.size 0 cap cap ⟨x.w.heap.size,0,none⟩ (by simp[eu]) (fun _=>bg) hcge hcle ah
 .rw[hr,hrun];rfl
 .by_cases e:l=L
  .subst e;simp[iM,hfL]
  .simp only[iM,e,aS];rcases hf l e with h|h
   .by_cases h':f' l=none
    .rw[ay h'];exact h'
    .rw[aj h'];exact h
   .rw[ay h];exact h
def tO {t u ty e:TypeId}{k:Nat}{ti:TypeInfo}{a:Addr}{sLen sCap:Nat}{xv:Value}(ht:C.P.underlying t=some (.slice e))(hi:C.P.info? e=some ti)(hk:ti.size=k)(hsrc:Go.Src C.P k u xv 0 [] x.w)(hc:sLen<=sCap):
  (Builtin.append_ #[t,u] ty #[.slice (some a) sLen sCap,xv]).run C.P x.w=.ok (.slice (some a) sLen sCap) x.w:=by
 subst hk;rcases hsrc.kind with⟨e',hk⟩|hk<;>simp[Builtin.append_,run_underlying ht,run_underlying hk,sizeOf,typeInfo,hi,hsrc.len,hc,hsrc.cells,storeCells]
def AM {t u ty e:TypeId}{k:Nat}{ti:TypeInfo}{xv:Value}(ht:C.P.underlying t=some (.slice e))(hi:C.P.info? e=some ti)(hk:ti.size=k)(hsrc:Go.Src C.P k u xv 0 [] x.w):
  (Builtin.append_ #[t,u] ty #[.slice none 0 0,xv]).run C.P x.w=.ok (.slice none 0 0) x.w:=by
 subst hk;rcases hsrc.kind with⟨e',hk⟩|hk<;>simp[Builtin.append_,run_underlying ht,run_underlying hk,sizeOf,typeInfo,hi,hsrc.len,hsrc.cells,storeCells]
def UL {o:Oper}{i:aG}{p q:Operand}{t u:TypeId}(hc:C.op defs o=some i)(ho:o.op=.call {callee:=.builtin .append,args:=#[p,q],argTypes:=#[t,u]})(hρ:pM C defs J ev x o.op.operands.toList)(hob:i.dE Y J m)(hs:eK C.ν x f)(hag:yQ f m (i.kY J))(hL:x.β L=none):
  uB C.ν x (ij f (i.wr J L) (i.cr Y J m L)) L (i.val Y J m L) ((execOp ev o).run C.P x.w):=by
 have hcc:∃a b e,C.src defs p=some a/\C.src defs q=some b/\C.P.underlying t=some (.slice e)/\((∃e',C.P.underlying u=some (.slice e'))\/C.P.underlying u=some .string)/\
   ¬(C.P.cellsOf e=0\/C.P.bytesOf e>65536\/C.P.bytesOf e=0\/nB C.P e=false)/\i=.app (C.P.cellsOf e) a b:=by
  simp only[CC.op,ho]at hc;split at hc
  .rename_i a b e e' h1 h2 h3 h4;split at hc
   .cases hc
   .rename_i hn;simp only[aP]at hc;exact⟨a,b,e,h1,h2,h3,.inl ⟨_,h4⟩,hn,hc.symm⟩
  .rename_i a b e h1 h2 h3 h4;split at hc
   .cases hc
   .rename_i hn;simp only[aP]at hc;exact⟨a,b,e,h1,h2,h3,.inr h4,hn,hc.symm⟩
  .cases hc
 obtain⟨a,b,e,h1,h2,hu,hu2,hn,rfl⟩:=hcc;have hce:C.P.cellsOf e≠0:=fun h=>hn (.inl h)
 obtain⟨ti,hti,htis⟩:=mK hce;have hby:ti.bytes<=65536:=by
  have:¬C.P.bytesOf e>65536:=fun h=>hn (.inr (.inl h))
  simp[Program.bytesOf,hti]at this;omega
 obtain⟨z,hz,hzl⟩:∃z,nA C.P e=some z/\z.cells.length=C.P.cellsOf e:=by
  have hzf:nB C.P e=true:=by
   cases h:nB C.P e
   .exact absurd (.inr (.inr (.inr h))) hn
   .rfl
  unfold nB at hzf;split at hzf
  .rename_i z hz;exact⟨z,hz,by simpa using hzf⟩
  .cases hzf
 obtain⟨ti',z',hti',hzv,hzr⟩:=j5 (x:=x) hz;obtain rfl:ti'=ti:=by rw[hti]at hti';exact(bd hti').symm
 obtain⟨k1,k2,k3,k4⟩:=hob;have hv:=hρ p (by simp[ho,Op.operands,Call.operands]) a h1 k1;have hw:=hρ q (by simp[ho,Op.operands,Call.operands]) b h2 k2;have hag2:∀l,l∈dk (J b).d->f l=look m l:=fun l hl=>hag l (by simp;exact .inr hl)
 have hag1:∀l,l∈dk (J a).d->f l=look m l:=fun l hl=>hag l (by simp;exact .inl hl)
 obtain⟨news,hsrc,hnews⟩:=VF (u:=u) hce (hu2.imp (fun⟨e',h⟩=>⟨e',h⟩) id) hw k3 hs hag2;have hsz:z'.cells.size=ti'.size:=by have:=(hzr.cells ah).1;omega
 have hr:(execOp ev o).run C.P x.w=((Builtin.append_ #[t,u] o.type #[ev p,ev q]).run C.P x.w).andThen fun v w'=>.ok (.value v) w':=by
  simp[execOp,ho,resolve,invoke,builtin]
 generalize hels:nO m (J b).d=E at*
 generalize hep:ev p=vp at*

 have nobase:∀(a0:Option Addr) (f':Nat->Option bL),vp=.slice a0 0 0->E.length<=1073741824->(∀l,l≠L->f' l=f l\/f' l=none)->f' L=some (.buf (C.P.cellsOf e) E)->
   uB C.ν x f' L (.own L (C.P.cellsOf e) 0 E.length) ((execOp ev o).run C.P x.w):=by
  intro a0 f' hvp hle hf hfL;subst hvp;by_cases hm0:E.length=0
  .have hn0:news=[]:=jM (by rw[hsrc.newsLen,hm0];simp);rw[hm0]at hsrc⊢;subst hn0;have hap:(Builtin.append_ #[t,u] o.type #[.slice a0 0 0,ev q]).run C.P x.w=.ok (.slice a0 0 0) x.w:=by
    cases a0 with
    |none=>exact AM hu hti htis hsrc
    |some a=>exact tO hu hti htis hsrc (aM _)
   rw[hr,hap];refine⟨.slice a0 0 0,x,.inl rfl,.refl x,.own0 L _ 0 a0,hs.less fun l=>?_,fun _ _=>rfl⟩;by_cases e:l=L
   .subst e;exact .inr (.inr hL)
   .rcases hf l e with h|h
    .exact .inl h
    .exact .inr (.inl h)
  .have:=Cu (f':=f') (base:=a0) (sLen:=0) (sCap:=0) (olds:=[]) (es1:=[]) (E:=E) (mm:=E.length) hs hL hu hti hzv hsz htis hce hby
    (by cases a0<;>simp[Builtin.firstCells,loadCells,loadCellsFrom]) bg rfl rfl (fun i hi=>ah) hsrc hnews ah ah hf (by simpa using hfL) hr
   simpa using this
 cases hd:(J a).d<;>simp only[hd]at k4
 ·
  have he:(aG.app (C.P.cellsOf e) a b).cr Y J m L=cR m L (.buf (C.P.cellsOf e) E):=by simp[aG.cr,hd,hels]
  have hva:(aG.app (C.P.cellsOf e) a b).val Y J m L=.own L (C.P.cellsOf e) 0 E.length:=by simp[aG.val,hd,hels]
  have hwr:(aG.app (C.P.cellsOf e) a b).wr J L=[L]:=by simp[aG.wr,hd,dk]
  rw[he,hva,hwr];rw[hd]at hv;cases hv;exact nobase _ _ rfl k4 (fun l hl=>.inl (by simp[ij,hl])) (by simp[ij,cE])
 .rename_i l k' i n;obtain⟨rfl,hbk,hle⟩:=k4;rw[hd]at hv;have he:(aG.app (C.P.cellsOf e) a b).cr Y J m L=cR (cA m l) L (.buf (C.P.cellsOf e) ((((bh m l).drop i).take n)++E)):=by simp[aG.cr,hd,hels]
  have hva:(aG.app (C.P.cellsOf e) a b).val Y J m L=.own L (C.P.cellsOf e) 0 (n+E.length):=by simp[aG.val,hd,hels]
  have hwr:(aG.app (C.P.cellsOf e) a b).wr J L=[L,l]:=by simp[aG.wr,hd,dk]
  rw[he,hva,hwr];have hff:∀l',l'≠L->ij f [L,l] (cR (cA m l) L (.buf (C.P.cellsOf e) ((((bh m l).drop i).take n)++E))) l'=if l'=l then none else f l':=by
   intro l' hl';by_cases e1:l'=l
   .subst e1;simp[ij,cE,fo,hl']
   .simp[ij,hl',e1]
  have hffL:ij f [L,l] (cR (cA m l) L (.buf (C.P.cellsOf e) ((((bh m l).drop i).take n)++E))) L=some (.buf (C.P.cellsOf e) ((((bh m l).drop i).take n)++E)):=by simp[ij,cE]
  have hff':∀l',l'≠L->ij f [L,l] (cR (cA m l) L (.buf (C.P.cellsOf e) ((((bh m l).drop i).take n)++E))) l'=f l'\/ij f [L,l] (cR (cA m l) L (.buf (C.P.cellsOf e) ((((bh m l).drop i).take n)++E))) l'=none:=by
   intro l' hl';rw[hff l' hl'];by_cases e1:l'=l
   .rw[ay e1];exact .inr rfl
   .rw[aj e1];exact .inl rfl
  cases hv with
  |own0=>
   have:=nobase _ (ij f [L,l] (cR (cA m l) L (.buf (C.P.cellsOf e) ((((bh m l).drop i).take 0)++E)))) rfl ah hff' (by simpa using hffL);simpa using this
  |own _ _ _ _ bk base tot cap ad hβ ha hcap hm ht=>
   obtain⟨g1,g2,g3⟩:=qD hs (hag1 l (by simp[hd,dk])) hbk;obtain⟨hnI,hk0',ht',c,T,fr,q1,q2,q3,q4⟩:=hs.own l _ bk base tot g1 hβ;have hlen1:(((bh m l).drop i).take n).length=n:=gr _ _ _ g2;have hgt:∀j,j<n->(((bh m l).drop i).take n).getD j .any=(bh m l).getD (i+j) .any:=fun j hj=>ef _ _ _ _ _ hj
   by_cases hroom:n+E.length<=cap
   ·
    have hcsz:base+i*C.P.cellsOf e+cap*C.P.cellsOf e<=c.size:=by
     have:i*C.P.cellsOf e+cap*C.P.cellsOf e<=tot*C.P.cellsOf e:=by rw[<-Nat.add_mul];exact fg _ ah
     omega
    have hnc:n*C.P.cellsOf e+news.length<=cap*C.P.cellsOf e:=by rw[hsrc.newsLen,<-Nat.add_mul];exact fg _ hroom
    have hrun:(Builtin.append_ #[t,u] o.type #[.slice (some ad) n cap,ev q]).run C.P x.w=.ok (.slice (some ad) (n+E.length) cap) (x.w.setCells bk (base+i*C.P.cellsOf e+n*C.P.cellsOf e) news):=by
     by_cases hc0:cap=0
     .have hm0:E.length=0:=ah;have hn0:news=[]:=jM (by rw[hsrc.newsLen,hm0];simp);subst hn0;rw[hm0]at hsrc⊢;rw[tO hu hti htis hsrc hcap];rfl
     .have ha':=ha ah;subst ha';have:=run_append_room_src x.w t u o.type e ti' hu hti bk (base+i*C.P.cellsOf e) n cap (ev q) E.length news (by rw[htis];exact hsrc) hroom
       (fun j hj=>by rw[htis,cell_of_heap q1 ah];rfl)
       (fun j hj=>by
         rw[htis];have:=q3 (base+i*C.P.cellsOf e+n*C.P.cellsOf e+j) ah;simp only[World.frozen?,q1];simp only[ey,dn];omega)
      rw[htis]at this;exact this
    obtain⟨c',s1,s2,s3⟩:=kf bk news (base+i*C.P.cellsOf e+n*C.P.cellsOf e) x.w c T fr q1 ah;obtain⟨f1,f2,f3,f4⟩:=jH bk news (base+i*C.P.cellsOf e+n*C.P.cellsOf e) x.w;generalize hw':x.w.setCells bk (base+i*C.P.cellsOf e+n*C.P.cellsOf e) news=w' at*
    have hother:∀b',b'≠bk->w'.heap[b']? =x.w.heap[b']? :=fun b' hb'=>by rw[<-hw'];exact jI bk _ _ _ b' hb'
    have hlL:l≠L:=fun e1=>by subst e1;rw[hβ]at hL;cases hL
    have hstep:Step x ⟨w',x.I,eu x.β L (bk,base+i*C.P.cellsOf e,cap)⟩:=by
     refine⟨f1,f2,f3,by show _<=w'.heap.size;rw[f4];exact aM _,fun _ h=>h,fun b' hb'=>hother b' (fun e1=>hnI (e1▸hb')),fun l' p' hp=>?_,
      fun b' _ hn'=>hother b' (fun e1=>hn' l _ hβ e1.symm),fun _ h=>.inl h,fun l' p' hp=>?_⟩
     .have:l'≠L:=fun e1=>by rw[e1,hL]at hp;cases hp
      simp[eu,this,hp]
     .by_cases e1:l'=L
      .simp only[eu,e1,aY,aP]at hp;exact .inr (.inr ⟨l,_,hβ,by rw[<-hp]⟩)
      .simp only[eu,e1,aS]at hp;exact .inl hp
    have hle2:=hstep.le;rw[hr,hrun];refine⟨_,⟨w',x.I,eu x.β L (bk,base+i*C.P.cellsOf e,cap)⟩,.inl rfl,hstep,
     .own L _ 0 _ bk (base+i*C.P.cellsOf e) cap cap ad (by simp[eu]) (fun h=>by rw[ha h];simp) hroom hm ah, ?_,fun l' hl'=>by simp[eu,hl']⟩
    have hblk:mG C.ν ⟨w',x.I,eu x.β L (bk,base+i*C.P.cellsOf e,cap)⟩ bk (base+i*C.P.cellsOf e) cap (.buf (C.P.cellsOf e) ((((bh m l).drop i).take n)++E)):=by
     refine⟨hk0',by rw[bS,hlen1];exact hroom,c',T,fr,s1,ah,fun o'' ho''=>q3 o'' ah,fun i' hi'=>?_⟩;rw[bS,hlen1]at hi';rw[cY,hlen1];by_cases hi2:i'<n
     .rw[ay hi2,hgt i' hi2];refine⟨(q4 (i+i') ah).1,fun j hj=>?_⟩;have hlt:=iA hi2 hj;rw[s3,aj ah];have:=(q4 (i+i') ah).2 j hj;rw[show base+(i+i')*C.P.cellsOf e+j=base+i*C.P.cellsOf e+i'*C.P.cellsOf e+j by rw[Nat.add_mul];omega]at this;exact⟨this.1,this.2.mono hle2⟩
     .rw[aj hi2];obtain⟨a1,a2⟩:=hnews (i'-n) ah;refine⟨a1,fun j hj=>?_⟩;have hnk:n*C.P.cellsOf e<=i'*C.P.cellsOf e:=fg _ ah;have hlt:=iA (show i'-n<E.length by omega) hj;rw[<-hsrc.newsLen,Nat.sub_mul]at hlt;rw[s3,ay ah,show base+i*C.P.cellsOf e+i'*C.P.cellsOf e+j-(base+i*C.P.cellsOf e+n*C.P.cellsOf e)=(i'-n)*C.P.cellsOf e+j by rw[Nat.sub_mul];omega];exact⟨M7 hsrc.one _ (by rw[Nat.sub_mul];omega),(a2 j hj).mono hle2⟩
    refine⟨fun l' blk b' base' tot' e1 e2=>?_,fun l1 l2 b' base' tot' base'' tot'' e1 e2 e3 e4=>?_,fun b' hb'=>by show b'<w'.heap.size;rw[f4];exact hs.imm b' hb',fun l' b' base' tot' e1=>?_,og hstep.le hs.gd⟩
    .by_cases h:l'=L
     .subst h;rw[hffL]at e1;simp only[eu,aY,aP,dm]at e2;obtain⟨rfl,rfl,rfl⟩:=e2;obtain rfl:=bd e1;exact⟨hnI,hblk⟩
     .rw[hff l' h]at e1;by_cases h2:l'=l
      .rw[ay h2]at e1;cases e1
      .rw[aj h2]at e1;simp only[eu,h,aS]at e2;obtain⟨a1,a2⟩:=hs.own l' blk b' base' tot' e1 e2;refine⟨a1,a2.mono hle2 (hother b' (fun eb=>?_))⟩;subst eb;exact h2 (hs.inj l' l b' base' tot' base tot (by rw[e1];simp) (by rw[g1];simp) e2 hβ)
    .have key:∀l1 b1 base1 tot1,l1≠L->ij f [L,l] (cR (cA m l) L (.buf (C.P.cellsOf e) ((((bh m l).drop i).take n)++E))) l1≠none->x.β l1=some (b1,base1,tot1)->b1≠bk/\f l1≠none:=by
      intro l1 b1 base1 tot1 h1' h2' h3';rw[hff l1 h1']at h2';by_cases h:l1=l
      .rw[ay h]at h2';exact absurd rfl h2'
      .rw[aj h]at h2';refine⟨fun eb=>?_,h2'⟩;subst eb;exact h (hs.inj l1 l b1 base1 tot1 base tot h2' (by rw[g1];simp) h3' hβ)
     by_cases h1':l1=L<;>by_cases h2':l2=L
     .rw[h1',h2']
     .exfalso;simp only[eu,h1',aY,aP,dm]at e3;simp only[eu,h2',aS]at e4;exact(key l2 b' _ _ h2' e2 e4).1 e3.1.symm
     .exfalso;simp only[eu,h2',aY,aP,dm]at e4;simp only[eu,h1',aS]at e3;exact(key l1 b' _ _ h1' e1 e3).1 e4.1.symm
     .simp only[eu,h1',aS]at e3;simp only[eu,h2',aS]at e4;exact hs.inj l1 l2 b' base' tot' base'' tot'' (key l1 b' _ _ h1' e1 e3).2 (key l2 b' _ _ h2' e2 e4).2 e3 e4
    .show b'<w'.heap.size;rw[f4];by_cases h:l'=L
     .simp only[eu,h,aY,aP,dm]at e1;obtain⟨rfl,_,_⟩:=e1;exact hs.ek l _ _ _ hβ
     .simp only[eu,h,aS]at e1;exact hs.ek l' _ _ _ e1
   ·
    have hold:∃olds:List Value,(Builtin.firstCells (C.P.cellsOf e) n (.slice (some ad) n cap)).run C.P x.w.drew=.ok olds.toArray x.w.drew/\olds.length=n*C.P.cellsOf e/\
      ∀j,j<n->∀j',j'<C.P.cellsOf e->(olds.getD (j*C.P.cellsOf e+j') undef).oneCell'=true/\RD C.ν x (olds.getD (j*C.P.cellsOf e+j') undef) (((bh m l).getD (i+j) .any).cells.getD j' .any):=by
     by_cases hn0:n=0
     .subst hn0;exact⟨[],by simp[Builtin.firstCells,loadCells,loadCellsFrom],bg,fun j hj=>ah⟩
     .have ha':=ha ah;subst ha';have hqd:∀q,q<n*C.P.cellsOf e->q/C.P.cellsOf e<n/\q%C.P.cellsOf e<C.P.cellsOf e/\q/C.P.cellsOf e*C.P.cellsOf e+q%C.P.cellsOf e=q:=fun q hq=>
       ⟨Nat.div_lt_of_lt_mul (by rw[Nat.mul_comm];exact hq),Nat.mod_lt _ ah,by rw[Nat.mul_comm];exact Nat.div_add_mod q _⟩
      have hbase:∀q,q<n*C.P.cellsOf e->base+i*C.P.cellsOf e+q<c.size:=fun q hq=>by
       have:i*C.P.cellsOf e+n*C.P.cellsOf e<=tot*C.P.cellsOf e:=by rw[<-Nat.add_mul];exact fg _ ah
       omega
      refine⟨(List.range (n*C.P.cellsOf e)).map fun q=>c.getD (base+i*C.P.cellsOf e+q) undef, ?_,bg,fun j hj j' hj'=>?_⟩
      .refine run_firstCells_some x.w.drew _ n _ n cap _ bg (fun j u' hj=>?_);obtain⟨hj2,rfl⟩:=List.getElem?_eq_some_iff.1 hj;simp at hj2;rw[Addr.uC];simp only[List.getElem_map,List.getElem_range];exact cell_of_heap (w:=x.w.drew) q1 (hbase j hj2)
      .have hlt:=iA hj hj';have e1:((List.range (n*C.P.cellsOf e)).map fun q=>c.getD (base+i*C.P.cellsOf e+q) undef).getD (j*C.P.cellsOf e+j') undef=c.getD (base+(i+j)*C.P.cellsOf e+j') undef:=by
        simp only[List.getD,List.getElem?_map,List.getElem?_range hlt,Option.map_some,Option.getD_some];congr 1;rw[Nat.add_mul];omega
       rw[e1];exact(q4 (i+j) ah).2 j' hj'
    obtain⟨olds,o1,o2,o3⟩:=hold;refine Cu (base:=some ad) (sLen:=n) (sCap:=cap) (olds:=olds) (es1:=((bh m l).drop i).take n) (E:=E) (mm:=E.length) hs hL hu hti hzv hsz htis hce hby
     o1 o2 hlen1 rfl (fun j hj=>?_) hsrc hnews ah ah hff' hffL hr
    rw[hgt j hj];exact⟨(q4 (i+j) ah).1,o3 j hj⟩
end
end
section
variable [di]
section
variable {ν:List (Nat×Nat)} {x:X} {f:Nat->Option bL} {m:List (Nat×bL)}
def X.lf (x:X)(f:Nat->Option bL):X:=⟨x.w,fun b=>x.I b\/∃l p,x.β l=some p/\p.1=b/\f l≠none,x.β⟩
def mq (x:X)(f:Nat->Option bL):Le x (x.lf f):=⟨fun _ h=>.inl h,fun _ _=>rfl,fun _ _ h=>h⟩
theorem D.p7 (ds:List D):(D.agg ds).aZ=aR ds:=by simp[D.aZ]
def rI {l k n:Nat}(hs:eK ν x f)(hag:∀l,look m l≠none->f l=look m l)(hb:eM m l k n){b base tot:Nat}(hβ:x.β l=some (b,base,tot)):
  f l=some (.buf k (bh m l))/\n<=(bh m l).length/\¬x.I b/\mG ν x b base tot (.buf k (bh m l)):=by
 have hne:look m l≠none:=by
  intro h;simp[eM,h]at hb
 obtain⟨g1,g2,_⟩:=qD hs (hag l hne) hb;exact⟨g1,g2,hs.own l _ b base tot g1 hβ⟩
def yn {k:Nat}{es:List D}{cs:List Sh}{g:Nat->Nat->Value}(hk0:0<k)
  (hV:∀(e:D) (c:Nat->Value),e.cells.length=k->(∀j,j<k->RD ν x (c j) (e.cells.getD j .any))->fM m cs e->
    (il m cs e).cells.length=k/\(il m cs e).aZ=true/\∀j,j<k->RD ν (x.lf f) (c j) ((il m cs e).cells.getD j .any))
  (hes:∀i,i<es.length->(es.getD i .any).cells.length=k/\∀j,j<k->RD ν x (g i j) ((es.getD i .any).cells.getD j .any))
  (ho:∀e∈es,fM m cs e) (i:Nat) (hi:i<es.length):
  ((es.map (il m cs)).getD i .any).cells.length=k/\((es.map (il m cs)).getD i .any).aZ=true/\∀j,j<k->RD ν (x.lf f) (g i j) (((es.map (il m cs)).getD i .any).cells.getD j .any):=by
 have e1:(es.map (il m cs)).getD i .any=il m cs (es.getD i .any):=by simp[List.getD,hi]
 rw[e1];exact hV _ (g i) (hes i hi).1 (hes i hi).2 (ho _ (by rw[nR _ _ _ hi];exact List.getElem_mem _))
mutual
theorem qW (hs:eK ν x f)(hag:∀l,look m l≠none->f l=look m l):∀(s:Sh) (v:Value) (d:D),RD ν x v d->gH m s d->
  RD ν (x.lf f) v (jF m s d)/\(jF m s d).aZ=true/\(d.cells.length=1->d.isAgg=false->(jF m s d).cells=[jF m s d])
 | .a,v,d,h,ho=>by
  simp only[gH]at ho;have hm:RD ν (x.lf f) v d:=h.mono (mq x f);cases d<;>simp only[jF]<;>first
   |exact⟨hm,ho,fun h1 h2=>by simp_all[D.cells,D.isAgg]⟩
   |skip
  cases h;exact⟨.sl none 0 0 0 0 0 [] (fun _ _=>undef) rfl (.inl rfl) (aM _) (by simp[maxLen]) (fun _ h=>ah) (fun _ h=>ah) (fun _ _ h=>ah) (fun _ _ h=>ah) (fun _ _ h=>ah),rfl,fun _ _=>rfl⟩
 | .sl k cs,v,d,h,ho=>by
  have hm:RD ν (x.lf f) v d:=h.mono (mq x f);cases d<;>simp only[jF]<;>simp only[gH]at ho<;>first
   |exact⟨hm,ho,fun h1 h2=>by simp_all[D.cells,D.isAgg]⟩
   |skip
  .cases h;exact⟨.sl none 0 0 0 0 k [] (fun _ _=>undef) rfl (.inl rfl) (aM _) (by simp[maxLen]) (fun _ h=>by simp at h) (fun _ h=>by simp at h) (fun _ _ h=>by simp at h) (fun _ _ h=>by simp at h) (fun _ _ h=>by simp at h),rfl,fun _ _=>rfl⟩
  .rename_i l k' i c;obtain⟨hb,hel⟩:=ho;cases h with
   |own0=>
    simp only[List.take_zero,List.map_nil];exact⟨.sl _ 0 0 0 0 k' [] (fun _ _=>undef) rfl (.inl rfl) (aM _) (by simp[maxLen]) (fun _ h=>by simp at h) (fun _ h=>by simp at h) (fun _ _ h=>by simp at h) (fun _ _ h=>by simp at h) (fun _ _ h=>by simp at h),rfl,fun _ _=>rfl⟩
   |own _ _ _ _ b base tot cap a hβ ha hcap hmx ht=>
    obtain⟨g1,g2,hnI,hk0,ht',cc,T,fr,q1,q2,q3,q4⟩:=rI hs hag hb hβ;have hlen:(((bh m l).drop i).take c).length=c:=gr _ _ _ g2;have hgt:∀j,j<c->(((bh m l).drop i).take c).getD j .any=(bh m l).getD (i+j) .any:=fun j hj=>ef _ _ _ _ _ hj
    have hrow:=yn (f:=f) (k:=k') (cs:=cs) (es:=((bh m l).drop i).take c) (g:=fun i' j=>cc.getD (base+(i+i')*k'+j) undef) hk0 (qX hs hag cs)
     (fun i' hi'=>by
       rw[hlen]at hi';rw[hgt i' hi'];exact⟨(q4 (i+i') ah).1,fun j hj=>((q4 (i+i') ah).2 j hj).2⟩) hel
    refine⟨.sl (some a) b (base+i*k') c cap k' _ (fun i' j=>cc.getD (base+(i+i')*k'+j) undef) (by rw[bc,hlen]) ?_ hcap hmx (fun i' hi'=>(hrow i' ah).1) (fun i' hi'=>(hrow i' ah).2.1) (fun i' j hi' hj=>?_) (fun i' j hi' hj=>?_) (fun i' j hi' hj=>(hrow i' ah).2.2 j hj),rfl,fun _ _=>rfl⟩
    .by_cases hc0:c=0
     .left;exact jM (by simp[hlen,hc0])
     .right;exact⟨by rw[ha ah],.inr ⟨l,_,hβ,rfl,by rw[g1];simp⟩⟩
    .have h1:=iA (tot:=tot) (show i+i'<tot by omega) hj;show x.w.cell? _=_;rw[<-cell_of_heap q1 (by omega:base+(i+i')*k'+j<cc.size)];congr 2;rw[Nat.add_mul];omega
    .exact((q4 (i+i') ah).2 j hj).1
 | .pt cs,v,d,h,ho=>by
  have hm:RD ν (x.lf f) v d:=h.mono (mq x f);cases d<;>simp only[jF]<;>simp only[gH]at ho<;>first
   |exact⟨hm,ho,fun h1 h2=>by simp_all[D.cells,D.isAgg]⟩
   |skip
  rename_i l k' i o;obtain⟨hb,hel⟩:=ho;cases h with
  |ptr _ _ _ _ b base tot at_ hβ hat=>
   obtain⟨g1,g2,hnI,hk0,ht',cc,T,fr,q1,q2,q3,q4⟩:=rI hs hag hb hβ;have hrow:=yn (f:=f) (k:=k') (cs:=cs) (es:=bh m l) (g:=fun i' j=>cc.getD (base+i'*k'+j) undef) hk0 (qX hs hag cs)
    (fun i' hi'=>⟨(q4 i' hi').1,fun j hj=>((q4 i' hi').2 j hj).2⟩) hel
   refine⟨.ref b base k' i o at_ _ (fun i' j=>cc.getD (base+i'*k'+j) undef) (.inr ⟨l,_,hβ,rfl,by rw[g1];simp⟩) hat (fun i' hi'=>(hrow i' (by simpa using hi')).1) (fun i' hi'=>(hrow i' (by simpa using hi')).2.1)
    (fun i' j hi' hj=>?_) (fun i' j hi' hj=>((q4 i' (by simpa using hi')).2 j hj).1) (fun i' j hi' hj=>(hrow i' (by simpa using hi')).2.2 j hj),rfl,fun _ _=>rfl⟩
   have h1:=iA (tot:=tot) (show i'<tot by simp at hi';omega) hj;exact cell_of_heap q1 ah
 | .kp cs,v,d,h,ho=>by
  have hm:RD ν (x.lf f) v d:=h.mono (mq x f);cases d<;>simp only[jF]<;>simp only[gH]at ho<;>first
   |exact⟨hm,ho,fun h1 h2=>by simp_all[D.cells,D.isAgg]⟩
   |skip
  rename_i l k' i c;obtain⟨hb,hel⟩:=ho;cases h with
  |own0=>
   simp only[List.take_zero,List.map_nil];exact⟨.sl _ 0 0 0 0 k' [] (fun _ _=>undef) rfl (.inl rfl) (aM _) (by simp[maxLen]) (fun _ h=>by simp at h) (fun _ h=>by simp at h) (fun _ _ h=>by simp at h) (fun _ _ h=>by simp at h) (fun _ _ h=>by simp at h),rfl,fun _ _=>rfl⟩
  |own _ _ _ _ b base tot cap a hβ ha hcap hmx ht=>
   obtain⟨g1,g2,hnI,hk0,ht',cc,T,fr,q1,q2,q3,q4⟩:=rI hs hag hb hβ;have hlen:(((bh m l).drop i).take c).length=c:=gr _ _ _ g2;have hgt:∀j,j<c->(((bh m l).drop i).take c).getD j .any=(bh m l).getD (i+j) .any:=fun j hj=>ef _ _ _ _ _ hj
   have hrow:=yn (f:=f) (k:=k') (cs:=cs) (es:=((bh m l).drop i).take c) (g:=fun i' j=>cc.getD (base+(i+i')*k'+j) undef) hk0 (qX hs hag cs)
    (fun i' hi'=>by
      rw[hlen]at hi';rw[hgt i' hi'];exact⟨(q4 (i+i') ah).1,fun j hj=>((q4 (i+i') ah).2 j hj).2⟩) hel
   refine⟨.sl (some a) b (base+i*k') c cap k' _ (fun i' j=>cc.getD (base+(i+i')*k'+j) undef) (by rw[bc,hlen]) ?_ hcap hmx (fun i' hi'=>(hrow i' ah).1) (fun i' hi'=>(hrow i' ah).2.1) (fun i' j hi' hj=>?_) (fun i' j hi' hj=>?_) (fun i' j hi' hj=>(hrow i' ah).2.2 j hj),rfl,fun _ _=>rfl⟩
   .by_cases hc0:c=0
    .left;exact jM (by simp[hlen,hc0])
    .right;exact⟨by rw[ha ah],.inr ⟨l,_,hβ,rfl,by rw[g1];simp⟩⟩
   .have h1:=iA (tot:=tot) (show i+i'<tot by omega) hj;show x.w.cell? _=_;rw[<-cell_of_heap q1 (by omega:base+(i+i')*k'+j<cc.size)];congr 2;rw[Nat.add_mul];omega
   .exact((q4 (i+i') ah).2 j hj).1
theorem qX (hs:eK ν x f)(hag:∀l,look m l≠none->f l=look m l):∀(cs:List Sh){k:Nat} (e:D) (c:Nat->Value),e.cells.length=k->(∀j,j<k->RD ν x (c j) (e.cells.getD j .any))->fM m cs e->
  (il m cs e).cells.length=k/\(il m cs e).aZ=true/\∀j,j<k->RD ν (x.lf f) (c j) ((il m cs e).cells.getD j .any)
 |[],k,e,c,hk,hc,ho=>by
  simp only[il];simp only[fM]at ho;exact⟨hk,ho,fun j hj=>(hc j hj).mono (mq x f)⟩
 |s::r,k,e,c,hk,hc,ho=>by
  cases e<;>simp only[il]<;>simp only[fM]at ho<;>try
   (obtain⟨h1,h2,h3⟩:=qW hs hag s (c 0) _ (by simp only[D.cells,aT,aX]at hk;exact hc 0 ah) ho
    simp only[D.cells,aT,aX]at hk;rw[h3 rfl rfl];subst hk;exact⟨rfl,h2,fun j hj=>by obtain rfl:j=0:=ah
                                                                                    exact h1⟩)
  .simp only[D.cells,aX]at hk;subst hk;cases s<;>simp only[jF]<;>exact⟨rfl,rfl,fun j hj=>ah⟩
  .rename_i ds;obtain⟨a1,a2,a3⟩:=qY hs hag (s::r) ds c (fun j hj=>hc j (by simpa[D.cells]using hk▸hj)) ho;simp only[D.cells]at hk⊢;exact⟨a1.trans hk,by rw[D.p7];exact a2,fun j hj=>a3 j ah⟩
  .simp only[D.cells,aX]at hk;subst hk;cases s<;>simp only[jF,gH]at ho⊢ <;>exact⟨rfl,ho,fun j hj=>ah⟩
theorem qY (hs:eK ν x f)(hag:∀l,look m l≠none->f l=look m l):∀(cs:List Sh) (ds:List D) (c:Nat->Value),(∀j,j<ds.length->RD ν x (c j) (ds.getD j .any))->js m cs ds->
  (ll m cs ds).length=ds.length/\aR (ll m cs ds)=true/\∀j,j<ds.length->RD ν (x.lf f) (c j) ((ll m cs ds).getD j .any)
 |[],ds,c,hc,ho=>by
  simp only[js]at ho;exact⟨by simp[ll],by simpa[ll]using ho,fun j hj=>by simpa only[ll]using(hc j hj).mono (mq x f)⟩
 |s::r,[],c,hc,ho=>by
  exact⟨by simp[ll],by simp[ll,aR],fun j hj=>by simp at hj⟩
 |s::r,d::ds,c,hc,ho=>by
  simp only[ll];simp only[js]at ho;obtain⟨h1,h2,_⟩:=qW hs hag s (c 0) d (by simpa using hc 0 bg) ho.1;obtain⟨a1,a2,a3⟩:=qY hs hag r ds (fun j=>c (j+1)) (fun j hj=>by simpa using hc (j+1) dH) ho.2;refine⟨by simp[a1],by simp[aR,h2,a2],fun j hj=>?_⟩;cases j with
  |zero=>simpa using h1
  |succ j=>simpa using a3 j (by simpa using hj)
end
def qZ (hs:eK ν x f)(hag:∀l,look m l≠none->f l=look m l)(sh:List Sh)(v:Value)(d:D)(h:RD ν x v d)(ho:fM m sh d):RD ν (x.lf f) v (il m sh d)/\(il m sh d).aZ=true:=by
 cases sh with
 |nil=>simp only[il];simp only[fM]at ho;exact⟨h.mono (mq x f),ho⟩
 |cons s r=>
  cases d<;>simp only[il]<;>simp only[fM]at ho<;>first
   |(obtain⟨h1,h2,_⟩:=qW hs hag s v _ h ho;exact⟨h1,h2⟩)
   |skip
  rename_i ds;cases h with
  |agg cs _ hl h1 h=>
   obtain⟨a1,a2,a3⟩:=qY hs hag (s::r) ds (fun j=>cs.getD j undef) h ho;exact⟨.agg cs _ (by rw[a1,hl]) (fun i hi=>h1 i ah) (fun i hi=>a3 i ah),by rw[D.p7];exact a2⟩
def jk (hs:eK ν x f)(hag:∀l,look m l≠none->f l=look m l):∀(ss:List (List Sh)) (ds:List D) (c:Nat->Value),(∀j,j<ds.length->RD ν x (c j) (ds.getD j .any))->iB m ss ds->
  (fV m ss ds).length=ds.length/\aR (fV m ss ds)=true/\∀j,j<ds.length->RD ν (x.lf f) (c j) ((fV m ss ds).getD j .any)
 |ss,[],c,hc,ho=>⟨by simp[fV],by simp[fV,aR],fun j hj=>by simp at hj⟩
 |[],d::r,c,hc,ho=>by
  simp only[iB]at ho;obtain⟨h1,h2⟩:=qZ hs hag [.a] (c 0) d (by simpa using hc 0 bg) ho.1;obtain⟨a1,a2,a3⟩:=jk hs hag [] r (fun j=>c (j+1)) (fun j hj=>by simpa using hc (j+1) dH) ho.2
  grind [fV,aR]
 |s::ss,d::r,c,hc,ho=>by
  simp only[iB]at ho;obtain⟨h1,h2⟩:=qZ hs hag s (c 0) d (by simpa using hc 0 bg) ho.1;obtain⟨a1,a2,a3⟩:=jk hs hag ss r (fun j=>c (j+1)) (fun j hj=>by simpa using hc (j+1) dH) ho.2
  grind [fV,aR]
end
end
section
variable [di]
def iI (P:Program)(x:X)(G:Value->X->Prop)(r:Result Next):Prop:=
 (∃v x',(r=.ok (.value v) x'.w\/r=.ok .skip x'.w/\v=undef)/\G v x')\/
 (∃f args,r=.ok (.enter f args) x.w/\Calls P f args x.w fun
   | .returned v,w'=>∃x',x'.w=w'/\G v x'
   |_,_=>False)
def iI.mono {P:Program}{x:X}{G G':Value->X->Prop}{r:Result Next}(h:iI P x G r)(hg:∀v x',G v x'->G' v x'):iI P x G' r:=by
 rcases h with⟨v,x',h1,h2⟩|⟨f,args,h1,h2⟩
 .exact .inl ⟨v,x',h1,hg _ _ h2⟩
 .refine .inr ⟨f,args,h1,Calls.mono h2 fun e w' he=>?_⟩
  grind
def iI.wp {P:Program}{x:X}{G:Value->X->Prop}{o:Oper}{a:Act}{next:Act->World->Prop}{Q:Exit->Act->World->Prop}
  (h:iI P x G ((execOp a.eval o).run P x.w)) (hn:∀v x',G v x'->next (a.put o.dst v) x'.w):o.wp P a x.w next Q:=by
 unfold Oper.wp;rcases h with⟨v,x',h1|⟨h1,h3⟩,h2⟩|⟨f,args,h1,h2⟩
 .rw[h1];exact hn v x' h2
 .rw[h1];subst h3;exact hn _ x' h2
 .rw[h1,Oper.upon_enter];refine Calls.mono h2 fun e w' he=>?_
  grind
structure lE (x x':X):Prop where
 grow:fU x.w x'.w
 I:∀b,x.I b->x'.I b
 newI:∀b,x'.I b->x.I b\/x.w.heap.size<=b
 imm:∀b,x'.I b->b<x'.w.heap.size
 β:x'.β=x.β
structure ez (st:St)(x:X):Prop where
 β:∀l,st.nx<=l->x.β l=none
 m:∀l,look st.m l≠none->l<st.nx
structure Ok (P:Program)(ν:List (Nat×Nat))(cr:List Nat)(Y:Ctx):Prop where
 small:∀fid n,dp ν fid=some n->n<1000000
 bld:∀t,cr.contains (1000000000+t)=true->t=di.tB
 glz:∀g,cr.contains (500000000+g)=true/\g<400000000->di.gz g
 pure:∀fid n,dp ν fid=some n->∀(x:X) (args:Array Value) (ds:List D),args.size=ds.length->(∀i,i<ds.length->RD ν x (args.getD i undef) (ds.getD i .any))->aR ds=true->
  (∀b,x.I b->b<x.w.heap.size)->di.gd x->Y.pre n ds->iI P x (fun v x'=>lE x x'/\RD ν x' v (Y.val n ds)) ((callFunc fid args).run P x.w)
 effF:∀fid n,dp ν fid=some n->cr.contains (2*n+1)=true->∀(x:X) (f:Nat->Option bL) (args:Array Value) (l k:Nat) (d:D) (ds:List D),args.size=ds.length+1->RD ν x (args.getD 0 undef) (.ptr l k 0 0)->
  (∀i,i<ds.length->RD ν x (args.getD (i+1) undef) (ds.getD i .any))->eK ν x f->f l=some (.buf k [d])->d.aZ=true->aR ds=true->Y.fp n d ds->
  iI P x (fun v x'=>Step x x'/\RD ν x' v (Y.fv n d ds)/\eK ν x' (fun l'=>if l'=l then some (.buf k [Y.fs n d ds])else f l')/\x'.β=x.β) ((callFunc fid args).run P x.w)
 cr:∀fid n,dp ν fid=some n->∀(x:X) (args:Array Value) (ds:List D) (st:St) (K:D->St->Prop),args.size=ds.length->(∀i,i<ds.length->RD ν x (args.getD i undef) (ds.getD i .any))->
  eK ν x (look st.m)->ez st x->Y.tr n ds st K->iI P x (fun v x'=>∃d st',K d st'/\Step x x'/\RD ν x' v d/\eK ν x' (look st'.m)/\ez st' x') ((callFunc fid args).run P x.w)
section
variable {x:X} {f:Nat->Option bL} {C:CC} {defs:List (Option Nat)} {J:Src->bI} {ev:Operand->Value} {Y:Ctx} {m:List (Nat×bL)} {L:Nat} {ν:List (Nat×Nat)}
def lE.step {x':X}(h:lE x x')(himm:∀b,x.I b->b<x.w.heap.size):Step x x':=
 ⟨h.grow.os,h.grow.tape,h.grow.output,h.grow.size,h.I,fun b hb=>h.grow.old b (himm b hb),fun l p hp=>by rw[h.β];exact hp,fun b hb _=>h.grow.old b hb,fun b hb=>(h.newI b hb).imp id .inl,fun l p hp=>.inl (by rw[h.β]at hp;exact hp)⟩
def lE.lC {x':X}(h:lE x x')(hs:eK ν x f):eK ν x' f:=by
 have hst:=h.step hs.imm;refine⟨fun l blk b base tot e1 e2=>?_,fun l1 l2 b base tot base' tot' e1 e2 e3 e4=>?_,h.imm,fun l b base tot e=>?_,og hst.le hs.gd⟩
 .rw[h.β]at e2;obtain⟨a1,a2⟩:=hs.own l blk b base tot e1 e2;have hb:=hs.ek l b base tot e2;refine⟨fun hI=>?_,a2.mono hst.le (h.grow.old b hb)⟩;rcases h.newI b hI with h1|h1
  .exact a1 h1
  .omega
 .rw[h.β]at e3 e4;exact hs.inj l1 l2 b base tot base' tot' e1 e2 e3 e4
 .rw[h.β]at e;exact iV (hs.ek l b base tot e) h.grow.size
mutual
theorem Nv (m m':List (Nat×bL)):∀(s:Sh) (d:D),d.aZ=true->jF m s d=jF m' s d/\gH m s d
 | .a,d,h=>by cases d<;>simp_all[jF,gH,D.aZ]
 | .sl k cs,d,h=>by cases d<;>simp_all[jF,gH,D.aZ]
 | .pt cs,d,h=>by cases d<;>simp_all[jF,gH,D.aZ]
 | .kp cs,d,h=>by cases d<;>simp_all[jF,gH,D.aZ]
theorem Nw (m m':List (Nat×bL)):∀(ss:List Sh) (ds:List D),aR ds=true->ll m ss ds=ll m' ss ds/\js m ss ds
 |[],ds,h=>by simp[ll,js,h]
 |s::r,[],h=>by simp[ll,js]
 |s::r,d::ds,h=>by
  simp only[aR,br]at h;obtain⟨a1,a2⟩:=Nv m m' s d h.1;obtain⟨b1,b2⟩:=Nw m m' r ds h.2;simp only[ll,js,a1,b1];exact⟨trivial,a2,b2⟩
end
def Nx (m m':List (Nat×bL))(ss:List Sh)(d:D)(h:d.aZ=true):il m ss d=il m' ss d/\fM m ss d:=by
 cases ss with
 |nil=>simp[il,fM,h]
 |cons s r=>
  cases d<;>simp only[il,fM]<;>first
   |exact Nv m m' s _ h
   |skip
  grind [Nw,D.p7]
def tx (m m':List (Nat×bL)):∀(ss:List (List Sh)) (ds:List D),aR ds=true->fV m ss ds=fV m' ss ds/\iB m ss ds
 |ss,[],h=>by simp[fV,iB]
 |[],d::r,h=>by
  simp only[aR,br]at h;obtain⟨a1,a2⟩:=Nx m m' [.a] d h.1;obtain⟨b1,b2⟩:=tx m m' [] r h.2
  grind [fV,iB]
 |s::ss,d::r,h=>by
  simp only[aR,br]at h;obtain⟨a1,a2⟩:=Nx m m' s d h.1;obtain⟨b1,b2⟩:=tx m m' ss r h.2
  grind [fV,iB]
def Goal (ν:List (Nat×Nat))(x:X)(f:Nat->Option bL)(L:Nat)(d:D)(v:Value)(x':X):Prop:=Step x x'/\RD ν x' v d/\eK ν x' f/\∀l,l≠L->x'.β l=x.β l
def uB.mV {P:Program}{f':Nat->Option bL}{d:D}{r:Result Next}(h:uB ν x f' L d r):iI P x (Goal ν x f' L d) r:=by
 obtain⟨v,x',h1,h2,h3,h4,h5⟩:=h;exact .inl ⟨v,x',h1,h2,h3,h4,h5⟩
def sN {P:Program}{cr:List Nat}(hΓ:Ok P ν cr Y){fid n:Nat}(hn:dp ν fid=some n){args:Array Value}{ds:List D}{sh:List (List Sh)}(hl:args.size=ds.length)
  (hargs:∀i,i<ds.length->RD ν x (args.getD i undef) (ds.getD i .any)) (hs:eK ν x f) (hag:aR ds=false->∀l,look m l≠none->f l=look m l) (ho:iB m sh ds) (hpre:Y.pre n (fV m sh ds))
  (hok:nJ ds (Y.val n (fV m sh ds))=true):iI P x (Goal ν x f L (Y.val n (fV m sh ds))) ((callFunc fid args).run P x.w):=by
 cases hnl:aR ds with
 |true=>
  obtain⟨e1,_⟩:=tx m [] sh ds hnl;obtain⟨_,e2⟩:=tx [] m sh ds hnl;have hs0:eK ν x (fun _=>none):=hs.less fun _=>.inr (.inl rfl)
  obtain⟨a1,a2,a3⟩:=jk (m:=[]) hs0 (fun l h=>by simp[look]at h) sh ds (fun j=>args.getD j undef) hargs e2;rw[<-e1]at a1 a2 a3;have hle:Le (x.lf fun _=>none) x:=⟨fun b hb=>by
   rcases hb with h|⟨_,_,_,_,h⟩
   .exact h
   .exact absurd rfl h,fun _ _=>rfl,fun _ _ h=>h⟩
  refine(hΓ.pure fid n hn x args _ (by rw[a1,hl]) (fun i hi=>(a3 i ah).mono hle) a2 hs.imm hs.gd hpre).mono fun v x' h=>?_
  obtain⟨h1,h2⟩:=h;exact⟨h1.step hs.imm,h2,h1.lC hs,fun l _=>by rw[h1.β]⟩
 |false=>
  obtain⟨a1,a2,a3⟩:=jk hs (hag hnl) sh ds (fun j=>args.getD j undef) hargs ho;have hmf:(Y.val n (fV m sh ds)).eG=true:=by simpa[nJ,hnl]using hok
  have himm:∀b,(x.lf f).I b->b<x.w.heap.size:=by
   intro b hb;rcases hb with h|⟨l,⟨b',base,tot⟩,h1,h2,h3⟩
   .exact hs.imm b h
   .subst h2;exact hs.ek l _ _ _ h1
  have h:=hΓ.pure fid n hn (x.lf f) args _ (by rw[a1,hl]) (fun i hi=>a3 i ah) a2 himm (og (mq x f) hs.gd) hpre;have key:∀v x',(lE (x.lf f) x'/\RD ν x' v (Y.val n (fV m sh ds)))->Goal ν x f L (Y.val n (fV m sh ds)) v ⟨x'.w,x.I,x.β⟩:=by
   intro v x' ⟨h1,h2⟩;have hp:lE x ⟨x'.w,x.I,x.β⟩:=⟨h1.grow,fun _ h=>h,fun _ h=>.inl h,fun b hb=>iV (hs.imm b hb) h1.grow.size,rfl⟩;exact⟨hp.step hs.imm,h2.eG hmf,hp.lC hs,fun _ _=>rfl⟩
  rcases h with⟨v,x',h1,h2⟩|⟨f',args',h1,h2⟩
  .exact .inl ⟨v,⟨x'.w,x.I,x.β⟩,h1,key v x' h2⟩
  .refine .inr ⟨f',args',h1,Calls.mono h2 fun e w' he=>?_⟩;cases e with
   |returned v=>obtain⟨x',e1,e2⟩:=he;exact⟨⟨x'.w,x.I,x.β⟩,e1,key v x' e2⟩
   |panicked c=>exact he
   |outgrown=>exact he
end
end
section
variable [di]
section
variable {x:X} {f:Nat->Option bL} {C:CC} {defs:List (Option Nat)} {J:Src->bI} {ev:Operand->Value} {Y:Ctx} {m:List (Nat×bL)} {L:Nat} {ν:List (Nat×Nat)}
def pO {f:Nat->Option bL}{m':List (Nat×bL)}:ij f [] m'=f:=by funext l;simp[ij]
def QD {i:aG}(hp:i.pure=true):i.wr J L=[]:=by cases i<;>simp_all[aG.pure,aG.wr]
def HW {args:List D}{ls:Option (List Nat)}(hls:ls=bif aR args then some []else none)(hag:yQ f m ls):aR args=false->∀l,look m l≠none->f l=look m l:=by
 intro h;rw[h]at hls;subst hls;exact hag
theorem M9 {o:Oper}{fid:Nat}{args:Array Operand}{tys:Array TypeId}{n:Nat}{ss:List Src}{sh:List (List Sh)}(hcst:∀d,J (.c d)=⟨true,d⟩)(hΓ:Ok C.P C.ν C.cr Y)
  (ho:o.op=.call {callee:=.value (.func fid),args,argTypes:=tys}) (h1:dp C.ν fid=some n) (h2:C.rm defs args.toList=some ss) (hρ:pM C defs J ev x o.op.operands.toList) (hob:(aG.call n ss sh).dE Y J m) (hs:eK C.ν x f) (hag:yQ f m ((aG.call n ss sh).kY J)):
  iI C.P x (Goal C.ν x (ij f ((aG.call n ss sh).wr J L) ((aG.call n ss sh).cr Y J m L)) L ((aG.call n ss sh).val Y J m L)) ((execOp ev o).run C.P x.w):=by
 obtain⟨k1,k2,k3,k4⟩:=hob;have hv:=hρ (.func fid) (by simp[ho,Op.operands,Call.operands]) (.c (.fn n [])) (by simp[CC.src,h1]) (by rw[hcst]);rw[hcst]at hv;obtain⟨s1,s2,s3⟩:=gM hρ _ _ (fun o' ho'=>by simp only[ho,Op.operands,Call.operands];simp at ho'⊢;exact .inr ho') h2 k1;generalize hep:ev (.func fid)=vf at hv;cases hv with
 |ek=>exact absurd (hΓ.small _ _ h1) ah
 |mp=>exact absurd (hΓ.small _ _ h1) ah
 |bx=>exact absurd (hΓ.small _ _ h1) ah
 |ifc=>exact absurd (hΓ.small _ _ h1) ah
 |ifn=>exact absurd (hΓ.small _ _ h1) ah
 |mpn=>exact absurd (hΓ.small _ _ h1) ah
 |zp=>exact absurd (hΓ.small _ _ h1) ah
 |fn fid' _ cs _ hν hl _=>
  have hcs:cs=#[]:=by apply Array.ext';simpa using hl
  subst hcs;have hrun:(execOp ev o).run C.P x.w=(callFunc fid' (args.map ev)).run C.P x.w:=by
   simp[execOp,ho,resolve,Deferred.ofValue,invoke,hep]
  rw[hrun];have hwr:(aG.call n ss sh).wr J L=[]:=rfl;rw[hwr,pO];simp only[aG.val];refine sN hΓ hν (by simp;simpa using s2.symm) (fun i hi=>?_) hs (HW rfl hag) k2 k3 k4;have:=s3 i hi
  rwa [<-Array.toList_map,cB]at this
theorem lg (a b:Array Value)(i:Nat):(a++b).getD i undef=if i<a.size then a.getD i undef else b.getD (i-a.size) undef:=by
 rw[<-cB,Array.toList_append,cY]
 grind [cB]
def Na {o:Oper}{t:Nat}{args:Array Operand}{tys:Array TypeId}{s:Src}{ss:List Src}{sh:List (List Sh)}(hΓ:Ok C.P C.ν C.cr Y)
  (ho:o.op=.call {callee:=.value (.tmp t),args,argTypes:=tys}) (h1:C.src defs (.tmp t)=some s) (h2:C.rm defs args.toList=some ss) (hρ:pM C defs J ev x o.op.operands.toList) (hob:(aG.callv s ss sh).dE Y J m) (hs:eK C.ν x f) (hag:yQ f m ((aG.callv s ss sh).kY J)):
  iI C.P x (Goal C.ν x (ij f ((aG.callv s ss sh).wr J L) ((aG.callv s ss sh).cr Y J m L)) L ((aG.callv s ss sh).val Y J m L)) ((execOp ev o).run C.P x.w):=by
 obtain⟨k0,k1,k2⟩:=hob;have hv:=hρ (.tmp t) (by simp[ho,Op.operands,Call.operands]) s h1 k0;obtain⟨s1,s2,s3⟩:=gM hρ _ _ (fun o' ho'=>by simp only[ho,Op.operands,Call.operands];simp at ho'⊢;exact .inr ho') h2 k1;cases hd:(J s).d<;>simp only[hd]at k2;rename_i n caps;obtain⟨k1',k2,k3,k4⟩:=k2;rw[hd]at hv;generalize hep:ev (.tmp t)=vf at hv;cases hv with
 |ek _ n'=>exact absurd k1' ah
 |mp=>exact absurd k1' ah
 |bx=>exact absurd k1' ah
 |ifc=>exact absurd k1' ah
 |ifn=>exact absurd k1' ah
 |mpn=>exact absurd k1' ah
 |zp=>exact absurd k1' ah
 |im=>exact absurd k1' ah
 |fn fid' _ cs _ hν hl hcs=>
  have hrun:(execOp ev o).run C.P x.w=(callFunc fid' (args.map ev++cs)).run C.P x.w:=by
   simp[execOp,ho,resolve,Deferred.ofValue,invoke,hep]
  rw[hrun];have hwr:(aG.callv s ss sh).wr J L=[]:=rfl;rw[hwr,pO];have mJ:(aG.callv s ss sh).val Y J m L=Y.val n (fV m sh (gV J ss++caps)):=by simp[aG.val,hd]
  rw[mJ];have hsz:args.size=(gV J ss).length:=by simpa using s2.symm
  refine sN hΓ hν (by simp[hl,hsz]) (fun i hi=>?_) hs (HW (by simp[aG.kY,hd]) hag) k2 k3 k4;rw[lg,cY];simp only[Array.size_map,hsz];split
  .rename_i hlt;have:=s3 i hlt
   rwa [<-Array.toList_map,cB]at this
  .exact hcs _ (by simp at hi;omega)
def Fv {P:Program}{ν:List (Nat×Nat)}{nm:String}{t n:Nat}(hall:C0 P ν nm t n=true):
  ∃fid ti mt d,dp ν fid=some n/\P.info? t=some ti/\ti.methods.find? (·.name==nm)=some mt/\mt.path=#[]/\mt.func=some (fid,false)/\P.underlying t=some d/\∀u,d≠.pointer u:=by
 unfold C0 at hall;split at hall
 .cases hall
 .cases hall
 .rename_i d hnp hu;split at hall
  .rename_i ti hti;split at hall
   .rename_i mt hmt;simp only[br]at hall;obtain⟨hp,hall⟩:=hall;split at hall
    .rename_i fid hf;exact⟨fid,ti,mt,d,by simpa using hall,hti,hmt,by apply Array.ext';simpa using hp,hf,hu,fun u e=>hnp u e⟩
    .cases hall
   .cases hall
  .cases hall
def OB (t:Nat):QZ (1000000000+t)=some t:=by
 unfold QZ;rw[aj ah];exact aC some ah
def Fw {P:Program}{ν:List (Nat×Nat)}{nm:String}(h:MI P ν nm=true){t n:Nat}(hν:dp ν (1000000000+t)=some (500000+n)):C0 P ν nm t n=true:=by
 have key:∀k q q':Nat,(k,q)∈ν->QZ k=some t->q-500000=q'->C0 P ν nm t q'=true:=by
  intro k q q' hm hk hq;have hall:=List.all_eq_true.1 h _ hm;rw[<-hq];simpa only[hk]using hall
 exact key _ _ _ (mR hν) (OB t) ah
def Qt {o:Oper}{r:Operand}{nm:String}{args:Array Operand}{tys:Array TypeId}{s:Src}(hΓ:Ok C.P C.ν C.cr Y)
  (ho:o.op=.call {callee:=.invoke r nm,args,argTypes:=tys}) (ha:args=#[]) (hi:MI C.P C.ν nm=true) (h1:C.src defs r=some s) (hρ:pM C defs J ev x o.op.operands.toList) (hob:(aG.invk s).dE Y J m) (hs:eK C.ν x f):
  iI C.P x (Goal C.ν x (ij f ((aG.invk s).wr J L) ((aG.invk s).cr Y J m L)) L ((aG.invk s).val Y J m L)) ((execOp ev o).run C.P x.w):=by
 subst ha;obtain⟨k0,k1⟩:=hob;have hv:=hρ r (by simp[ho,Op.operands,Call.operands]) s h1 k0;cases hd:(J s).d<;>simp only[hd]at k1;rename_i k cs;obtain⟨k2,k3,k4⟩:=k1;rw[hd]at hv;generalize hep:ev r=vr at hv;cases hv with
 |fn _ _ _ _ hν=>exact absurd (hΓ.small _ _ hν) ah
 |ek _ _ _ _ hν=>exact absurd (hΓ.small _ _ hν) ah
 |mp=>exfalso;omega
 |bx=>exfalso;omega
 |ifn=>exfalso;omega
 |mpn=>exfalso;omega
 |zp=>exfalso;omega
 |im=>exfalso;omega
 |ifc t n v _ hν hn hl hh=>
  obtain⟨fid,ti,mt,d,e1,e2,e3,e4,e5,e6,e7⟩:=Fv (Fw hi hν);have hrun:(execOp ev o).run C.P x.w=(callFunc fid #[v]).run C.P x.w:=by
   have hm:(method (C.P.types.size+Made.depth) t v nm).run C.P x.w=Result.ok (fid,v) x.w:=by
    have hr:∀q,(receiverAt t (.val v) false q).run C.P x.w=Result.ok v x.w:=by
     intro q;cases d<;>first
      |exact absurd rfl (e7 _)
      |simp[receiverAt,run_underlying e6,Place.get]
    rw[show C.P.types.size+Made.depth=(C.P.types.size+(Made.depth-1))+1 from rfl];simp[method,run_typeInfo x.w e2,e3,e4,follow,e5,hr,Result.andThen]
   simp[execOp,ho,resolve,invoke,hep,callMethod,hm]
  rw[hrun];have hwr:(aG.invk s).wr J L=[]:=rfl;rw[hwr,pO];have mJ:(aG.invk s).val Y J m L=Y.val n (fV m [] cs):=by
   simp only[aG.val,hd];rw[Nat.add_sub_cancel]
  rw[mJ];refine sN hΓ e1 (by simp;exact hl.symm) (fun i hi=>?_) hs (fun h=>by rw[k3]at h;cases h) (tx m m [] cs k3).2 (by rw[Nat.add_sub_cancel]at k4;exact k4) (by simp[nJ,k3]);obtain rfl:i=0:=ah;exact hh 0 hi
theorem Km {o:Oper}{fid:Nat}{args:Array Operand}{tys:Array TypeId}{n:Nat}{r:Src}{ss:List Src}{sh:List (List Sh)}(hcst:∀d,J (.c d)=⟨true,d⟩)(hΓ:Ok C.P C.ν C.cr Y)(hef:C.cr.contains (2*n+1)=true)
  (ho:o.op=.call {callee:=.value (.func fid),args,argTypes:=tys}) (h1:dp C.ν fid=some n) (h2:C.rm defs args.toList=some (r::ss)) (hρ:pM C defs J ev x o.op.operands.toList) (hob:(aG.callF n r ss sh).dE Y J m) (hs:eK C.ν x f)
  (hag:yQ f m ((aG.callF n r ss sh).kY J)):
  iI C.P x (Goal C.ν x (ij f ((aG.callF n r ss sh).wr J L) ((aG.callF n r ss sh).cr Y J m L)) L ((aG.callF n r ss sh).val Y J m L)) ((execOp ev o).run C.P x.w):=by
 obtain⟨k0,k1,k2,k3⟩:=hob;have hv:=hρ (.func fid) (by simp[ho,Op.operands,Call.operands]) (.c (.fn n [])) (by simp[CC.src,h1]) (by rw[hcst]);rw[hcst]at hv;obtain⟨s1,s2,s3⟩:=gM hρ _ _ (fun o' ho'=>by simp only[ho,Op.operands,Call.operands];simp at ho'⊢;exact .inr ho') h2 ⟨k0,k1⟩;cases hd:(J r).d<;>simp only[hd]at k3;rename_i l k i o';obtain⟨rfl,rfl,k4,k5,k6,k7⟩:=k3;generalize hep:ev (.func fid)=vf at hv;cases hv with
 |ek=>exact absurd (hΓ.small _ _ h1) ah
 |mp=>exact absurd (hΓ.small _ _ h1) ah
 |bx=>exact absurd (hΓ.small _ _ h1) ah
 |ifc=>exact absurd (hΓ.small _ _ h1) ah
 |ifn=>exact absurd (hΓ.small _ _ h1) ah
 |mpn=>exact absurd (hΓ.small _ _ h1) ah
 |zp=>exact absurd (hΓ.small _ _ h1) ah
 |fn fid' _ cs _ hν hl _=>
  have hcs:cs=#[]:=by apply Array.ext';simpa using hl
  subst hcs;have hrun:(execOp ev o).run C.P x.w=(callFunc fid' (args.map ev)).run C.P x.w:=by
   simp[execOp,ho,resolve,Deferred.ofValue,invoke,hep]
  rw[hrun];have hlk:f l=look m l:=hag l (by simp[hd,dk]);obtain⟨g1,g2,g3⟩:=qD hs hlk k4;have hb1:bh m l=[(bh m l).getD 0 .any]:=by
   match he:bh m l,k5 with
   |[e],_=>rfl
  have hsz:args.size=ss.length+1:=by simpa using s1
  have hdl:(gV J ss).length=ss.length:=by
   have:=s2;simp only[gV,aT]at this;have h4:=s1;simp only[aT]at h4;omega
  obtain⟨p1,p2⟩:=tx [] [] sh (gV J ss) k2;have hs0:eK C.ν x (fun _=>none):=hs.less fun _=>.inr (.inl rfl)
  have hget:∀q,(args.map ev).getD q undef=(args.toList.map ev).getD q undef:=fun q=>by rw[<-Array.toList_map,cB]
  obtain⟨a1,a2,a3⟩:=jk (m:=[]) hs0 (fun l h=>by simp[look]at h) sh (gV J ss) (fun j=>(args.map ev).getD (j+1) undef) (fun j hj=>by
   have:=s3 (j+1) (by simp only[gV,aT];omega);rw[hget];simpa[gV]using this) p2
  have hle:Le (x.lf fun _=>none) x:=⟨fun b hb=>by
   rcases hb with h|⟨_,_,_,_,h⟩
   .exact h
   .exact absurd rfl h,fun _ _=>rfl,fun _ _ h=>h⟩
  have h0:RD C.ν x ((args.map ev).getD 0 undef) (.ptr l k 0 0):=by
   have:=s3 0 (by simp[gV]);rw[hget];simpa[gV,hd]using this
  rw[hb1]at g1;refine(hΓ.effF fid' n hν hef x f _ l k _ (fV [] sh (gV J ss)) (by simp[a1,hdl,hsz]) h0 (fun i hi=>(a3 i ah).mono hle) hs g1 k6 a2 k7).mono fun v x' h=>?_
  obtain⟨q1,q2,q3,q4⟩:=h;refine⟨q1,by simpa only[aG.val,hd]using q2,q3.less fun l'=>.inl ?_,fun l' _=>by rw[q4]⟩;simp only[ij,aG.wr,hd,dk,aG.cr,bJ,cE];by_cases e:l'=l
  .rw[ay e,ay e,ay e]
  .rw[aj e,aj e]
def xM {o:Oper}{i:aG}(hc:C.op defs o=some i)(hncm:i.cN=false)(hΓ:Ok C.P C.ν C.cr Y)(hρ:pM C defs J ev x o.op.operands.toList)(hcst:∀d,J (.c d)=⟨true,d⟩)(hob:i.dE Y J m)(hs:eK C.ν x f)(hag:yQ f m (i.kY J))(hL:x.β L=none)(hgl:∀g,ev (.global g)=.pointer (some ⟨g,0,none⟩)):
  iI C.P x (Goal C.ν x (ij f (i.wr J L) (i.cr Y J m L)) L (i.val Y J m L)) ((execOp ev o).run C.P x.w):=by
 by_cases hp:i.pure=true
 .rw[QD hp,pO];exact(Qx hΓ.glz hcst hΓ.small hc hp hρ hob hs hgl).mV
 .cases ho:o.op with
  |alloc t=>exact(M8 hc (.inl ⟨t,ho⟩) hρ hcst hob hs hL hΓ.bld).mV
  |box t p=>exact(M8 hc (.inr ⟨t,p,ho⟩) hρ hcst hob hs hL hΓ.bld).mV
  |buildSlice t n ps=>exact(UO hc ho hρ hob hs hL).mV
  |load t p=>exact(Qv hp hΓ.small hc ho hρ hob hs hag).mV
  |store t p q=>exact(Nc hp hc ho hρ hob hs hag).mV
  |makeSlice t a b=>exact(UR hc ho hρ hob hs hL).mV
  |range t p=>exact(Nb hc ho hρ hob hs hL).mV
  |makeMap t r=>exact(UQ hc ho hρ hob hs hL).mV
  |mapUpdate t a b c=>exact(UU hΓ.small hc ho hρ hob hs hag).mV
  |lookup t p q ok=>
   cases ok
   .exfalso;simp only[CC.op,ho]at hc
    (repeat' split at hc)<;>simp only[aP,reduceCtorEq]at hc<;>subst hc<;>exact hp rfl
   .exact(UP hΓ.small hc ho hρ hob hs hag).mV
  |next it b=>
   cases b
   .simp[CC.op,ho]at hc
   .exact(Qw hc ho hρ hob hs hag).mV
  |convert s d p=>
   have:(∃a,i=.s2b a)\/(∃a,i=.b2s a):=by
    simp only[CC.op,ho]at hc
    (repeat' split at hc)<;>simp only[aP,reduceCtorEq]at hc<;>subst hc<;>first
      |exact .inl ⟨_,rfl⟩
      |exact .inr ⟨_,rfl⟩
      |(exfalso;exact hp rfl)
   rcases this with⟨a,rfl⟩|⟨a,rfl⟩
   .exact(UT (i:=.s2b a) hc ho hρ hob hs hL).mV
   .exact(UN hc ho hρ hob hs hag).mV
  |call c=>
   obtain⟨callee,args,argTypes⟩:=c;cases callee with
   |builtin bu=>
    cases bu with
    |append=>
     have hx:∃p q t u,args=#[p,q]/\argTypes=#[t,u]:=by
      simp only[CC.op,ho]at hc;split at hc
      .rename_i p q t u hargs htys;exact⟨p,q,t,u,by apply Array.ext';simpa using hargs,by apply Array.ext';simpa using htys⟩
      .cases hc
     obtain⟨p,q,t,u,rfl,rfl⟩:=hx;exact(UL hc ho hρ hob hs hag hL).mV
    |len=>
     exfalso;simp only[CC.op,ho]at hc
     (repeat' split at hc)<;>simp only[aP,reduceCtorEq]at hc<;>subst hc<;>exact hp rfl
    |min=>
     exfalso;simp only[CC.op,ho]at hc
     (repeat' split at hc)<;>simp only[aP,reduceCtorEq]at hc<;>subst hc<;>exact hp rfl
    |_=>simp[CC.op,ho]at hc
   |value fv=>
    cases fv with
    |func fid=>
     grind [CC.op,aG.cN,Km,M9]
    |tmp t=>
     simp only[CC.op,ho]at hc;split at hc
     .rename_i s ss h1 h2;split at hc
      .simp only[aP]at hc;subst hc;simp[aG.cN]at hncm
      .simp only[aP]at hc;subst hc;exact Na hΓ ho h1 h2 hρ hob hs hag
     .cases hc
    |_=>simp[CC.op,ho]at hc
   |invoke r nm=>
    simp only[CC.op,ho]at hc;split at hc
    .rename_i hi;simp only[br]at hi;simp only[cS]at hc;obtain⟨s,h1,rfl⟩:=hc;exact Qt hΓ ho (by simpa using hi.1) hi.2 h1 hρ hob hs
    .cases hc
  |move p=>exfalso;simp only[CC.op,ho,cS]at hc;obtain⟨s,h1,rfl⟩:=hc;exact hp rfl
  |assign p=>exfalso;simp only[CC.op,ho,cS]at hc;obtain⟨s,h1,rfl⟩:=hc;exact hp rfl
  |nilCheck p=>exfalso;simp only[CC.op,ho,cS]at hc;obtain⟨s,h1,rfl⟩:=hc;exact hp rfl
  |unOp op t p=>exfalso;simp only[CC.op,ho,cS]at hc;obtain⟨s,h1,rfl⟩:=hc;exact hp rfl
  |extract p n=>exfalso;simp only[CC.op,ho,cS]at hc;obtain⟨s,h1,rfl⟩:=hc;exact hp rfl
  |typeAssert p xt t ok=>
   exfalso;cases ok with
   |false=>simp[CC.op,ho]at hc
   |true=>
    simp only[CC.op,ho]at hc
    (repeat' split at hc)<;>simp only[aP,reduceCtorEq]at hc
    subst hc;exact hp rfl
  |binOp op t p q u=>
   exfalso;simp only[CC.op,ho]at hc
   (repeat' split at hc)<;>simp only[aP,reduceCtorEq]at hc<;>subst hc<;>first
     |exact hp rfl
     |(simp[aG.cN]at hncm;done)
  |makeFunc fn fst caps=>
   exfalso;cases fn<;>simp only[CC.op,ho]at hc<;>try(cases hc;done)
   (repeat' split at hc)<;>(try simp only[aP,reduceCtorEq]at hc)<;>first
     |(subst hc;exact hp rfl)
     |exact hc.elim
     |(simp only[cS]at hc;obtain⟨_,_,rfl⟩:=hc;exact hp rfl)
  |_=>
   exfalso;simp only[CC.op,ho]at hc
   (try cases hc)<;>(repeat' split at hc)<;>(try simp only[aP,reduceCtorEq,cS]at hc)<;>first
     |(subst hc;exact hp rfl)
     |(obtain⟨s,h1,rfl⟩:=hc;exact hp rfl)
     |exact hc.elim
     |cases hc
def fe (l k:Nat)(es:List D):∀ds:List D,(fL l k es ds).length=ds.length
 |[]=>rfl
 |d::r=>by simp[fL,fe l k es r]
def iY (l k:Nat)(es:List D):∀(ds:List D) (i:Nat),(fL l k es ds).getD i .any=eS l k es (ds.getD i .any)
 |[],i=>by simp[fL,eS]
 |d::r,0=>by simp[fL]
 |d::r,i+1=>by simpa[fL]using iY l k es r i
def RD.fz {ν:List (Nat×Nat)}{x x':X}{l k:Nat}{es:List D}(hle:Le x x')(hn:aR es=true)
  (ho:∀b base tot,x.β l=some (b,base,tot)->x'.I b/\(∀i,i<es.length->(es.getD i .any).cells.length=k)/\∃c:Nat->Nat->Value,∀i j,i<es.length->j<k->
    x'.w.cell? ⟨b,base+i*k+j,none⟩=some (c i j)/\(c i j).oneCell'=true/\RD ν x' (c i j) ((es.getD i .any).cells.getD j .any)) {v:Value} {d:D} (h:RD ν x v d):RD ν x' v (eS l k es d):=by
 induction h with
 |any v=>exact .any v
 |bool b=>exact .bool b
 |int k n=>exact .int k n
 |str s h=>exact .str s h
 |agg cs ds hl' h1 _ ih=>exact .agg cs _ (by rw[fe];exact hl') (fun i hi=>h1 i (by rwa [fe]at hi)) fun i hi=>by rw[iY];exact ih i (by rwa [fe]at hi)
 |tup cs ds hl' _ ih=>exact .tup cs _ (by rw[fe];exact hl') fun i hi=>by rw[iY];exact ih i (by rwa [fe]at hi)
 |bM=>exact .bM
 |sl a b off len cap k' es' c hlen ha hcap hm hk hn' hc h1 h _=>exact(RD.sl a b off len cap k' es' c hlen ha hcap hm hk hn' hc h1 h).mono hle
 |ref b off k' i o at_ es' c hI hat hk hn' hc h1 h _=>exact(RD.ref b off k' i o at_ es' c hI hat hk hn' hc h1 h).mono hle
 |ptr l' k' i o b base tot at_ hβ hat=>
  simp only[eS];split
  .rename_i hh;obtain⟨rfl,rfl⟩:=hh;obtain⟨o1,o2,c,o3⟩:=ho b base tot hβ;exact .ref b base k' i o at_ es c o1 hat o2 (fun i _=>cH hn i) (fun i j hi hj=>(o3 i j hi hj).1) (fun i j hi hj=>(o3 i j hi hj).2.1) (fun i j hi hj=>(o3 i j hi hj).2.2)
  .exact .ptr l' k' i o b base tot at_ (hle.β _ _ hβ) hat
 |own l' k' i n b base tot cap a hβ ha hcap hm ht=>
  simp only[eS];split
  .rename_i hh;obtain⟨rfl,rfl,hin⟩:=hh;obtain⟨o1,o2,c,o3⟩:=ho b base tot hβ;have hg:∀q,q<n->((es.drop i).take n).getD q .any=es.getD (i+q) .any:=fun q hq=>by
    simp[List.getD,List.getElem?_take,hq]
   have hlen:((es.drop i).take n).length=n:=dH;refine .sl (some a) b (base+i*k') n cap k' _ (fun q j=>c (i+q) j) hlen.symm ?_ hcap hm (fun q hq=>by rw[hg q hq];exact o2 _ ah) (fun q hq=>by rw[hg q hq];exact cH hn _)
    (fun q j hq hj=>?_) (fun q j hq hj=>(o3 (i+q) j ah hj).2.1) (fun q j hq hj=>by rw[hg q hq];exact(o3 (i+q) j ah hj).2.2)
   .by_cases hc0:0<cap
    .right;rw[ha hc0];exact⟨rfl,o1⟩
    .left;apply jM;omega
   .have:=(o3 (i+q) j ah hj).1;rw[<-this];congr 2;rw[Nat.add_mul];omega
  .exact .own l' k' i n b base tot cap a (hle.β _ _ hβ) ha hcap hm ht
 |own0 l' k' i a=>
  simp only[eS];split
  .rename_i hh;simp only[List.take_zero];exact .sl a 0 0 0 0 k [] (fun _ _=>undef) rfl (.inl rfl) (aM _) (Nat.zero_le _) (fun i hi=>ah) (fun i hi=>ah) (fun i j hi=>ah) (fun i j hi=>ah) (fun i j hi=>ah)
  .exact .own0 l' k' i a
 |nilp=>exact .nilp
 |fn fid n cs ds hν hl' _ ih=>exact .fn fid n cs _ hν (by rw[fe];exact hl') fun i hi=>by rw[iY];exact ih i (by rwa [fe]at hi)
 |mp r es' cl ds hI hh hl' _ ih=>exact .mp r es' cl _ (hle.I _ hI) ((hle.lK _ hI).trans hh) (by rw[fe];exact hl') fun i hi=>by rw[iY];exact ih i (by rwa [fe]at hi)
 |bx b at_ ds v hI hc h1 hl' _ ih=>exact .bx b at_ _ v (hle.I _ hI) (gU (hle.lK _ hI) hc) h1 (by rw[fe];exact hl') fun i hi=>by rw[iY];exact ih i (by rwa [fe]at hi)
 |ek fid n cs ds hν hl' _ ih=>exact .ek fid n cs _ hν (by rw[fe];exact hl') fun i hi=>by rw[iY];exact ih i (by rwa [fe]at hi)
 |nilf=>exact .nilf
 |ifc t n v ds hν hnn hl' _ ih=>exact .ifc t n v _ hν hnn (by rw[fe];exact hl') fun i hi=>by rw[iY];exact ih i (by rwa [fe]at hi)
 |ifn=>exact .ifn
 |mpn=>exact .mpn
 |zp a=>exact .zp a
 |im l b base tot hβ=>simp only[eS,fL];exact .im l b base tot (hle.β _ _ hβ)
 |it l b base tot hβ=>exact .it l b base tot (hle.β _ _ hβ)
def wR {J:Src->bI}:∀(ps:List (Nat×Src)) (l:List D),(kr J l ps).length=l.length
 |[],l=>rfl
 |(i,s)::r,l=>by simp only[kr];rw[wR r];simp
def iI.re {P:Program}{x:X}{Q Q':Value->X->Prop}{r:Result Next}(h:iI P x Q r)(hq:∀v x',Q v x'->∃x'',x''.w=x'.w/\Q' v x''):iI P x Q' r:=by
 rcases h with⟨v,x',h1,h2⟩|⟨f',args',h1,h2⟩
 .obtain⟨x'',e,h3⟩:=hq v x' h2;exact .inl ⟨v,x'',by rw[e];exact h1,h3⟩
 .refine .inr ⟨f',args',h1,Calls.mono h2 fun e w' he=>?_⟩
  grind
def Goal.ice {x x':X}{f:Nat->Option bL}{L k n:Nat}{es:List D}{v:Value}(hg:Goal ν x (ij f [L] (cR m L (.buf k es))) L (.own L k 0 n) v x')(hn:aR es=true)(hlen:es.length=n)(hL:x.β L=none)(hfL:f L=none):∃x'',x''.w=x'.w/\Goal ν x f L (.sl k es) v x'':=by
 obtain⟨h1,h2,h3,h4⟩:=hg;have hlk:ij f [L] (cR m L (.buf k es)) L=some (.buf k es):=by simp[ij,cE]
 let x'':X:=⟨x'.w,fun b=>x'.I b\/∃p,x'.β L=some p/\p.1=b,x'.β⟩
 have hle:Le x' x'':=⟨fun _ h=>.inl h,fun _ _=>rfl,fun _ _ h=>h⟩;have ho:∀b base tot,x'.β L=some (b,base,tot)->x''.I b/\(∀i,i<es.length->(es.getD i .any).cells.length=k)/\∃c:Nat->Nat->Value,∀i j,i<es.length->j<k->
   x''.w.cell? ⟨b,base+i*k+j,none⟩=some (c i j)/\(c i j).oneCell'=true/\RD ν x'' (c i j) ((es.getD i .any).cells.getD j .any):=by
  intro b base tot hβ;obtain⟨o1,o2,o3,c,T,fr,o4,o5,o6,o7⟩:=h3.own L _ b base tot hlk hβ;refine⟨.inr ⟨_,hβ,rfl⟩,fun i hi=>(o7 i hi).1,fun i j=>c.getD (base+i*k+j) undef,fun i j hi hj=>⟨?_,((o7 i hi).2 j hj).1,((o7 i hi).2 j hj).2.mono hle⟩⟩;exact cell_of_heap o4 (by have:=iA (tot:=tot) (show i<tot by omega) hj;omega)
 have hrd:RD ν x'' v (.sl k es):=by
  have:=h2.fz (x':=x'') (l:=L) (k:=k) (es:=es) hle hn ho;simpa[eS,hlen,gY]using this
 have hnew:∀b,(∃p,x'.β L=some p/\p.1=b)->x.w.heap.size<=b\/∃l p,x.β l=some p/\p.1=b:=by
  rintro b ⟨p,e1,e2⟩;rcases h1.newβ L p e1 with h|h|⟨l',p',h,h'⟩
  .rw[hL]at h;cases h
  .exact .inl (e2▸h)
  .exact .inr ⟨l',p',h,h'.trans e2⟩
 refine⟨x'',rfl,⟨h1.os,h1.tape,h1.output,h1.size,fun b hb=>.inl (h1.I b hb),h1.lK,h1.β,h1.old,fun b hb=>?_,h1.newβ⟩,hrd,⟨fun l' blk b base tot e1 e2=>?_,fun l1 l2 b base tot base' tot' e1 e2 e3 e4=>?_,fun b hb=>?_,h3.ek,og hle h3.gd⟩,h4⟩
 .rcases hb with hb|hb
  .exact h1.newI b hb
  .exact .inr (hnew b hb)
 .have hne:l'≠L:=by rintro rfl;rw[hfL]at e1;cases e1
  have e1':ij f [L] (cR m L (.buf k es)) l'=some blk:=by simp[ij,hne,e1]
  obtain⟨o1,o2⟩:=h3.own l' blk b base tot e1' e2;refine⟨?_,o2.mono hle rfl⟩;rintro(hb|⟨⟨b',base',tot'⟩,q1,q2⟩)
  .exact o1 hb
  .simp only at q2;subst q2;exact hne (h3.inj l' L b' base tot base' tot' (by rw[e1'];simp) (by rw[hlk];simp) e2 q1)
 .have hn1:∀l,f l≠none->ij f [L] (cR m L (.buf k es)) l≠none:=fun l hl=>by
   have hne:l≠L:=by rintro rfl;exact hl hfL
   simpa[ij,hne]using hl
  exact h3.inj l1 l2 b base tot base' tot' (hn1 _ e1) (hn1 _ e2) e3 e4
 .rcases hb with hb|⟨⟨b',base',tot'⟩,q1,q2⟩
  .exact h3.imm b hb
  .simp only at q2;subst q2;exact h3.ek L _ _ _ q1
def OpX (C:CC)(defs:List (Option Nat))(o:Oper)(i:aG):Prop:=C.op defs o=some i\/(∃n ag p,i=.ldI n ag p/\C.op defs o=some (.ld n ag p))\/(∃k y,i=.appN k y/\C.op defs o=some (.app k (.c .bM) y))\/(∃k z n ps,i=.bslI k z n ps/\C.op defs o=some (.bsl k z n ps))\/∃n ag p,i=.ldU n ag p/\C.op defs o=some (.ld n ag p)
def Bw {o:Oper}{i:aG}(hc:OpX C defs o i)(hncm:i.cN=false)(hΓ:Ok C.P C.ν C.cr Y)(hρ:pM C defs J ev x o.op.operands.toList)(hcst:∀d,J (.c d)=⟨true,d⟩)(hob:i.dE Y J m)(hs:eK C.ν x f)(hag:yQ f m (i.kY J))(hL:x.β L=none)(hfL:f L=none)(hgl:∀g,ev (.global g)=.pointer (some ⟨g,0,none⟩)):
  iI C.P x (Goal C.ν x (ij f (i.wr J L) (i.cr Y J m L)) L (i.val Y J m L)) ((execOp ev o).run C.P x.w):=by
 rcases hc with hc|⟨n,ag,p,rfl,hc⟩|⟨k,y,rfl,hc⟩|⟨k,z,n,ps,rfl,hc⟩|⟨n,ag,p,rfl,hc⟩
 .exact xM hc hncm hΓ hρ hcst hob hs hag hL hgl
 rotate_left 3
 .obtain⟨k1,k2⟩:=hob;have hob':(aG.ld n ag p).dE Y J m:=by
   simp only[aG.dE];cases hd:(J p).d<;>simp only[hd]at k2<;>simp only[uN]
   .exact⟨k1,k2⟩
   .exact⟨k1,k2.1⟩
  have h:=xM (i:=aG.ld n ag p) (L:=L) hc rfl hΓ hρ hcst hob' hs hag hL hgl;exact h
 rotate_left;rotate_left
 .obtain⟨k1,k2,k3⟩:=hob;have hob':(aG.bsl k z n ps).dE Y J m:=⟨k1,k2⟩;have:=xM (L:=L) hc rfl hΓ hρ hcst hob' hs (by simp[aG.kY,yQ]) hL hgl;refine this.re fun v x' hg=>?_
  exact hg.ice k3 (by rw[wR,List.length_replicate]) hL hfL
 rotate_left
 .obtain⟨k1,k2,k3⟩:=hob;have hob':(aG.app k (.c .bM) y).dE Y J m:=by simp only[aG.dE,hcst];exact⟨trivial,k1,k2,k3⟩
  have:=xM (L:=L) hc rfl hΓ hρ hcst hob' hs (by simpa[aG.kY,hcst,dk]using hag) hL hgl;have e1:(aG.appN k y).val Y J m L=(aG.app k (.c .bM) y).val Y J m L:=by simp[aG.val,hcst]
  have e2:(aG.appN k y).wr J L=(aG.app k (.c .bM) y).wr J L:=by simp[aG.wr,hcst,dk]
  have e3:(aG.appN k y).cr Y J m L=(aG.app k (.c .bM) y).cr Y J m L:=by simp[aG.cr,hcst]
  rw[e1,e2,e3];exact this
 .obtain⟨k1,k2⟩:=hob;cases hd:(J p).d<;>simp only[hd]at k2;all_goals
   have hob':(aG.ld n ag p).dE Y J m:=by simp only[aG.dE,hd,uN];exact⟨k1,k2⟩
   have:=xM (L:=L) hc rfl hΓ hρ hcst hob' hs (by simp[aG.kY,hd,dk,yQ]) hL hgl;have e1:(aG.ldI n ag p).val Y J m L=(aG.ld n ag p).val Y J m L:=by simp[aG.val,hd,uc]
   rw[e1];exact this
end
end
section
variable [di]
section
variable {C:CC} {Y:Ctx}
def mY:∀(l:List Nat) (t n:Nat),uJ l t=some n->l[n]? =some t
 |[],t,n,h=>by simp[uJ]at h
 |a::r,t,n,h=>by
  simp only[uJ]at h;split at h
  .grind
  .simp only[cS]at h;obtain⟨k,h1,rfl⟩:=h;simpa using mY r t k h1
def Bd:∀(l:List Nat) (t n:Nat),l.Nodup->l[n]? =some t->uJ l t=some n
 |[],t,n,_,h=>by simp at h
 |a::r,t,0,_,h=>by simp at h;simp[uJ,h]
 |a::r,t,n+1,hn,h=>by
  simp only[List.getElem?_cons_succ]at h;rw[List.nodup_cons]at hn;have:a≠t:=fun e=>hn.1 (e▸List.mem_of_getElem? h)
  simp[uJ,this,Bd r t n hn.2 h]
def xS:∀(l:List (Option Nat)) (t p:Nat),posOf t l=some p->l[p]? =some (some t)
 |[],t,n,h=>by simp[posOf]at h
 |a::r,t,n,h=>by
  simp only[posOf]at h;split at h
  .grind
  .simp only[cS]at h;obtain⟨k,h1,rfl⟩:=h;simpa using xS r t k h1
def xR:∀(l:List (Option Nat)) (t:Nat),posOf t l=none->∀p:Nat,l[p]? ≠some (some t)
 |[],t,h,p=>bg
 |a::r,t,h,p=>by
  simp only[posOf]at h;split at h
  .cases h
  .rename_i e;simp only[Option.map_eq_none_iff]at h;cases p with
   |zero=>simpa using e
   |succ p=>simpa using xR r t h p
structure Spec (C:CC)(ops:List Oper)(l:List GI):Prop where
 len:l.length=ops.length
 op:∀(i:Nat) (o:Oper),ops[i]? =some o->∃g,l[i]? =some g/\OpX C ((ops.map (·.dst)).take i) o g.i/\CC.guard ((ops.map (·.dst)).take i) o.guard=some g.g
 dst:∀(i:Nat) (o:Oper) (d:Nat),ops[i]? =some o->o.dst=some d->d<C.ntmps/\∀p:Nat,p<i->(ops.map (·.dst))[p]? ≠some (some d)
def Dt:∀(ops pre:List Oper) (l lp:List GI),Spec C pre lp->C.ops (pre.map (·.dst)) ops=some l->Spec C (pre++ops) (lp++l)
 |[],pre,l,lp,hp,h=>by simp[CC.ops]at h;subst h;simpa using hp
 |o::r,pre,l,lp,hp,h=>by
  simp only[CC.ops]at h;split at h
  .rename_i i g l' h1 h2 h3;split at h
   .rename_i hd;simp only[aP]at h;subst h;have hp':Spec C (pre++[o]) (lp++[⟨i,g⟩]):=by
     have hl:=hp.len;refine⟨by simp[hl],fun j o' ho'=>?_,fun j o' d ho' hd'=>?_⟩
     .rw[List.getElem?_append]at ho';split at ho'
      .rename_i hj;obtain⟨g',a1,a2,a3⟩:=hp.op j o' ho';have e:((pre++[o]).map (·.dst)).take j=(pre.map (·.dst)).take j:=by rw[List.map_append,List.take_append_of_le_length dH]
       rw[e];exact⟨g',by rw[List.getElem?_append_left ah];exact a1,a2,a3⟩
      .rename_i hj;obtain rfl:j=pre.length:=by
        have:=(List.getElem?_eq_some_iff.1 ho').1;simp at this;omega
       simp at ho';subst ho';have e:((pre++[o]).map (·.dst)).take pre.length=pre.map (·.dst):=bg;rw[e];exact⟨⟨i,g⟩,by rw[<-hl];simp,.inl h1,h2⟩
     .rw[List.getElem?_append]at ho';split at ho'
      .rename_i hj;obtain⟨a1,a2⟩:=hp.dst j o' d ho' hd';refine⟨a1,fun p hpj=>?_⟩;rw[List.map_append,List.getElem?_append_left dH];exact a2 p hpj
      .rename_i hj;obtain rfl:j=pre.length:=by
        have:=(List.getElem?_eq_some_iff.1 ho').1;simp at this;omega
       simp at ho';subst ho';simp only[hd',Option.all_some,br,bU,cW,List.contains_eq_mem,dn]at hd;refine⟨hd.1,fun p hpj=>?_⟩;rw[List.map_append,List.getElem?_append_left dH];exact fun e=>hd.2 (List.mem_of_getElem? e)
    have:=Dt r (pre++[o]) l' (lp++[⟨i,g⟩]) hp' (by simpa using h3);simpa using this
   .cases h
  .cases h
def Spec.start {ops:List Oper}{l:List GI}(h:C.ops [] ops=some l):Spec C ops l:=by
 have:=Dt (C:=C) ops [] l [] ⟨rfl,fun i o h=>by simp at h,fun i o d h=>by simp at h⟩ (by simpa using h);simpa using this
theorem Ox (i:aG):i.VH=i\/∃k y,i=.app k (.c .bM) y/\i.VH=.appN k y:=by
 unfold aG.VH
 grind
def xm (bs:List Nat)(l0:List GI):∀(l:List GI) (p i:Nat) (g:GI),l[i]? =some g->∃g',(kM bs l0 p l)[i]? =some g'/\g'.g=g.g/\(g'.i=g.i\/(∃n ag x,g.i=.ld n ag x/\g'.i=.ldI n ag x)\/(∃k y,g.i=.app k (.c .bM) y/\g'.i=.appN k y)\/(∃k z n ps,g.i=.bsl k z n ps/\g'.i=.bslI k z n ps)\/∃n ag x,g.i=.ld n ag x/\g'.i=.ldU n ag x)
 |[],p,i,g,h=>by simp at h
 |a::r,p,0,g,h=>by
  grind [kM,Ox]
 |a::r,p,i+1,g,h=>by
  simp only[kM,List.getElem?_cons_succ]at h⊢;exact xm bs l0 r (p+1) i g h
def xn (bs:List Nat)(l0:List GI):∀(l:List GI) (p:Nat),(kM bs l0 p l).length=l.length
 |[],p=>rfl
 |a::r,p=>by simp only[kM,aT,xn bs l0 r (p+1)]
theorem Spec.kM {ops:List Oper}{l:List GI}(bs:List Nat)(h:Spec C ops l):Spec C ops (kM bs l 0 l):=by
 refine⟨by rw[xn];exact h.len,fun i o ho=>?_,h.dst⟩;obtain⟨g,h1,h2,h3⟩:=h.op i o ho;obtain⟨g',a1,a2,a3⟩:=xm bs l l 0 i g h1;refine⟨g',a1, ?_,by rw[a2];exact h3⟩;rcases a3 with e|⟨n,ag,x,e1,e2⟩|⟨k,y,e1,e2⟩|⟨k,z,n,ps,e1,e2⟩|⟨n,ag,x,e1,e2⟩
 .rw[e];exact h2
 .rw[e1]at h2;rcases h2 with h2|⟨n',ag',p',h4,_⟩|⟨k',y',h4,_⟩|⟨_,_,_,_,h4,_⟩|⟨_,_,_,h4,_⟩
  .exact .inr (.inl ⟨n,ag,x,e2,h2⟩)
  all_goals cases h4
 .rw[e1]at h2;rcases h2 with h2|⟨n',ag',p',h4,_⟩|⟨k',y',h4,_⟩|⟨_,_,_,_,h4,_⟩|⟨_,_,_,h4,_⟩
  .exact .inr (.inr (.inl ⟨k,y,e2,h2⟩))
  all_goals cases h4
 .rw[e1]at h2;rcases h2 with h2|⟨n',ag',p',h4,_⟩|⟨k',y',h4,_⟩|⟨_,_,_,_,h4,_⟩|⟨_,_,_,h4,_⟩
  .exact .inr (.inr (.inr (.inl ⟨k,z,n,ps,e2,h2⟩)))
  all_goals cases h4
 .rw[e1]at h2;rcases h2 with h2|⟨n',ag',p',h4,_⟩|⟨k',y',h4,_⟩|⟨_,_,_,_,h4,_⟩|⟨_,_,_,h4,_⟩
  .exact .inr (.inr (.inr (.inr ⟨n,ag,x,e2,h2⟩)))
  all_goals cases h4
def Spec.distinct {ops:List Oper}{l:List GI}(h:Spec C ops l){i p d:Nat}(hi:(ops.map (·.dst))[i]? =some (some d))(hp:(ops.map (·.dst))[p]? =some (some d)):p=i:=by
 rw[List.getElem?_map,cS]at hi hp;obtain⟨oi,hi1,hi2⟩:=hi;obtain⟨op,hp1,hp2⟩:=hp;rcases Nat.lt_trichotomy p i with h1|h1|h1
 .exact absurd (by rw[List.getElem?_map,hp1,Option.map_some,hp2]) ((h.dst i oi d hi1 hi2).2 p h1)
 .exact h1
 .exact absurd (by rw[List.getElem?_map,hi1,Option.map_some,hi2]) ((h.dst p op d hp1 hp2).2 i h1)
structure oM (C:CC)(env:List bI)(DD:List (Option Nat))(VS:List bI)(D:Nat->Prop)(a:Act)(x:X):Prop where
 val:∀p t:Nat,D p->DD[p]? =some (some t)->(VS.getD p .un).ok=true->RD C.ν x (a.tmps.getD t undef) (VS.getD p .un).d
 und:∀p t:Nat,D p->DD[p]? =some (some t)->(VS.getD p .un).ok=false->a.tmps.getD t undef=undef
 old:∀n t:Nat,C.slots[n]? =some t->(∀p,D p->DD[p]? ≠some (some t))->(env.getD n .un).ok=true->RD C.ν x (a.tmps.getD t undef) (env.getD n .un).d
 size:a.tmps.size=C.ntmps
 defers:a.defers=[]
def NC (a:Act)(d:Nat)(v:Value)(t:Nat)(h:d<a.tmps.size):(a.put (some d) v).tmps.getD t undef=if t=d then v else a.tmps.getD t undef:=by
 simp only[Act.put,Array.getD_eq_getD_getElem?]
 grind
def oM.put {env:List bI}{DD:List (Option Nat)}{VS:List bI}{D D':Nat->Prop}{a:Act}{x x':X}{i:Nat}{dst:Option Nat}{v:Value}(h:oM C env DD VS D a x)(hle:Le x x')(hd:DD[i]? =some dst)
  (hdst:∀t,dst=some t->t<C.ntmps/\∀p,p≠i->DD[p]? ≠some (some t)) (hv:(VS.getD i .un).ok=true->RD C.ν x' v (VS.getD i .un).d) (hu:(VS.getD i .un).ok=false->v=undef)
  (hD:∀p,D' p↔D p\/p=i):oM C env DD VS D' (a.put dst v) x':=by
 cases dst with
 |none=>
  have hne:∀p t,DD[p]? =some (some t)->p≠i:=fun p t e e'=>by subst e';rw[hd]at e;simp at e
  refine⟨fun p t hp e ho=>?_,fun p t hp e ho=>?_,fun n t hn hp ho=>?_,h.size,h.defers⟩
  .exact(h.val p t (((hD p).1 hp).resolve_right (hne p t e)) e ho).mono hle
  .exact h.und p t (((hD p).1 hp).resolve_right (hne p t e)) e ho
  .exact(h.old n t hn (fun p hp'=>hp p ((hD p).2 (.inl hp'))) ho).mono hle
 |some d=>
  obtain⟨h1,h2⟩:=hdst d rfl;have hg:=NC a d v (h:=by rw[h.size];exact h1);refine⟨fun p t hp e ho=>?_,fun p t hp e ho=>?_,fun n t hn hp ho=>?_,by simp[Act.put,h.size],h.defers⟩
  .by_cases hpi:p=i
   .subst hpi;rw[hd]at e;simp only[aP]at e;subst e;rw[hg,ay rfl];exact hv ho
   .have:t≠d:=fun e'=>h2 p hpi (e'▸e)
    rw[hg,aj this];exact(h.val p t (((hD p).1 hp).resolve_right hpi) e ho).mono hle
  .by_cases hpi:p=i
   .subst hpi;rw[hd]at e;simp only[aP]at e;subst e;rw[hg,ay rfl];exact hu ho
   .have:t≠d:=fun e'=>h2 p hpi (e'▸e)
    rw[hg,aj this];exact h.und p t (((hD p).1 hp).resolve_right hpi) e ho
  .have:t≠d:=fun e'=>hp i ((hD i).2 (.inr rfl)) (by rw[hd,e'])
   rw[hg,aj this];exact(h.old n t hn (fun p hp'=>hp p ((hD p).2 (.inl hp'))) ho).mono hle
def getD_take {α:Type}(l:List α)(i p:Nat)(d:α)(h:p<i):(l.take i).getD p d=l.getD p d:=by
 simp[List.getD,List.getElem?_take,h]
def oM.rho {env:List bI}{DD:List (Option Nat)}{VS:List bI}{D:Nat->Prop}{a:Act}{x:X}{i:Nat}{os:List Operand}(h:oM C env DD VS D a x)
  (hr:∀t p,Operand.tmp t∈os->DD[p]? =some (some t)->(p<i->D p)/\(i<=p->¬D p)):pM C (DD.take i) (Src.ev env (VS.take i)) a.eval x os:=by
 intro o ho s hs hok;cases o with
 |tmp t=>
  simp only[CC.src]at hs;split at hs
  .rename_i p hp;simp only[aP]at hs;subst hs;have hp1:=xS _ _ _ hp;rw[List.getElem?_take]at hp1;split at hp1
   .rename_i hpi;simp only[Src.ev]at hok⊢;rw[getD_take _ _ _ _ hpi]at hok⊢;exact h.val p t ((hr t p ho hp1).1 hpi) hp1 hok
   .cases hp1
  .rename_i hp;simp only[cS]at hs;obtain⟨n,h1,rfl⟩:=hs;simp only[Src.ev]at hok⊢;refine h.old n t (mY _ _ _ h1) (fun p hp' e=>?_) hok;by_cases hpi:p<i
   .exact xR _ _ hp p (by rw[List.getElem?_take,ay hpi];exact e)
   .exact(hr t p ho e).2 ah hp'
 |const v=>
  simp only[CC.src,cS]at hs;obtain⟨d,h1,rfl⟩:=hs;exact k9 v d h1
 |func f=>
  simp only[CC.src,cS]at hs;obtain⟨n,h1,rfl⟩:=hs;exact .fn f n #[] [] h1 rfl (fun i hi=>by simp at hi)
 |global g=>simp[CC.src]at hs
def Mu {vs:List bI}{i:aG}{g:Option (Nat×Bool)}(h:ET vs i g):uI vs g:=by
 cases g with
 |none=>trivial
 |some jw=>exact h.2
def iF {env:List bI}{ops:Array Oper}{VS:List bI}{D:Nat->Prop}{a:Act}{x:X}{i:Nat}{o:Oper}{g:GI}(h:oM C env (ops.toList.map (·.dst)) VS D a x)
  (hg:CC.guard ((ops.toList.map (·.dst)).take i) o.guard=some g.g) (hD:∀j w,o.guard=some (j,w)->j<i->D j) (hgok:uI (VS.take i) g.g):Region.wanted o (yielded ops a.tmps)=flag (VS.take i) g.g:=by
 unfold Region.wanted;cases hog:o.guard with
 |none=>simp only[hog,CC.guard,aP]at hg;simp[<-hg,flag]
 |some jw=>
  obtain⟨j,w⟩:=jw;simp only[hog,CC.guard]at hg;split at hg
  .rename_i t hj;simp only[aP]at hg;rw[<-hg]at hgok⊢;rw[List.getElem?_take]at hj;split at hj
   .rename_i hji;have hDj:=hD j w hog hji;have hy:(ops[j]?).bind (·.dst)=some t:=by
     rw[List.getElem?_map,Array.getElem?_toList]at hj;cases ho:ops[j]? with
     |none=>simp[ho]at hj
     |some oj=>simpa[ho]using hj
    simp only[yielded,hy,Option.bind_some,flag,uI]at hgok⊢;rw[getD_take _ _ _ _ hji]at hgok⊢;cases hok:(VS.getD j .un).ok with
    |false=>
     have:=h.und j t hDj hj hok;simp only[Array.getD_eq_getD_getElem?]at this;cases ht:a.tmps[t]? with
     |none=>simp
     |some v=>simp only[ht,Option.getD_some]at this;subst this;simp[undef]
    |true=>
     have hb:=hgok hok;have hv:=h.val j t hDj hj hok;cases hd:(VS.getD j .un).d<;>simp only[hd,Go.Abs.D.isBool]at hb<;>try cases hb
     rename_i b;rw[hd]at hv;have hv:=hv.iW;simp only[Array.getD_eq_getD_getElem?]at hv;cases ht:a.tmps[t]? with
     |none=>simp[ht,undef]at hv
     |some v=>simp only[ht,Option.getD_some]at hv;subst hv;simp
   .cases hj
  .cases hg
end
end
section
variable [di]
section
variable {C:CC} {Y:Ctx} {J:Src->bI} {m:List (Nat×bL)} {L:Nat}
theorem sU {i:aG}{l:Nat}(h:l∉i.wr J L):look (i.cr Y J m L) l=look m l:=by
 cases i<;>simp only[aG.wr,cM,dI,or_false,not_or]at h<;>simp only[aG.cr]
 case box=>rw[cE,aj h]
 case mkB=>rw[cE,aj h]
 case mkM=>rw[cE,aj h]
 case upM x k v=>
  split
  .rename_i hd;rw[hd]at h;rw[cE,aj (by simpa[xo]using h)]
  .rfl
 case bsl=>rw[cE,aj h]
 case mks=>rw[cE,aj h]
 case s2b x=>split<;>first|rw[cE,aj h]|rfl
 case appN k y=>rw[cE,aj h]
 case rng x=>split<;>first|rw[cE,aj h]|rfl
 case st n p v=>
  split
  .rename_i hd;rw[hd]at h;rw[cE,aj (by simpa[dk]using h)]
  .rfl
 case app k x y=>
  split
  .rename_i hd;rw[hd]at h;rw[cE,aj h.1,fo,aj (by simpa[dk]using h.2)]
  .rw[cE,aj h.1]
 case au x=>
  grind [cE,dk]
 case callF n r args sh=>
  split
  .rename_i hd;rw[hd]at h;rw[cE,aj (by simpa[dk]using h)]
  .rfl
theorem j9 {i:aG}(h:i.calm=true){l:Nat}(hl:l∈i.wr J L):l=L:=by
 cases i<;>simp_all[aG.calm,aG.wr]
theorem gJ {l k n:Nat}(h:eM m l k n):look m l≠none:=by
 intro e;simp[eM,e]at h
theorem FM {i:aG}(h:i.dE Y J m){l:Nat}(hl:l∈i.wr J L):l=L\/look m l≠none:=by
 cases i<;>simp only[aG.wr,cM,dI,or_false]at hl<;>first
  |exact .inl hl
  |exact hl.elim
  |skip
 case upM x k v=>
  right;obtain⟨l0,kvs,hd,hl0,_⟩:=p0 h.2.2.2.1;simp only[hd,xo,bJ]at hl;subst hl;rw[hl0];simp
 case st n p v=>
  right;obtain⟨_,_,_,h4⟩:=h;cases hd:(J p).d<;>simp only[hd,dk,bJ]at h4 hl;subst hl;exact gJ h4.1
 case app k x y=>
  rcases hl with hl|hl
  .exact .inl hl
  .right;obtain⟨_,_,_,h4⟩:=h;cases hd:(J x).d<;>simp only[hd,dk,bJ,dI]at h4 hl;subst hl;exact gJ h4.2.1
 case au x=>
  right;obtain⟨_,h4⟩:=h;cases hd:(J x).d<;>simp only[hd,dk,bJ,dI]at h4 hl;subst hl;intro e;simp[e]at h4
 case callF n r args sh=>
  right;obtain⟨_,_,_,h4⟩:=h;cases hd:(J r).d<;>simp only[hd,dk,bJ,dI]at h4 hl;subst hl;exact gJ h4.2.2.1
def pU {i:aG}(h:i.calm=true\/i.dE Y J m){l:Nat}(hl:look (i.cr Y J m L) l≠none):look m l≠none\/l=L:=by
 grind [j9,FM,sU]
omit [di]in
theorem DA {i:aG}(h:i.pure=true):i.cr Y J m L=m:=by
 cases i<;>simp_all[aG.pure,aG.cr]
omit [di]in
theorem Kt {i:aG}(h:i.pure=true):i.calm=true:=by
 cases i<;>simp_all[aG.pure,aG.calm]
def Nz {i:aG}(h:i.pure=true):i.kY J=some []:=by
 cases i<;>simp_all[aG.pure,aG.kY]
def JT {i:aG}(h:i.free=true):i.calm=true:=by
 cases i<;>simp_all[aG.free,aG.calm,aG.pure]
def P4 {i:aG}(h:i.free=true):i.wr J L=[]:=by
 cases i<;>simp_all[aG.free,aG.wr,aG.pure]
def Mq {i:aG}(h:i.free=true):i.cr Y J m L=m:=by
 cases i<;>simp_all[aG.free,aG.cr,aG.pure]
def zQ {sh:List Sh}(h:sh.all Sh.VY=true):∀{d:D},fM m sh d->d.aZ=true:=by
 have hL:∀(sh:List Sh) (ds:List D),sh.all Sh.VY=true->js m sh ds->aR ds=true:=by
  intro sh;induction sh with
  |nil=>intro ds _ h;simpa[js]using h
  |cons s r ih=>
   intro ds h ho;cases ds with
   |nil=>rfl
   |cons d ds=>
    grind [js,Sh.VY,aR,gH]
 intro d ho;cases sh with
 |nil=>simpa[fM]using ho
 |cons s r=>
  have hs:s=.a:=by simp only[List.all_cons,br]at h;cases s<;>simp_all[Sh.VY]
  cases d<;>simp only[fM]at ho<;>first
   |(subst hs;simpa[gH]using ho)
   |(rw[D.p7];exact hL _ _ h ho)
def tw:∀{ss:List (List Sh)}{ds:List D},ss.all (fun s=>s.all Sh.VY)=true->iB m ss ds->aR ds=true
 |ss,[],_,_=>by simp[aR]
 |[],d::r,h,ho=>by
  simp only[iB]at ho;simp only[aR,br];exact⟨zQ (sh:=[.a]) rfl ho.1,tw (ss:=[]) rfl ho.2⟩
 |s::ss,d::r,h,ho=>by
  simp only[iB]at ho;simp only[List.all_cons,br]at h;simp only[aR,br];exact⟨zQ h.1 ho.1,tw h.2 ho.2⟩
def Mr {i:aG}(h:i.free=true)(ho:i.dE Y J m):i.kY J=some []:=by
 cases i<;>simp only[aG.free]at h<;>try(exact Nz h)
 simp only[aG.kY,tw h ho.2.1,cond_true]
def xq {i:aG}(h:i.ja=true):i.calm=true:=by
 cases i<;>simp_all[aG.ja,aG.calm]
def J7 {i:aG}(h:i.ja=true):i.kY J=some []:=by
 cases i<;>simp_all[aG.ja,aG.kY]
theorem sV {k:Nat}{d:D}(h:wP m k d){l:Nat}(hl:l∈dk d):look m l≠none:=by
 cases d<;>simp only[dk,bJ,dI,wP]at h hl;subst hl;exact gJ h.2
def Bt {i:aG}(h:i.dE Y J m){ls:List Nat}(hls:i.kY J=some ls){l:Nat}(hl:l∈ls):look m l≠none:=by
 cases i<;>simp only[aG.kY,aP,reduceCtorEq]at hls<;>first
  |(subst hls;exact absurd hl dI)
  |skip
 case upM x k v=>
  subst hls;obtain⟨l0,kvs,hd,hl0,_⟩:=p0 h.2.2.2.1;simp only[hd,xo,bJ]at hl;subst hl;rw[hl0];simp
 case lkM z x k=>
  subst hls;obtain⟨l0,kvs,hd,hl0,_⟩:=p0 h.2.2.1;simp only[hd,xo,bJ]at hl;subst hl;rw[hl0];simp
 case ldU n ag p=>
  subst hls;obtain⟨_,h4⟩:=h;cases hd:(J p).d<;>simp only[hd,dk,bJ,dI]at h4 hl;subst hl;exact gJ h4.1.1
 case ld n ag p=>
  subst hls;obtain⟨_,h4⟩:=h;cases hd:(J p).d<;>simp only[hd,dk,bJ,dI,uN]at h4 hl;subst hl;exact gJ h4.1
 case st n p v=>
  subst hls;obtain⟨_,_,_,h4⟩:=h;cases hd:(J p).d<;>simp only[hd,dk,bJ]at h4 hl;subst hl;exact gJ h4.1
 case b2s x=>
  subst hls;exact sV h.2.2.1 hl
 case app k x y=>
  subst hls;obtain⟨_,_,h3,h4⟩:=h
  grind [dk,gJ,sV]
 case appN k y=>
  subst hls;exact sV h.2.1 hl
 case au x=>
  subst hls;obtain⟨_,h4⟩:=h;cases hd:(J x).d<;>simp only[hd,dk,bJ,dI]at h4 hl;subst hl;intro e;simp[e]at h4
 case call f args sh=>
  cases hn:aR (gV J args)<;>simp only[hn,cond_true,cond_false,aP,reduceCtorEq]at hls;subst hls;exact absurd hl bg
 case callv f args sh=>
  grind
 case callF n r args sh=>
  subst hls;obtain⟨_,_,_,h4⟩:=h;cases hd:(J r).d<;>simp only[hd,dk,bJ,dI]at h4 hl;subst hl;exact gJ h4.2.2.1
omit [di]in
theorem tE {draw:Bool}{i:aG}{g:Option (Nat×Bool)}{r:List GI}{env vs:List bI}{st:St}{K:List bI->St->Prop}(h:i.cN=false)(hf:i.jQ draw g=true):
  ew Y draw (⟨i,g⟩::r) env vs st K=(uI vs g/\(flag vs g=true->i.dE Y (Src.ev env vs) st.m/\
     ew Y draw r env (vs++[⟨true,i.val Y (Src.ev env vs) st.m (st.nx+vs.length)⟩]) {st with m:=i.cr Y (Src.ev env vs) st.m (st.nx+vs.length)} K)/\
    (flag vs g=false->ew Y draw r env (vs++[⟨false,.any⟩]) st K)):=by
 cases i<;>first
  |(simp[aG.cN]at h;done)
  |(simp only[ew];rw[ay hf])
omit [di]in
theorem jt {draw:Bool}{i:aG}{g:Option (Nat×Bool)}{r:List GI}{env vs:List bI}{st:St}{K:List bI->St->Prop}(h:i.cN=false)(hf:i.jQ draw g=false):
  ew Y draw (⟨i,g⟩::r) env vs st K=(ET vs i g/\(flag vs g=true->i.dE Y (Src.ev env vs) st.m)/\
   ((flag vs g=true->i.zh draw (Src.ev env vs))->∃d,(flag vs g=true->i.val Y (Src.ev env vs) st.m (st.nx+vs.length)=d)/\
     ew Y draw r env (vs++[⟨flag vs g,d⟩]) {st with m:=i.cr Y (Src.ev env vs) st.m (st.nx+vs.length)} K)):=by
 cases i<;>first
  |(simp[aG.cN]at h;done)
  |(simp only[ew];rw[aj (by rw[hf];simp)])
def RD.Rq {ν:List (Nat×Nat)}{x:X}{v:Value}{d:D}(h:RD ν x v d):(∀k es,d=.sl k es->es.length<=9223372036854775807)/\(∀l k i n,d=.own l k i n->n<=9223372036854775807)/\(∀s,d=.str s->s.length<=9223372036854775807):=by
 cases h<;>refine⟨?_, ?_, ?_⟩<;>intros<;>simp_all[maxLen]<;>omega
def E3 {i:aG}{draw:Bool}(h:∀s,(i=.len s\/i=.lenS s)->(draw=true->s.xf=true)->(J s).ok=true->∃ν x v,RD ν x v (J s).d):i.zh draw J:=by
 cases i<;>simp only[aG.zh]
 case len s=>
  cases hb:(draw&& !s.xf)<;>simp only[cond_true,cond_false];intro hok;obtain⟨ν,x,v,hr⟩:=h s (.inl rfl) (fun hd=>by simpa[hd]using hb) hok;obtain⟨a1,a2,a3⟩:=hr.Rq
  grind
 case lenS s=>
  cases hb:(draw&& !s.xf)<;>simp only[cond_true,cond_false];intro hok;obtain⟨ν,x,v,hr⟩:=h s (.inr rfl) (fun hd=>by simpa[hd]using hb) hok;obtain⟨a1,a2,a3⟩:=hr.Rq
  grind
def FN {defs:List (Option Nat)}{o:Oper}{s:Src}(hc:C.op defs o=some (.len s)\/C.op defs o=some (.lenS s)):∃p∈o.op.operands.toList,C.src defs p=some s:=by
 cases ho:o.op with
 |call c=>
  obtain⟨callee,args,argTypes⟩:=c;cases callee with
  |builtin bu=>
   cases bu with
   |len=>
    simp only[CC.op,ho]at hc;split at hc
    .rename_i p t hargs htys;refine⟨p,by simp[Op.operands,Call.operands,hargs], ?_⟩;split at hc<;>simp_all
    .simp at hc
   |min=>simp only[CC.op,ho]at hc;(repeat' split at hc)<;>simp_all
   |append=>simp only[CC.op,ho]at hc;(repeat' split at hc)<;>simp_all
   |_=>simp[CC.op,ho]at hc
  |value f=>
   grind [CC.op]
  |invoke r n=>simp only[CC.op,ho]at hc;(repeat' split at hc)<;>simp at hc
 |makeFunc fn fst caps=>cases fn<;>simp only[CC.op,ho]at hc<;>(repeat' split at hc)<;>simp_all
 |next it b=>cases b<;>simp[CC.op,ho]at hc
 |typeAssert p xt t ok=>cases ok<;>simp only[CC.op,ho]at hc<;>(try(repeat' split at hc))<;>simp at hc
 |lookup t p q ok=>
  cases ok with
  |true=>simp only[CC.op,ho]at hc;(repeat' split at hc)<;>simp_all
  |false=>simp only[CC.op,ho]at hc;(repeat' split at hc)<;>simp_all
 |makeMap t r=>cases r<;>simp only[CC.op,ho]at hc<;>(try(repeat' split at hc))<;>simp_all
 |_=>
  simp only[CC.op,ho]at hc
  (try(repeat' split at hc))<;>simp at hc
def US {defs:List (Option Nat)}{o:Oper}{f:Nat}{ss:List Src}{chk:List (Nat×Nat×Bool×Src)}(hc:C.op defs o=some (.callL f ss chk)):False:=by
 cases ho:o.op with
 |call c=>
  obtain⟨callee,args,argTypes⟩:=c;cases callee with
  |invoke r n=>simp only[CC.op,ho]at hc;(repeat' split at hc)<;>simp at hc
  |builtin b=>grind [CC.op]
  |value v=>grind [CC.op]
 |makeFunc fn fst caps=>cases fn<;>simp only[CC.op,ho]at hc<;>(repeat' split at hc)<;>simp_all
 |next it b=>cases b<;>simp[CC.op,ho]at hc
 |typeAssert p xt t ok=>cases ok<;>simp only[CC.op,ho]at hc<;>(try(repeat' split at hc))<;>simp at hc
 |lookup t p q ok=>
  cases ok with
  |true=>simp only[CC.op,ho]at hc;(repeat' split at hc)<;>simp_all
  |false=>simp only[CC.op,ho]at hc;(repeat' split at hc)<;>simp_all
 |makeMap t r=>cases r<;>simp only[CC.op,ho]at hc<;>(try(repeat' split at hc))<;>simp_all
 |_=>
  simp only[CC.op,ho]at hc
  (try(repeat' split at hc))<;>simp at hc
def Bx {defs:List (Option Nat)}{o:Oper}{n:Nat}{ss:List Src}(hc:C.op defs o=some (.callM n ss)):
  ∃fid args tys,o.op=.call {callee:=.value (.func fid),args,argTypes:=tys}/\dp C.ν fid=some n/\C.cr.contains (2*n)=true/\C.rm defs args.toList=some ss:=by
 cases ho:o.op with
 |call c=>
  obtain⟨callee,args,argTypes⟩:=c;cases callee with
  |invoke r n=>simp only[CC.op,ho]at hc;(repeat' split at hc)<;>simp at hc
  |builtin b=>grind [CC.op]
  |value v=>grind [CC.op]
 |makeFunc fn fst caps=>cases fn<;>simp only[CC.op,ho]at hc<;>(repeat' split at hc)<;>simp_all
 |next it b=>cases b<;>simp[CC.op,ho]at hc
 |typeAssert p xt t ok=>cases ok<;>simp only[CC.op,ho]at hc<;>(try(repeat' split at hc))<;>simp at hc
 |lookup t p q ok=>
  cases ok with
  |true=>simp only[CC.op,ho]at hc;(repeat' split at hc)<;>simp_all
  |false=>simp only[CC.op,ho]at hc;(repeat' split at hc)<;>simp_all
 |makeMap t r=>cases r<;>simp only[CC.op,ho]at hc<;>(try(repeat' split at hc))<;>simp_all
 |_=>
  simp only[CC.op,ho]at hc
  (try(repeat' split at hc))<;>simp at hc
def y1 {defs:List (Option Nat)}{o:Oper}{fs:Src}{ss:List Src}(hc:C.op defs o=some (.callvM fs ss)):
  ∃t args tys,o.op=.call {callee:=.value (.tmp t),args,argTypes:=tys}/\C.src defs (.tmp t)=some fs/\C.rm defs args.toList=some ss:=by
 cases ho:o.op with
 |call c=>
  obtain⟨callee,args,argTypes⟩:=c;cases callee with
  |invoke r n=>simp only[CC.op,ho]at hc;(repeat' split at hc)<;>simp at hc
  |builtin b=>grind [CC.op]
  |value v=>grind [CC.op]
 |makeFunc fn fst caps=>cases fn<;>simp only[CC.op,ho]at hc<;>(repeat' split at hc)<;>simp_all
 |next it b=>cases b<;>simp[CC.op,ho]at hc
 |typeAssert p xt t ok=>cases ok<;>simp only[CC.op,ho]at hc<;>(try(repeat' split at hc))<;>simp at hc
 |lookup t p q ok=>
  cases ok with
  |true=>simp only[CC.op,ho]at hc;(repeat' split at hc)<;>simp_all
  |false=>simp only[CC.op,ho]at hc;(repeat' split at hc)<;>simp_all
 |makeMap t r=>cases r<;>simp only[CC.op,ho]at hc<;>(try(repeat' split at hc))<;>simp_all
 |_=>
  simp only[CC.op,ho]at hc
  (try(repeat' split at hc))<;>simp at hc
def Dp {x:X}{defs:List (Option Nat)}{ev:Operand->Value}{o:Oper}{n:Nat}{ss:List Src}{st:St}{K:D->St->Prop}(hcst:∀d,J (.c d)=⟨true,d⟩)(hΓ:Ok C.P C.ν C.cr Y)
  (hc:C.op defs o=some (.callM n ss)) (hρ:pM C defs J ev x o.op.operands.toList) (hok:sH J ss) (hs:eK C.ν x (look st.m)) (hfr:ez st x) (htr:Y.tr n (gV J ss) st K):
  iI C.P x (fun v x'=>∃d st',K d st'/\Step x x'/\RD C.ν x' v d/\eK C.ν x' (look st'.m)/\ez st' x') ((execOp ev o).run C.P x.w):=by
 obtain⟨fid,args,tys,ho,h1,h3,h2⟩:=Bx hc;have hv:=hρ (.func fid) (by simp[ho,Op.operands,Call.operands]) (.c (.fn n [])) (by simp[CC.src,h1]) (by rw[hcst]);rw[hcst]at hv;obtain⟨s1,s2,s3⟩:=gM hρ _ _ (fun o' ho'=>by simp only[ho,Op.operands,Call.operands];simp at ho'⊢;exact .inr ho') h2 hok;generalize hep:ev (.func fid)=vf at hv;cases hv with
 |ek=>exact absurd (hΓ.small _ _ h1) ah
 |mp=>exact absurd (hΓ.small _ _ h1) ah
 |bx=>exact absurd (hΓ.small _ _ h1) ah
 |ifc=>exact absurd (hΓ.small _ _ h1) ah
 |ifn=>exact absurd (hΓ.small _ _ h1) ah
 |mpn=>exact absurd (hΓ.small _ _ h1) ah
 |zp=>exact absurd (hΓ.small _ _ h1) ah
 |fn fid' _ cs _ hν hl _=>
  have hcs:cs=#[]:=by apply Array.ext';simpa using hl
  subst hcs;have hrun:(execOp ev o).run C.P x.w=(callFunc fid' (args.map ev)).run C.P x.w:=by
   simp[execOp,ho,resolve,Deferred.ofValue,invoke,hep]
  rw[hrun];refine hΓ.cr fid' n hν x _ (gV J ss) st K (by simp;simpa using s2.symm) (fun i hi=>?_) hs hfr htr;have:=s3 i hi
  rwa [<-Array.toList_map,cB]at this
def Qu {x:X}{defs:List (Option Nat)}{ev:Operand->Value}{o:Oper}{s:Src}{ng:Bool}(hcst:∀d,J (.c d)=⟨true,d⟩)
  (hc:C.op defs o=some (.isNl s ng)) (hρ:pM C defs J ev x o.op.operands.toList) (hok:(J s).ok=true) (hsl:slB (J s).d):
  ∃b,nlB (J s).d b/\(execOp ev o).run C.P x.w=.ok (.value (.bool (bif ng then !b else b))) x.w:=by
 obtain⟨t,p,q,u,e,ho,h1,h2,hu⟩:∃t p q u e,o.op=.binOp (if ng then .neq else .eql) t p q u/\C.src defs p=some s/\C.src defs q=some (.c .bM)/\C.P.underlying t=some (.slice e):=by
  cases ho:o.op with
  |binOp op t p q u=>
   simp only[CC.op,ho]at hc
   (repeat' split at hc)<;>simp only[aP,reduceCtorEq,aG.isNl.injEq]at hc
   all_goals
    obtain⟨rfl,rfl⟩:=hc;exact⟨t,p,q,u,_,rfl,by assumption,by assumption,by assumption⟩
  |call c=>
   obtain⟨callee,args,argTypes⟩:=c;cases callee with
   |invoke r n=>simp only[CC.op,ho]at hc;(repeat' split at hc)<;>simp at hc
   |builtin b=>grind [CC.op]
   |value v=>grind [CC.op]
  |typeAssert p xt t ok=>cases ok<;>simp only[CC.op,ho]at hc<;>(try(repeat' split at hc))<;>simp at hc
  |makeFunc fn fst caps=>cases fn<;>simp only[CC.op,ho]at hc<;>(repeat' split at hc)<;>simp_all
  |next it b=>cases b<;>simp[CC.op,ho]at hc
  |lookup t p q ok=>
   cases ok with
   |true=>simp only[CC.op,ho]at hc;(repeat' split at hc)<;>simp_all
   |false=>simp only[CC.op,ho]at hc;(repeat' split at hc)<;>simp_all
  |makeMap t r=>cases r<;>simp only[CC.op,ho]at hc<;>(try(repeat' split at hc))<;>simp_all
  |_=>
   simp only[CC.op,ho]at hc
   (try(repeat' split at hc))<;>simp at hc
 have hv:=hρ p (by simp[ho,Op.operands]) s h1 hok;have hq:ev q=.slice none 0 0:=by
  have:=hρ q (by simp[ho,Op.operands]) (.c .bM) h2 (by rw[hcst]);rw[hcst]at this;generalize ev q=vq at this;cases this;rfl
 obtain⟨a,n,c,he,hb⟩:∃a n c,ev p=.slice a n c/\nlB (J s).d a.isNone:=by
  generalize (J s).d=d at hv hsl⊢;generalize ev p=vp at hv⊢;cases hv<;>simp only[slB]at hsl
  case bM=>exact⟨_,_,_,rfl,rfl⟩
  case sl ha _ _ _ _ _ _ _=>exact⟨_,_,_,rfl,fun hn=>ha.elim id fun h=>by rw[h.1]at hn;cases hn⟩
  case own=>exact⟨_,_,_,rfl,fun hn=>by cases hn⟩
  case own0=>exact⟨_,_,_,rfl,fun _=>rfl⟩
 refine⟨_,hb,ko (ev:=ev) ho (kn _ _ _ _ (by rw[he];exact⟨bg,bg⟩) _) ?_⟩;rw[he,hq];cases ng
 .simpa using Lib.run_eql_slice_nil x.w t e a n c 0 0 hu
 .simpa using run_neq_slice_nil_any (P:=C.P) x.w t e a n c 0 0 hu
def Kn {x:X}{defs:List (Option Nat)}{ev:Operand->Value}{o:Oper}{fs:Src}{n:Nat}{caps:List D}{ss:List Src}{st:St}{K:D->St->Prop}(hΓ:Ok C.P C.ν C.cr Y)
  (hc:C.op defs o=some (.callvM fs ss)) (hρ:pM C defs J ev x o.op.operands.toList) (hfo:(J fs).ok=true) (hd:(J fs).d=.fn n caps) (hn2:n<2000000) (hok:sH J ss) (hs:eK C.ν x (look st.m)) (hfr:ez st x) (htr:Y.tr (Fa n) (E9 n (gV J ss) caps) st K):
  iI C.P x (fun v x'=>∃d st',K d st'/\Step x x'/\RD C.ν x' v d/\eK C.ν x' (look st'.m)/\ez st' x') ((execOp ev o).run C.P x.w):=by
 obtain⟨t,args,tys,ho,h1,h2⟩:=y1 hc;have hv:=hρ (.tmp t) (by simp[ho,Op.operands,Call.operands]) fs h1 hfo;rw[hd]at hv;obtain⟨s1,s2,s3⟩:=gM hρ _ _ (fun o' ho'=>by simp only[ho,Op.operands,Call.operands];simp at ho'⊢;exact .inr ho') h2 hok;have hsz:args.size=(gV J ss).length:=by simpa using s2.symm
 generalize hep:ev (.tmp t)=vf at hv;cases hv with
 |mp=>exact absurd hn2 ah
 |bx=>exact absurd hn2 ah
 |ifc=>exact absurd hn2 ah
 |ifn=>exact absurd hn2 ah
 |mpn=>exact absurd hn2 ah
 |zp=>exact absurd hn2 ah
 |im=>exact absurd hn2 ah
 |fn fid' _ cs _ hν hl hcs=>
  have hn:=hΓ.small _ _ hν;have e1:Fa n=n:=by simp[Fa,hn]
  have e2:E9 n (gV J ss) caps=gV J ss++caps:=by simp[E9,hn]
  rw[e1,e2]at htr;have hrun:(execOp ev o).run C.P x.w=(callFunc fid' (args.map ev++cs)).run C.P x.w:=by
   simp[execOp,ho,resolve,Deferred.ofValue,invoke,hep]
  rw[hrun];refine hΓ.cr fid' n hν x _ (gV J ss++caps) st K (by simp[hl,hsz]) (fun i hi=>?_) hs hfr htr;rw[lg,cY];simp only[Array.size_map,hsz];split
  .rename_i hlt;have:=s3 i hlt
   rwa [<-Array.toList_map,cB]at this
  .exact hcs _ (by simp at hi;omega)
 |ek fid' n' cs _ hν hl hcs=>
  have e1:Fa (n'+1000000)=n':=by unfold Fa;rw[aj ah];omega
  have e2:E9 (n'+1000000) (gV J ss) caps=caps++gV J ss:=by unfold E9;rw[aj ah]
  rw[e1,e2]at htr;have hrun:(execOp ev o).run C.P x.w=(callFunc fid' (cs++args.map ev)).run C.P x.w:=by
   simp[execOp,ho,resolve,Deferred.ofValue,invoke,hep]
  rw[hrun];refine hΓ.cr fid' n' hν x _ (caps++gV J ss) st K (by simp[hl,hsz]) (fun i hi=>?_) hs hfr htr;rw[lg,cY];rw[hl];split
  .exact hcs i (by assumption)
  .have:=s3 (i-caps.length) (by simp at hi;omega)
   rwa [<-Array.toList_map,cB]at this
end
end
section
variable [di]
section
variable {C:CC} {Y:Ctx}
def ez.up {st:St}{x:X}(h:ez st x){n:Nat}(hn:st.nx<=n):ez ⟨n,st.m⟩ x:=
 ⟨fun l hl=>h.β l (eP hn hl),fun l hl=>iV (h.m l hl) hn⟩
def oM.iff {env:List bI}{DD:List (Option Nat)}{VS:List bI}{D D':Nat->Prop}{a:Act}{x:X}(h:oM C env DD VS D a x)(hD:∀p,D' p↔D p):oM C env DD VS D' a x:=by
 have:D'=D:=funext fun p=>propext (hD p)
 subst this;exact h
def oM.ext {env:List bI}{DD:List (Option Nat)}{vs:List bI}{a:Act}{x:X}{k:Nat}(e:bI)(h:oM C env DD vs (· <k) a x)(hk:vs.length=k):oM C env DD (vs++[e]) (· <k) a x:=by
 have hg:∀p,p<k->(vs++[e]).getD p .un=vs.getD p .un:=fun p hp=>by rw[cY,ay ah]
 exact⟨fun p t hp h1 h2=>by rw[hg p hp]at h2⊢;exact h.val p t hp h1 h2,fun p t hp h1 h2=>by rw[hg p hp]at h2;exact h.und p t hp h1 h2,h.old,h.size,h.defers⟩
def eK.eq {ν:List (Nat×Nat)}{x:X}{f f':Nat->Option bL}(h:eK ν x f)(e:∀l,f' l=f l):eK ν x f':=by
 have:f'=f:=funext e;subst this;exact h
def Ek {ops:Array Oper}{l:List GI}(hsp:Spec C ops.toList l)(hΓ:Ok C.P C.ν C.cr Y){Q:Exit->Act->World->Prop}{Kc:Act->World->Prop}{env:List bI}{K:List bI->St->Prop}{D:Nat->Prop}{k:Nat}{vs:List bI}{st:St}{x:X}{a:Act}{o:Oper}{g:GI}{r:List GI}
  (ho:ops[k]? =some o) (hg1:l[k]? =some g) (hg2:OpX C ((ops.toList.map (·.dst)).take k) o g.i) (hg3:CC.guard ((ops.toList.map (·.dst)).take k) o.guard=some g.g) (hk:vs.length=k) (hDlt:∀p,D p->p<k)
  (hreads:∀t p,Operand.tmp t∈o.op.operands.toList->(ops.toList.map (·.dst))[p]? =some (some t)->(p<k->D p)/\(k<=p->¬D p)) (hgd:∀j w,o.guard=some (j,w)->j<k->D j)
  (hmid:oM C env (ops.toList.map (·.dst)) vs D a x) (hs:eK C.ν x (look st.m)) (hf:ez ⟨st.nx+k,st.m⟩ x) (hw:ew Y false (g::r) env vs st K)
  (hK:∀e st' x' a',oM C env (ops.toList.map (·.dst)) (vs++[e]) (fun p=>D p\/p=k) a' x'->Step x x'->eK C.ν x' (look st'.m)->ez ⟨st'.nx+(k+1),st'.m⟩ x'->ew Y false r env (vs++[e]) st' K->Kc a' x'.w):wpOp C.P ops Q k Kc a x.w:=by
 have ho':ops.toList[k]? =some o:=by simpa using ho
 have hvt:vs.take k=vs:=gY ah;have hρ:pM C ((ops.toList.map (·.dst)).take k) (Src.ev env vs) a.eval x o.op.operands.toList:=by
  have:=hmid.rho (i:=k) (os:=o.op.operands.toList) hreads
  rwa [hvt]at this
 have hcst:∀d,Src.ev env vs (.c d)=⟨true,d⟩:=fun _=>rfl
 have hdst:(ops.toList.map (·.dst))[k]? =some o.dst:=by rw[List.getElem?_map,ho',Option.map_some]
 have hput:∀(e:bI) (v:Value) (x':X),Le x x'->(e.ok=true->RD C.ν x' v e.d)->(e.ok=false->v=undef)->oM C env (ops.toList.map (·.dst)) (vs++[e]) (fun p=>D p\/p=k) (a.put o.dst v) x':=by
  intro e v x' hle h1 h2;have he:(vs++[e]).getD k .un=e:=by rw[cY,aj ah];simp[hk]
  have hext:oM C env (ops.toList.map (·.dst)) (vs++[e]) D a x:=by
   have hg:∀p,D p->(vs++[e]).getD p .un=vs.getD p .un:=fun p hp=>by rw[cY,ay (by have:=hDlt p hp;omega)]
   exact⟨fun p t hp h1 h2=>by rw[hg p hp]at h2⊢;exact hmid.val p t hp h1 h2,fun p t hp h1 h2=>by rw[hg p hp]at h2;exact hmid.und p t hp h1 h2,hmid.old,hmid.size,hmid.defers⟩
  exact hext.put (i:=k) hle hdst (fun t ht=>⟨(hsp.dst k o t ho' ht).1,fun p hp e'=>hp (hsp.distinct (by rw[hdst,ht]) e')⟩) (by rw[he];exact h1) (by rw[he];exact h2) (fun p=>Iff.rfl)
 unfold wpOp;simp only[ho];obtain⟨i,gd⟩:=g;by_cases hcm:i.cN=true
 .cases i<;>simp only[aG.cN]at hcm<;>try cases hcm
  .rename_i f ss;simp only[ew]at hw;obtain⟨w1,w2,w3⟩:=hw;have hfl:=iF (g:=⟨.callM f ss,gd⟩) hmid hg3 hgd (by rw[hvt];exact w1);simp only[hvt]at hfl;rw[hfl];cases hfg:flag vs gd with
   |true=>
    rw[ay rfl];left;obtain⟨w4,w5⟩:=w2 hfg;rw[hk]at w5;refine(Dp (st:=⟨st.nx+k,st.m⟩) hcst hΓ (by rcases hg2 with h|⟨_,_,_,h,_⟩|⟨_,_,h,_⟩|⟨_,_,_,_,h,_⟩|⟨_,_,_,h,_⟩;exact h;cases h;cases h;cases h;cases h) hρ w4 hs hf w5).wp (fun v x' hG=>?_);obtain⟨d,st',hK1,hst1,hrd,hs1,hf1⟩:=hG;obtain⟨hnx,hw'⟩:=hK1;refine hK ⟨true,d⟩ ⟨st'.nx-k,st'.m⟩ x' (a.put o.dst v) (hput ⟨true,d⟩ v x' hst1.le (fun _=>hrd) (fun h=>by cases h)) hst1 hs1 ?_ hw';exact hf1.up (by simp only;omega)
   |false=>
    rw[aj bg];refine hK ⟨false,.any⟩ st x (a.put o.dst undef) (hput ⟨false,_⟩ undef x (Le.refl x) (fun h=>by cases h) (fun _=>rfl)) (.refl _) hs ?_ (w3 hfg);exact⟨fun l' hl'=>hf.β l' (by have hl'':st.nx+(k+1)<=l':=hl';show st.nx+k<=l';omega),fun l' hl'=>by have:=hf.m l' hl';simp only at this⊢;omega⟩
  .rename_i f ss;simp only[ew]at hw;obtain⟨w1,w2,w3⟩:=hw;have hfl:=iF (g:=⟨.callvM f ss,gd⟩) hmid hg3 hgd (by rw[hvt];exact w1);simp only[hvt]at hfl;rw[hfl];cases hfg:flag vs gd with
   |true=>
    rw[ay rfl];left;obtain⟨w0,w4,w5⟩:=w2 hfg;rw[hk]at w5;cases hd:(Src.ev env vs f).d<;>simp only[hd]at w5;refine(Kn (st:=⟨st.nx+k,st.m⟩) hΓ (by rcases hg2 with h|⟨_,_,_,h,_⟩|⟨_,_,h,_⟩|⟨_,_,_,_,h,_⟩|⟨_,_,_,h,_⟩;exact h;cases h;cases h;cases h;cases h) hρ w0 hd w5.1 w4 hs hf w5.2).wp (fun v x' hG=>?_);obtain⟨d,st',hK1,hst1,hrd,hs1,hf1⟩:=hG;obtain⟨hnx,hw'⟩:=hK1;refine hK ⟨true,d⟩ ⟨st'.nx-k,st'.m⟩ x' (a.put o.dst v) (hput ⟨true,d⟩ v x' hst1.le (fun _=>hrd) (fun h=>by cases h)) hst1 hs1 ?_ hw';exact hf1.up (by simp only;omega)
   |false=>
    rw[aj bg];refine hK ⟨false,.any⟩ st x (a.put o.dst undef) (hput ⟨false,_⟩ undef x (Le.refl x) (fun h=>by cases h) (fun _=>rfl)) (.refl _) hs ?_ (w3 hfg);exact⟨fun l' hl'=>hf.β l' (by have hl'':st.nx+(k+1)<=l':=hl';show st.nx+k<=l';omega),fun l' hl'=>by have:=hf.m l' hl';simp only at this⊢;omega⟩
  .rename_i s ng;simp only[ew]at hw;obtain⟨w1,w2,w3⟩:=hw;have hfl:=iF (g:=⟨.isNl s ng,gd⟩) hmid hg3 hgd (by rw[hvt];exact w1);simp only[hvt]at hfl;rw[hfl];cases hfg:flag vs gd with
   |true=>
    rw[ay rfl];left;obtain⟨w0,w1,w2⟩:=w2 hfg;obtain⟨b,hb,hrun⟩:=Qu hcst (by rcases hg2 with h|⟨_,_,_,h,_⟩|⟨_,_,h,_⟩|⟨_,_,_,_,h,_⟩|⟨_,_,_,h,_⟩;exact h;cases h;cases h;cases h;cases h) hρ w0 w1;refine iI.wp (G:=fun v x'=>v=.bool (bif ng then !b else b)/\x'=x) (.inl ⟨_,x,.inl hrun,rfl,rfl⟩) (fun v x' hG=>?_);obtain⟨rfl,rfl⟩:=hG;refine hK ⟨true,.bool (bif ng then !b else b)⟩ st _ _ (hput ⟨true,_⟩ _ _ (Le.refl _) (fun _=>.bool _) (fun h=>by cases h)) (.refl _) hs ?_ (w2 b hb);exact⟨fun l' hl'=>hf.β l' (by have hl'':st.nx+(k+1)<=l':=hl';show st.nx+k<=l';omega),fun l' hl'=>by have:=hf.m l' hl';simp only at this⊢;omega⟩
   |false=>
    rw[aj bg];refine hK ⟨false,.any⟩ st x (a.put o.dst undef) (hput ⟨false,_⟩ undef x (Le.refl x) (fun h=>by cases h) (fun _=>rfl)) (.refl _) hs ?_ (w3 hfg);exact⟨fun l' hl'=>hf.β l' (by have hl'':st.nx+(k+1)<=l':=hl';show st.nx+k<=l';omega),fun l' hl'=>by have:=hf.m l' hl';simp only at this⊢;omega⟩
  .exfalso;rcases hg2 with h|⟨_,_,_,h,_⟩|⟨_,_,h,_⟩|⟨_,_,_,_,h,_⟩|⟨_,_,_,h,_⟩
   .exact US h
   all_goals cases h
 .have hcm':i.cN=false:=by simpa using hcm
  have hL:x.β (st.nx+k)=none:=hf.β _ (aM _);have hlL:look st.m (st.nx+k)=none:=by
   cases hx:look st.m (st.nx+k)with
   |none=>rfl
   |some b=>have:=hf.m (st.nx+k) (by simp only;rw[hx];simp);simp only at this;omega
  by_cases hfk:i.jQ false gd=true
  .rw[tE hcm' hfk]at hw;obtain⟨w1,w2,w3⟩:=hw;have hfl:=iF (g:=⟨i,gd⟩) hmid hg3 hgd (by rw[hvt];exact w1);simp only[hvt]at hfl;rw[hfl];rw[hk]at w2;cases hfg:flag vs gd with
   |true=>
    rw[ay rfl];left;obtain⟨hob,hw'⟩:=w2 hfg;have hag:yQ (look st.m) st.m (i.kY (Src.ev env vs)):=by
     unfold yQ;split<;>intros<;>rfl
    refine(Bw (L:=st.nx+k) hg2 hcm' hΓ hρ hcst hob hs hag hL hlL (fun _=>rfl)).wp (fun v x' hG=>?_);obtain⟨g1,g2,g3,g4⟩:=hG;refine hK ⟨true,_⟩ _ x' (a.put o.dst v) (hput ⟨true,_⟩ v x' g1.le (fun _=>g2) (fun h=>by cases h)) g1 ?_ ?_ hw'
    .refine g3.eq fun l'=>?_
     by_cases hlw:l'∈i.wr (Src.ev env vs) (st.nx+k)
     .simp[ij,hlw]
     .simp only[ij,hlw,aS];exact sU hlw
    .refine⟨fun l' hl'=>?_,fun l' hl'=>?_⟩
     .have hl'':st.nx+(k+1)<=l':=hl';rw[g4 l' ah];exact hf.β l' (by show st.nx+k<=l';omega)
     .show l'<st.nx+(k+1);rcases pU (.inr hob) hl' with h|h
      .have:=hf.m l' h;simp only at this;omega
      .omega
   |false=>
    rw[aj bg];have hw':=w3 hfg;refine hK ⟨false,.any⟩ st x (a.put o.dst undef) (hput ⟨false,_⟩ undef x (Le.refl x) (fun h=>by cases h) (fun _=>rfl)) (.refl _) hs ?_ hw';exact⟨fun l' hl'=>hf.β l' (by have hl'':st.nx+(k+1)<=l':=hl';show st.nx+k<=l';omega),fun l' hl'=>by have:=hf.m l' hl';simp only at this⊢;omega⟩
  rw[jt hcm' (by simpa using hfk)]at hw;obtain⟨w1,w2,w3⟩:=hw;have hfl:=iF (g:=⟨i,gd⟩) hmid hg3 hgd (by rw[hvt];exact Mu w1);simp only[hvt]at hfl;rw[hfl];rw[hk]at w3;cases hfg:flag vs gd with
  |true=>
   rw[ay rfl];left;have hob:=w2 hfg;have hasm:i.zh false (Src.ev env vs):=by
    refine E3 fun s hs' _ hok=>?_
    obtain⟨p,hp1,hp2⟩:=FN (C:=C) (o:=o) (s:=s) (defs:=(ops.toList.map (·.dst)).take k) (by rcases hs' with rfl|rfl<;>rcases hg2 with h|⟨_,_,_,h,_⟩|⟨_,_,h,_⟩|⟨_,_,_,_,h,_⟩|⟨_,_,_,h,_⟩<;>first|exact .inl h|exact .inr h|cases h);exact⟨_,_,_,hρ p hp1 s hp2 hok⟩
   obtain⟨dv,hdv,hw'⟩:=w3 (fun _=>hasm);replace hdv:=hdv hfg;have hag:yQ (look st.m) st.m (i.kY (Src.ev env vs)):=by
    unfold yQ;split<;>intros<;>rfl
   refine(Bw (L:=st.nx+k) hg2 hcm' hΓ hρ hcst hob hs hag hL hlL (fun _=>rfl)).wp (fun v x' hG=>?_);obtain⟨g1,g2,g3,g4⟩:=hG;rw[hfg]at hw';rw[hdv]at g2;refine hK ⟨true,_⟩ _ x' (a.put o.dst v) (hput ⟨true,_⟩ v x' g1.le (fun _=>g2) (fun h=>by cases h)) g1 ?_ ?_ hw'
   .refine g3.eq fun l'=>?_
    by_cases hlw:l'∈i.wr (Src.ev env vs) (st.nx+k)
    .simp[ij,hlw]
    .simp only[ij,hlw,aS];exact sU hlw
   .refine⟨fun l' hl'=>?_,fun l' hl'=>?_⟩
    .have hl'':st.nx+(k+1)<=l':=hl';rw[g4 l' ah];exact hf.β l' (by show st.nx+k<=l';omega)
    .show l'<st.nx+(k+1);rcases pU (.inr hob) hl' with h|h
     .have:=hf.m l' h;simp only at this;omega
     .omega
  |false=>
   rw[aj bg];have hcalm:i.calm=true:=by
    cases gd with
    |none=>simp[flag]at hfg
    |some jw=>obtain⟨j,w⟩:=jw;exact w1.1
   obtain⟨dv,hdv,hw'⟩:=w3 (fun h=>by rw[hfg]at h;cases h);rw[hfg]at hw';refine hK ⟨false,_⟩ _ x (a.put o.dst undef) (hput ⟨false,_⟩ undef x (Le.refl x) (fun h=>by cases h) (fun _=>rfl)) (.refl _) ?_ ?_ hw'
   .refine hs.less fun l'=>?_
    by_cases hlw:l'∈i.wr (Src.ev env vs) (st.nx+k)
    .exact .inr (.inr (by rw[j9 hcalm hlw];exact hL))
    .exact .inl (sU hlw)
   .refine⟨fun l' hl'=>hf.β l' (by have hl'':st.nx+(k+1)<=l':=hl';show st.nx+k<=l';omega),fun l' hl'=>?_⟩;show l'<st.nx+(k+1);rcases pU (Y:=Y) (.inl hcalm) hl' with h|h
    .have:=hf.m l' h;simp only at this;omega
    .omega
def HP {ops:Array Oper}{l:List GI}(hsp:Spec C ops.toList l)(hΓ:Ok C.P C.ν C.cr Y){Q:Exit->Act->World->Prop}{env:List bI}{K:List bI->St->Prop}{x0:X}
  (hK:∀vs' st' a' x',K vs' st'->vs'.length=ops.size->oM C env (ops.toList.map (·.dst)) vs' (· <ops.size) a' x'->Step x0 x'->eK C.ν x' (look st'.m)->ez st' x'->Q .normal a' x'.w):
  ∀(n k:Nat) (vs:List bI) (st:St) (x:X) (a:Act),k+n=ops.size->vs.length=k->oM C env (ops.toList.map (·.dst)) vs (· <k) a x->Step x0 x->eK C.ν x (look st.m)->ez ⟨st.nx+k,st.m⟩ x->
   ew Y false (l.drop k) env vs st K->wpOps C.P ops Q (List.range' k n) a x.w:=by
 intro n;induction n with
 |zero=>
  intro k vs st x a hkn hk hmid hst hs hf hw;have hlen:=hsp.len;have hd:l.drop k=[]:=kR (by simp at hlen;omega);rw[hd]at hw;simp only[ew]at hw;simp only[List.range'_zero,wpOps];obtain rfl:k=ops.size:=ah;exact hK vs _ a x hw hk hmid hst hs (by rw[hk];exact hf)
 |succ n ih=>
  intro k vs st x a hkn hk hmid hst hs hf hw;have hkl:k<ops.size:=ah;obtain⟨o,ho⟩:∃o,ops[k]? =some o:=⟨ops[k],by simp[hkl]⟩
  obtain⟨g,hg1,hg2,hg3⟩:=hsp.op k o (by simpa using ho);have hlk:k<l.length:=by have:=hsp.len;simp at this;omega
  have hdrop:l.drop k=g::l.drop (k+1):=by
   rw[gZ hlk];congr 1;exact(List.getElem?_eq_some_iff.1 hg1).2
  rw[hdrop]at hw;rw[List.range'_succ,wpOps_cons];exact Ek hsp hΓ ho hg1 hg2 hg3 hk (fun _ h=>h) (fun t p _ _=>⟨fun h=>h,fun h=>ah⟩) (fun j w _ h=>h) hmid hs hf hw
   (fun e st' x' a' h1 h2 h3 h4 h5=>ih (k+1) _ st' x' a' ah (by simp[hk]) (h1.iff fun p=>ah) (hst.trans h2) h3 h4 h5)
end
end
section
variable [di]
section
variable {C:CC} {Y:Ctx}
structure Trace (Y:Ctx)(l:List GI)(env:List bI)(nx:Nat)(VS:List bI)(M:Nat->List (Nat×bL)):Prop where
 step:∀(k:Nat) (g:GI),l[k]? =some g->M (k+1)=g.i.cr Y (Src.ev env (VS.take k)) (M k) (nx+k)
 stop:∀k:Nat,l[k]? =none->M (k+1)=M k
 ent:∀(k:Nat) (g:GI),l[k]? =some g->(VS.getD k .un).ok=flag (VS.take k) g.g/\(flag (VS.take k) g.g=true->g.i.val Y (Src.ev env (VS.take k)) (M k) (nx+k)=(VS.getD k .un).d)
 ET:∀(k:Nat) (g:GI),l[k]? =some g->ET (VS.take k) g.i g.g
 dE:∀(k:Nat) (g:GI),l[k]? =some g->flag (VS.take k) g.g=true->g.i.dE Y (Src.ev env (VS.take k)) (M k)
 len:VS.length=l.length
 fresh0:∀l',look (M 0) l'≠none->l'<nx
def yj {env:List bI}{K:List bI->St->Prop}:∀(l:List GI) (vs:List bI) (st:St),(∀g∈l,g.i.cN=false)->(∀g∈l,∀vs',g.i.zh true (Src.ev env vs'))->ew Y true l env vs st K->
  ∃(VS:List bI) (M:Nat->List (Nat×bL)),VS.take vs.length=vs/\VS.length=vs.length+l.length/\(∀k,k<=vs.length->M k=st.m)/\(∀k,vs.length+l.length<=k->M k=M (vs.length+l.length))/\
   (∀(k:Nat) (g:GI),l[k]? =some g->M (vs.length+k+1)=g.i.cr Y (Src.ev env (VS.take (vs.length+k))) (M (vs.length+k)) (st.nx+(vs.length+k))/\
     ((VS.getD (vs.length+k) .un).ok=flag (VS.take (vs.length+k)) g.g/\(flag (VS.take (vs.length+k)) g.g=true->g.i.val Y (Src.ev env (VS.take (vs.length+k))) (M (vs.length+k)) (st.nx+(vs.length+k))=(VS.getD (vs.length+k) .un).d))/\
     ET (VS.take (vs.length+k)) g.i g.g/\(flag (VS.take (vs.length+k)) g.g=true->g.i.dE Y (Src.ev env (VS.take (vs.length+k))) (M (vs.length+k))))/\
   K VS ⟨st.nx+(vs.length+l.length),M (vs.length+l.length)⟩
 |[],vs,st,_,_,h=>⟨vs,fun _=>st.m,bg,bg,fun _ _=>rfl,fun _ _=>rfl,fun k g h=>by simp at h,by simpa[ew]using h⟩
 |⟨i,g⟩::r,vs,st,hcm,hasm,h=>by
  rw[jt (hcm _ (.head _)) rfl]at h;obtain⟨w1,w2,w3⟩:=h;obtain⟨dv,hdv,w3⟩:=w3 fun _=>hasm _ (.head _) vs
  obtain⟨VS,M,a1,a2,a3,a4,a5,a6⟩:=yj r _ _ (fun g hg=>hcm g (.tail _ hg)) (fun g hg=>hasm g (.tail _ hg)) w3;simp only[bS,aT,aX,bq]at a1 a2 a3 a4 a5 a6;have b1:VS.take vs.length=vs:=by
   have:=aC (List.take vs.length) a1;rw[List.take_take,Nat.min_eq_left ah]at this;rw[this];simp
  have b2:VS.getD vs.length .un=⟨flag vs g,dv⟩:=by
   have:(VS.take (vs.length+1)).getD vs.length .un=VS.getD vs.length .un:=getD_take _ _ _ _ ah;rw[<-this,a1,cY,aj ah];simp
  refine⟨VS,fun k=>if k<=vs.length then st.m else M k,b1,by simp only[aT];omega,fun k hk=>by simp[hk],fun k hk=>?_,fun k gi hk=>?_, ?_⟩
  .simp only[aT]at hk⊢;rw[aj ah,aj ah,a4 k ah,a4 (vs.length+(r.length+1)) ah]
  .cases k with
   |zero=>
    simp only[List.getElem?_cons_zero,aP]at hk;subst hk;simp only[Nat.add_zero];rw[aj ah,ay ah,b1,b2,a3 (vs.length+1) ah];exact⟨rfl,⟨rfl,hdv⟩,w1,w2⟩
   |succ k=>
    grind
  .simp only[aT];rw[aj ah];have e:vs.length+1+r.length=vs.length+(r.length+1):=ah;rw[e]at a6;exact a6
def pC {env:List bI}{K:List bI->St->Prop}{l:List GI}{st:St}(hcm:∀g∈l,g.i.cN=false)(hasm:∀g∈l,∀vs',g.i.zh true (Src.ev env vs'))(hf:∀l',look st.m l'≠none->l'<st.nx)
  (h:ew Y true l env [] st K):∃VS M,Trace Y l env st.nx VS M/\M 0=st.m/\K VS ⟨st.nx+l.length,M l.length⟩:=by
 obtain⟨VS,M,a1,a2,a3,a4,a5,a6⟩:=yj l [] st hcm hasm h;simp only[aX,bq]at a1 a2 a3 a4 a5 a6;refine⟨VS,M,⟨fun k g hk=>(a5 k g hk).1,fun k hk=>?_,fun k g hk=>(a5 k g hk).2.1,fun k g hk=>(a5 k g hk).2.2.1,fun k g hk=>(a5 k g hk).2.2.2,a2, ?_⟩,a3 0 (aM _),a6⟩
 .grind
 .rw[a3 0 (aM _)];exact hf
section trace
variable {l:List GI} {env:List bI} {nx:Nat} {VS:List bI} {M:Nat->List (Nat×bL)}
def Trace.rL (h:Trace Y l env nx VS M){k:Nat}{g:GI}(hg:l[k]? =some g):g.i.calm=true\/(g.g=none/\g.i.dE Y (Src.ev env (VS.take k)) (M k)):=by
 cases hc:g.i.calm with
 |true=>exact .inl rfl
 |false=>
  right;have h1:=h.ET k g hg;have hn:g.g=none:=by
   cases hgg:g.g with
   |none=>rfl
   |some jw=>obtain⟨j,w⟩:=jw;rw[hgg]at h1;have:=h1.1;rw[hc]at this;cases this
  exact⟨hn,h.dE k g hg (by rw[hn];rfl)⟩
def Trace.fresh (h:Trace Y l env nx VS M):∀(k l':Nat),look (M k) l'≠none->l'<nx+k
 |0,l',hl=>h.fresh0 l' hl
 |k+1,l',hl=>by
  cases hg:l[k]? with
  |none=>
   rw[h.stop k hg]at hl;have:=Trace.fresh h k l' hl;omega
  |some g=>
   rw[h.step k g hg]at hl;have hco:g.i.calm=true\/g.i.dE Y (Src.ev env (VS.take k)) (M k):=(h.rL hg).imp id (·.2);rcases pU hco hl with h1|h1
   .have:=Trace.fresh h k l' h1;omega
   .omega
def Trace.j8 (h:Trace Y l env nx VS M){l':Nat}:∀(n u:Nat),(∀(q:Nat) (g:GI),u<=q->q<u+n->l[q]? =some g->l'∉g.i.wr (Src.ev env (VS.take q)) (nx+q))->look (M (u+n)) l'=look (M u) l'
 |0,u,_=>rfl
 |n+1,u,hq=>by
  rw[<-Trace.j8 h n u (fun q g h1 h2=>hq q g h1 ah)];rw[<-Nat.add_assoc];cases hg:l[u+n]? with
  |none=>rw[h.stop _ hg]
  |some g=>rw[h.step _ g hg];exact sU (hq (u+n) g ah ah hg)
def Trace.same (h:Trace Y l env nx VS M){l' u v:Nat}(hq:∀(q:Nat)(g:GI),min u v<=q->q<max u v->l[q]? =some g->l'∉g.i.wr (Src.ev env (VS.take q)) (nx+q)):look (M u) l'=look (M v) l':=by
 rcases Nat.le_total u v with huv|huv
 .have:=h.j8 (l':=l') (v-u) u (fun q g h1 h2=>hq q g ah ah)
  grind
 .have:=h.j8 (l':=l') (u-v) v (fun q g h1 h2=>hq q g ah ah)
  grind
end trace
def nF (acc:List Nat)(p:Nat):∀(es:List Edge),(oe acc es).testBit p=true->∃e∈es,Region.binds .any e=true/\(p=e.on\/(acc.getD e.on 0).testBit p=true)
 |[],h=>by simp[oe]at h
 |e::r,h=>by
  simp only[oe]at h;split at h
  .rename_i hb;rw[Nat.testBit_or,dW,Nat.testBit_or,dW]at h;rcases h with(h|h)|h
   .grind
   .exact⟨e,.head _,hb,.inr h⟩
   .obtain⟨e',h1,h2⟩:=nF acc p r h;exact⟨e',.tail _ h1,h2⟩
  .obtain⟨e',h1,h2⟩:=nF acc p r h;exact⟨e',.tail _ h1,h2⟩
def sM:∀(ops:List Oper) (acc:List Nat),(jV acc ops).take acc.length=acc/\(jV acc ops).length=acc.length+ops.length/\
  ∀(j:Nat) (o:Oper),ops[j]? =some o->(jV acc ops).getD (acc.length+j) 0=oe ((jV acc ops).take (acc.length+j)) o.after.toList
 |[],acc=>⟨by simp[jV],by simp[jV],fun j o h=>by simp at h⟩
 |o::r,acc=>by
  obtain⟨a1,a2,a3⟩:=sM r (acc++[oe acc o.after.toList]);simp only[bS,aT,aX,bq]at a1 a2 a3;have e:jV acc (o::r)=jV (acc++[oe acc o.after.toList]) r:=rfl;rw[e];have b1:(jV (acc++[oe acc o.after.toList]) r).take acc.length=acc:=by
   have:=aC (List.take acc.length) a1;rw[List.take_take,Nat.min_eq_left ah]at this;rw[this];simp
  refine⟨b1,by simp only[aT];omega,fun j o' hj=>?_⟩;cases j with
  |zero=>
   simp only[List.getElem?_cons_zero,aP]at hj;subst hj;rw[Nat.add_zero,b1];have:((jV (acc++[oe acc o.after.toList]) r).take (acc.length+1)).getD acc.length 0=(jV (acc++[oe acc o.after.toList]) r).getD acc.length 0:=getD_take _ _ _ _ ah;rw[<-this,a1,cY,aj ah];simp
  |succ j=>
   grind
def nN:∀(ops:List Oper) (p:Nat),nM p ops=true->∀(j:Nat) (o:Oper),ops[j]? =some o->∀e∈o.after,Region.binds .any e=true->e.on<p+j
 |[],p,_,j,o,h=>by simp at h
 |o::r,p,h,j,o',hj=>by
  simp only[nM,br,List.all_eq_true]at h;cases j with
  |zero=>
   grind
  |succ j=>
   intro e he hb;have:=nN r (p+1) h.2 j o' (by simpa using hj) e he hb;omega
def oK (bs:List Nat)(i j:Nat):Prop:=(bs.getD (max j i) 0).testBit (min j i)=true
def ExU (l:List GI)(gj gi:aG)(j i:Nat):Prop:=gi.lj=true/\((gj.isApp=true/\j<i)\/(gj.lh=true/\i<j/\∀q g,i<q->q<j->l[q]? =some g->g.i.calm=true\/g.i.lh=true))
structure Order (ops:List Oper)(l:List GI)(bs:List Nat):Prop where
 bef:∀(j:Nat) (o:Oper),ops[j]? =some o->∀p,(bs.getD j 0).testBit p=true->∃e∈o.after,Region.binds .any e=true/\(p=e.on\/(bs.getD e.on 0).testBit p=true)
 edge:∀(j:Nat) (o:Oper),ops[j]? =some o->∀e∈o.after,Region.binds .any e=true->e.on<j
 reads:∀(j p:Nat) (oj op:Oper) (t:Nat),ops[j]? =some oj->ops[p]? =some op->op.dst=some t->t∈tmpsOf ops oj->p=j\/oK bs p j
 effs:∀(j i:Nat) (gj gi:GI),l[j]? =some gj->l[i]? =some gi->gj.i.calm=false->gi.i.free=false->(gi.i.ja=false\/(gj.i.isApp=true/\i<j))->i=j\/oK bs i j\/ExU l gj.i gi.i j i
def Nj {ops:List Oper}{l:List GI}(h:wO ops l=true):Order ops l (jV [] ops):=by
 simp only[wO,br]at h;obtain⟨h1,h2,_,h4⟩:=h;obtain⟨b1,b2,b3⟩:=sM ops [];simp only[aX,bq]at b2 b3;refine⟨fun j o hj p hp=>?_,fun j o hj e he hb=>by simpa using nN ops 0 h4 j o hj e he hb,fun j p oj op t hj hp hd ht=>?_,fun j i gj gi hj hi hc hpu hmk=>?_⟩
 .rw[b3 j o hj]at hp;obtain⟨e,e1,e2,e3⟩:=nF _ _ _ hp;refine⟨e,by simpa using e1,e2,e3.imp id fun h=>?_⟩;by_cases hlt:e.on<j
  .rwa [getD_take _ _ _ _ hlt]at h
  .simp only[List.getD,List.getElem?_take,hlt,aS,Option.getD_none,Nat.zero_testBit]at h;cases h
 .have hjl:j<ops.length:=(List.getElem?_eq_some_iff.1 hj).1;have hpl:p<ops.length:=(List.getElem?_eq_some_iff.1 hp).1;simp only[p8,List.all_eq_true,List.mem_range]at h1;have:=h1 j hjl p hpl;simp only[hj,hp,hd,dW,beq_iff_eq,cW,List.contains_eq_mem,dn]at this;rcases this with(h|h)|h
  .exact .inl h
  .exact absurd ht h
  .exact .inr h
 .have hjl:j<l.length:=(List.getElem?_eq_some_iff.1 hj).1;have hil:i<l.length:=(List.getElem?_eq_some_iff.1 hi).1;simp only[Rl,List.all_eq_true,List.mem_range]at h2;have:=h2 j hjl i hil;have hm:(gi.i.ja&&(!gj.i.isApp ||decide (j<i)))=false:=by
   rcases hmk with h|⟨h,h3⟩
   .simp[h]
   .simp[h,show ¬j<i by omega]
  simp only[hj,hi,hc,hpu,hm,Bool.false_or,dW,beq_iff_eq]at this;rcases this with(h|h)|h
  .exact .inl h
  .exact .inr (.inl h)
  .right;right;simp only[exU,br,bU,List.all_eq_true,List.mem_range,dW]at h;obtain⟨x2,h|⟨x1,x3,x4⟩⟩:=h
   .exact⟨x2,.inl h⟩
   refine⟨x2,.inr ⟨x1,x3,fun q g hq1 hq2 hg=>?_⟩⟩;have:=x4 q hq2;rw[hg]at this;rcases this with h|h
   .omega
   .simpa using h
def UH {ops:List Oper}{l:List GI}(h:wO ops l=true):(∀g∈l,g.i.cN=false)\/Hu l (jV [] ops)=true:=by
 grind [wO]
def Fz {l:List GI}{bs:List Nat}(h:Hu l bs=true):∃l' suf,l=l'++suf/\HS suf=true/\(∀q,q<suf.length->∀p,p<l'.length+q->(bs.getD (l'.length+q) 0).testBit p=true)/\∀g∈l',g.i.cN=false:=by
 unfold Hu at h;simp only at h;generalize List.findIdx (fun g:GI=>g.i.cN) l=n at h;simp only[br,List.all_eq_true,List.mem_range,cW]at h;obtain⟨h1,h2,h3⟩:=h;have hn:n<l.length:=by
  rcases dQ n l.length with h|h
  .exact h
  .rw[kR h]at h1;cases h1
 have hl:(l.take n).length=n:=dH;exact⟨l.take n,l.drop n,(List.take_append_drop n l).symm,h1,fun q hq p hp=>by rw[hl]at hp⊢;exact h3 q (by simpa using hq) p hp,h2⟩
def Order.pre {ops os:List Oper}{l ls:List GI}{bs:List Nat}(h:Order (ops++os) (l++ls) bs):Order ops l bs:=by
 have ho:∀{j:Nat} {oj:Oper},ops[j]? =some oj->(ops++os)[j]? =some oj:=fun hj=>by
  rw[List.getElem?_append_left (List.getElem?_eq_some_iff.1 hj).1];exact hj
 have hl:∀{j:Nat} {gj:GI},l[j]? =some gj->(l++ls)[j]? =some gj:=fun hj=>by
  rw[List.getElem?_append_left (List.getElem?_eq_some_iff.1 hj).1];exact hj
 refine⟨fun j oj hj=>h.bef j oj (ho hj),fun j oj hj=>h.edge j oj (ho hj),fun j p oj op t hj hp hd ht=>h.reads j p oj op t (ho hj) (ho hp) hd ?_,fun j i gj gi hj hi hc hf hm=>?_⟩
 .grind [tmpsOf]
 .rcases h.effs j i gj gi (hl hj) (hl hi) hc hf hm with e|e|⟨e1,e2|⟨e2,e3,e4⟩⟩
  .exact .inl e
  .exact .inr (.inl e)
  .exact .inr (.inr ⟨e1,.inl e2⟩)
  .exact .inr (.inr ⟨e1,.inr ⟨e2,e3,fun q gq hq1 hq2 hg=>e4 q gq hq1 hq2 (hl hg)⟩⟩)
def yi {env:List bI}{K:List bI->St->Prop}:∀(r:List GI) (vs:List bI) (st:St),(∀g∈r,QY g=true)->ew Y true r env vs st K=ew Y false r env vs st K
 |[],_,_,_=>by simp only[ew]
 |g::r,vs,st,h=>by
  have hg:=h g (.head _);have ih:=fun vs st=>yi (env:=env) (K:=K) r vs st fun g hg=>h g (.tail _ hg)
  unfold QY at hg;split at hg
  .simp only[ew,aG.jQ,aG.calm,Bool.not_true,Bool.not_false,Bool.false_and,Bool.and_false,iG,aS,aG.zh,ih]
  .simp only[ew,aG.jQ,aG.calm,Bool.not_true,Bool.not_false,Bool.false_and,Bool.and_false,iG,aS,aG.zh,ih]
  .simp only[ew,aG.jQ,aG.calm,Bool.not_true,Bool.not_false,Bool.false_and,Bool.and_false,iG,aS,aG.zh,ih]
  .cases hg
def Oa {env:List bI}{K:List bI->St->Prop}{suf:List GI}(h:HS suf=true){vs:List bI}{st:St}(hw:ew Y true suf env vs st K):ew Y false suf env vs st K:=by
 unfold HS at h;split at h
 .simp only[List.all_eq_true]at h;simp only[ew]at hw⊢;simpa only[yi _ _ _ h]using hw
 .simp only[List.all_eq_true]at h;simp only[ew]at hw⊢;simpa only[yi _ _ _ h]using hw
 .cases h
def yh {d:Bool}{env:List bI}{K:List bI->St->Prop}{b:List GI}:∀(a:List GI) (vs:List bI) (st:St),d=true->(∀g∈a,g.i.cN=false)->ew Y d (a++b) env vs st K->ew Y d a env vs st (fun vs' st'=>ew Y d b env vs' ⟨st'.nx-vs'.length,st'.m⟩ K)
 |[],vs,st,_,_,h=>by
  simp only[ew,fQ]at h⊢;rw[Nat.add_sub_cancel];exact h
 |⟨i,g⟩::r,vs,st,hd,hcm,h=>by
  subst hd;rw[fR,jt (hcm _ (.head _)) rfl]at h;rw[jt (hcm _ (.head _)) rfl];exact⟨h.1,h.2.1,fun ha=>(h.2.2 ha).imp fun _ h2=>⟨h2.1,yh r _ _ rfl (fun g hg=>hcm g (.tail _ hg)) h2.2⟩⟩
end
end
end Go.Abs
