/- A part of the proofs. -/
import Derived.Deep.DeepAppendWide
import Derived.Great.BuildSlice
import Derived.Laws.IdiomStrings
import Derived.Laws.MakeOwn
import Derived.Orders
import Derived.Test.YtgnjlompgjhaaaaGreatDoorP01
set_option linter.all false
set_option maxRecDepth 4000
namespace Go.Abs
section
variable [c7]
def lQ {α:Type}(l:List α)(j:Nat)(d:α)(h:j<l.length):l.getD j d=l[j]:=by simp[List.getD,h]
def HK (cs new:List D)(o:Nat)(h:o+new.length<=cs.length):(over cs o new).length=cs.length:=by
 simp only[over,bA,fU,qA];omega
def E6 (cs new:List D)(o:Nat)(h:o+new.length<=cs.length)(j:Nat)(d:D):(over cs o new).getD j d=if o<=j/\j<o+new.length then new.getD (j-o) d else cs.getD j d:=by
 simp only[over,List.getD,List.getElem?_append,fU];by_cases j1:j<o
 ·rw[av ae,ai ae];simp[List.getElem?_take,j1]
 ·rw[ai ae,show j-min o cs.length=j-o by omega];by_cases j2:j<o+new.length
  ·rw[av ae,av ae]
  ·rw[ai ae,ai ae];simp only[List.getElem?_drop];congr 3;omega
def cn (m:List (Nat×bK))(L:Nat)(b:bK)(l:Nat):look (dC m L b) l=if l=L then some b else look m l:=by
 induction m with
 |nil=>by_cases h:l=L<;>simp[dC,look,h,eq_comm]<;>omega
 |cons p r ih=>
  obtain⟨a,c⟩:=p;simp only[dC];by_cases h:a=L
  ·rw[av h];simp only[look];by_cases h2:a=l
   ·rw[av h2,av ae]
   ·rw[ai h2,ai ae,ai h2]
  ·rw[ai h];simp only[look,ih];by_cases h2:a=l
   ·rw[av h2,ai ae,av h2]
   ·rw[ai h2,ai h2]
def fG (m:List (Nat×bK))(k l:Nat):look (dH m k) l=if l=k then none else look m l:=by
 induction m with
 |nil=>simp[dH,look]
 |cons p r ih=>
  obtain⟨a,c⟩:=p;simp only[dH];by_cases h:a=k
  ·rw[av h,ih];by_cases h2:l=k
   ·rw[av h2,av h2]
   ·rw[ai h2,ai h2];simp only[look];rw[ai ae]
  ·rw[ai h];simp only[look,ih];by_cases h2:a=l
   ·rw[av h2,ai ae,av h2]
   ·rw[ai h2,ai h2]
def iq (f:Nat->Option bK)(ws:List Nat)(m':List (Nat×bK)):Nat->Option bK:=fun l=>if l∈ws then look m' l else f l
section
variable {ν:List (Nat×Nat)} {x:X} {P:Program}
def jU (b:Nat):∀(vs:List Value)(o:Nat)(w:World)(c:Array Value)(T:TypeId)(fr:Nat×Nat),w.heap[b]? =some (.cells c T fr)->o+vs.length<=c.size->
  ∃c',(w.setCells b o vs).heap[b]? =some (.cells c' T fr)/\c'.size=c.size/\∀q,c'.getD q undef=if o<=q/\q<o+vs.length then vs.getD (q-o) undef else c.getD q undef
 |[],o,w,c,T,fr,h,_=>⟨c,by simpa[World.setCells]using h,rfl,fun q=>by rw[ai (fun e=>by have:=e.1;have:=e.2;simp at this;omega)]⟩
 |v::r,o,w,c,T,fr,h,hl=>by
  simp only[ay]at hl;have h1:(w.setCell ⟨b,o,none⟩ v).heap[b]? =some (.cells (c.setIfInBounds o v) T fr):=by
   simp[World.setCell,Array.getElem?_modify,h]
  obtain⟨c',g1,g2,g3⟩:=jU b r (o+1) _ _ T fr h1 cz;refine⟨c',by simpa[World.setCells]using g1,by simpa using g2,fun q=>?_⟩;rw[g3 q];simp only[ay];by_cases q1:o+1<=q/\q<o+1+r.length
  ·rw[av q1,av ae,show q-o=(q-(o+1))+1 by omega];simp
  ·rw[ai q1];by_cases q2:q=o
   ·subst q2;rw[av ae];simp[Array.getD,show q<c.size by omega]
   ·rw[ai ae];rw[<-bT,<-bT];simp[List.getD,List.getElem?_set,show ¬o=q by omega]
def jk (b:Nat):∀(vs:List Value)(o:Nat)(w:World)(b':Nat),b'≠b->(w.setCells b o vs).heap[b']? =w.heap[b']?
 |[],o,w,b',_=>rfl
 |v::r,o,w,b',h=>by
  rw[show w.setCells b o (v::r)=(w.setCell ⟨b,o,none⟩ v).setCells b (o+1) r from rfl,jk b r (o+1) _ b' h];simp[World.setCell,Array.getElem?_modify,show b≠b' by omega]
def jj (b:Nat):∀(vs:List Value)(o:Nat)(w:World),(w.setCells b o vs).os=w.os/\(w.setCells b o vs).tape=w.tape/\(w.setCells b o vs).output=w.output/\(w.setCells b o vs).heap.size=w.heap.size
 |[],o,w=>⟨rfl,rfl,rfl,rfl⟩
 |v::r,o,w=>by
  have:=jj b r (o+1) (w.setCell ⟨b,o,none⟩ v);exact⟨this.1,this.2.1,this.2.2.1,by rw[show w.setCells b o (v::r)=(w.setCell ⟨b,o,none⟩ v).setCells b (o+1) r from rfl,this.2.2.2];simp⟩
def cell_of_heap {w:World}{b o:Nat}{c:Array Value}{T:TypeId}{fr:Nat×Nat}(h:w.heap[b]? =some (.cells c T fr))(ho:o<c.size):w.cell? ⟨b,o,none⟩=some (c.getD o undef):=by
 rw[cell_of_row w b o c T fr h];simp[Array.getD,ho]
def tG {e:D}{k n o b at0:Nat}{ag:Bool}{ty:TypeId}{c:Nat->Value}(hk:e.cells.length=k)(hle:o+n<=k)
  (hc:∀j,j<k->x.w.cell? ⟨b,at0+j,none⟩=some (c j)/\(c j).oneCell'=true/\RD ν x (c j) (e.cells.getD j .any))
  (hn:n=P.cellsOf ty) (hn0:P.cellsOf ty≠0) (hu:(P.underlying ty).isNone=false) (hag:ag=bZ P ty) (h1:ag=false->n=1):
  ∃v,(loadVar ty ⟨b,at0+o,none⟩).run P x.w=.ok v x.w/\RD ν x v (ov e k n o ag):=by
 have hcut:∃v,(loadVar ty ⟨b,at0+o,none⟩).run P x.w=.ok v x.w/\RD ν x v (cut e.cells o n ag)/\(ag=true->v=.agg ((List.range n).map fun j=>c (o+j)).toArray)/\(ag=false->v=c o):=by
  cases hb:ag
  ·have hn1:=h1 hb;refine⟨c o, ?_,by simp only[cut,cond_false];exact(hc o ae).2.2,aT,fun _=>rfl⟩;rw[hb]at hag;unfold loadVar;rw[Sem.run_bind,qo hu,<-hag];simp[Result.andThen,(hc o ae).1]
  ·rw[hb]at hag;refine⟨.agg ((List.range n).map fun j=>c (o+j)).toArray, ?_, ?_,fun _=>rfl,aT⟩
   ·unfold loadVar;rw[Sem.run_bind,qo hu,<-hag];have:=run_loadCells (P:=P) x.w ⟨b,at0+o,none⟩ n (fun j=>c (o+j)) (fun j hj=>by rw[Addr.sZ,Nat.add_assoc];exact(hc (o+j) ae).1);simp[Result.andThen,di hn0,<-hn,this]
   ·simp only[cut,cond_true];refine .agg _ _ cz (fun i hi=>?_) (fun i hi=>?_)
    ·simp at hi;have:=(hc (o+i) ae).2.1;simpa[Array.getD,show i<n by omega]using this
    ·simp at hi;rw[ea _ _ _ _ _ ae];have:=(hc (o+i) ae).2.2;simpa[Array.getD,show i<n by omega]using this
 obtain⟨v,r1,r2,r3,r4⟩:=hcut;refine⟨v,r1, ?_⟩;unfold ov;cases hb:(n==k)&&(e.isAgg==ag)
 ·simpa using r2
 ·simp only[aZ,beq_iff_eq]at hb;obtain⟨hnk,hea⟩:=hb;simp only[cond_true];have ho:o=0:=ae;subst ho;cases hb:ag
  ·rw[hb]at hea;have hv:=r4 hb;have hn1:=h1 hb;have hcell:=(hc 0 ae).2.2;rw[hv];cases e<;>simp only[D.cells,D.isAgg,az,ay]at hk hea hcell<;>first|omega|exact absurd hea aM|exact hcell
  ·rw[hb]at hea;cases e<;>simp only[D.isAgg,et]at hea;rename_i ds;rw[r3 hb];simp only[D.cells]at hk hc;refine .agg _ _ cz (fun i hi=>?_) (fun i hi=>?_)
   ·have:=(hc i ae).2.1;simpa[Array.getD,show i<n by omega]using this
   ·have:=(hc i ae).2.2;simpa[Array.getD,show i<n by omega]using this
def pR {f:Nat->Option bK}{m:List (Nat×bK)}{l k n:Nat}(hs:ff ν x f)(hf:f l=look m l)(hb:fm m l k n):
  f l=some (.buf k (bf m l))/\n<=(bf m l).length/\look m l=some (.buf k (bf m l)):=by
 unfold fm at hb;unfold bf;cases hl:look m l with
 |none=>simp[hl]at hb
 |some blk=>
  cases blk with
  |iter s p=>simp[hl]at hb
  |row s=>simp[hl]at hb
  |bld o n u=>simp[hl]at hb
  |buf k' es=>simp only[hl]at hb⊢;rw[hf,hl,hb.1];exact⟨rfl,hb.2,rfl⟩
def ij {i k tot j:Nat}(hi:i<tot)(hj:j<k):i*k+j<tot*k:=by
 have:(i+1)*k<=tot*k:=ek _ hi;rw[Nat.succ_mul]at this;omega
def y6 (f:Nat->Option bK)(m:List (Nat×bK)):Option (List Nat)->Prop
 |none=>∀l,look m l≠none->f l=look m l
 |some ls=>∀l,l∈ls->f l=look m l
def mY {f f':Nat->Option bK}{L tot:Nat}{w':World}{blk:bK}{v:Value}{d:D}{r:Result Next}(hs:ff ν x f)(hL:x.β L=none)(hw:fN x.w w')(hnw:x.w.heap.size<w'.heap.size)
  (hb:lY ν ⟨w',x.I,dP x.β L (x.w.heap.size,0,tot)⟩ x.w.heap.size 0 tot blk) (hv:RD ν ⟨w',x.I,dP x.β L (x.w.heap.size,0,tot)⟩ v d)
  (hr:r=.ok (.value v) w') (hf:∀l,f' l=jt f L (some blk) l):vS ν x f' L d r:=by
 have e:f'=jt f L (some blk):=funext hf;subst e;exact⟨v,⟨w',x.I,dP x.β L (x.w.heap.size,0,tot)⟩,.inl hr,vz hw (aY _) hL hs.imm,hv,Ks hs hw (aY _) hnw hL hb,fun l hl=>by simp[dP,hl]⟩
def qJ {n:Nat}{w':World}{L tot k:Nat}{c:Array Value}{T:TypeId}{fr:Nat×Nat}{es:List D}(x':X)(hx:x'.w.heap[n]? =some (.cells c T fr))(hk:0<k)(ht:es.length<=tot)(hc:tot*k<=c.size)
  (hfr:∀o,o<c.size->¬(fr.1<=o/\o<fr.2))
  (he:∀i,i<es.length->(es.getD i .any).cells.length=k/\∀j,j<k->(c.getD (i*k+j) undef).oneCell'=true/\RD ν x' (c.getD (i*k+j) undef) ((es.getD i .any).cells.getD j .any)):
  lY ν x' n 0 tot (.buf k es):=
 ⟨hk,ht,c,T,fr,hx,ae,hfr,fun i hi=>⟨(he i hi).1,fun j hj=>by simpa using(he i hi).2 j hj⟩⟩
end
section
variable {x:X} {f:Nat->Option bK} {C:CC} {defs:List (Option Nat)} {J:Src->bI} {ev:Operand->Value} {Y:Ctx} {m:List (Nat×bK)} {L:Nat}
def yp (hs:ff C.ν x f){w':World}{tot:Nat}(hw:fN x.w w')(hL:x.β L=none):Le x ⟨w',x.I,dP x.β L (x.w.heap.size,0,tot)⟩:=
 (vz hw (aY _) hL hs.imm).le
def C0 {v:Value}{d:D}{k:Nat}{T:TypeId}{r:Result Next}(hs:ff C.ν x f)(hL:x.β L=none)(hv:RD C.ν x v d)(hk:d.cells.length=k)(hk0:k≠0)
  (hr:r=.ok (.value (.pointer (some ⟨x.w.heap.size,0,none⟩))) (x.w.alloc (.cells v.cells T))):
  vS C.ν x (iq f [L] (dC m L (.buf k [d]))) L (.ptr L k 0 0) r:=by
 have hw:=fN.alloc x.w (.cells v.cells T);have hle:=yp (tot:=1) hs hw hL;obtain⟨c1,c2⟩:=hv.cells ae;refine mY (tot:=1) (blk:=.buf k [d]) hs hL hw aT ?_ (.ptr L k 0 0 x.w.heap.size 0 1 0 (by simp[dP]) aT) hr (fun l=>?_)
 ·refine qJ (w':=x.w) (L:=L) _ (dS x.w _) ae aT ae (fun o _=>aT) (fun i hi=>?_);simp at hi;subst hi;refine⟨by simpa using hk,fun j hj=>?_⟩;have:=c2 j ae;exact⟨by simpa using this.1,by simpa using this.2.mono hle⟩
 ·by_cases e:l=L
  ·subst e;simp[iq,cn,jt]
  ·simp[iq,e,jt]
def Jr {v:Value}{r:Result Next}(hs:ff C.ν x f)(hL:x.β L=none)(hv:RD C.ν x v (.agg [.nilp,.aV]))
  (hr:r=.ok (.value (.pointer (some ⟨x.w.heap.size,0,none⟩))) (x.w.alloc (.cells v.cells c7.tB))):
  vS C.ν x (iq f [L] (dC m L (.bld none 0 false))) L (.ptr L 2 0 0) r:=by
 have hw:=fN.alloc x.w (.cells v.cells c7.tB);refine mY (tot:=1) (blk:=.bld none 0 false) hs hL hw aT ?_ (.ptr L 2 0 0 x.w.heap.size 0 1 0 (by simp[dP]) aT) hr (fun l=>?_)
 ·refine⟨rfl,.slice none 0 0, ?_,rfl,rfl⟩;refine(dS x.w _).trans ?_;cases hv with
  |agg cs _ hl h1 h=>
   have e0:=h 0 aT;have e1:=h 1 aT;simp only[ku,List.getD_cons_succ]at e0 e1;have hl2:cs.size=2:=hl;have hcs:cs=#[.pointer none,.slice none 0 0]:=by
    apply Array.ext
    ·simpa using hl2
    ·intro i hi1 hi2;have hi:i=0\/i=1:=ae;rcases hi with rfl|rfl
     ·generalize hq:cs.getD 0 undef=q at e0;cases e0;simp[Array.getD,hi1]at hq;simpa using hq
     ·generalize hq:cs.getD 1 undef=q at e1;cases e1;simp[Array.getD,hi1]at hq;simpa using hq
   subst hcs;rfl
 ·by_cases e:l=L
  ·subst e;simp[iq,cn,jt]
  ·simp[iq,e,jt]
def HA {o:Oper}{i:aJ}(hc:C.op defs o=some i)(ho:(∃t,o.op=.alloc t)\/∃t p,o.op=.box t p)(hρ:sD C defs J ev x o.op.operands.toList)(hcst:∀d,J (.c d)=⟨true,d⟩)(hob:i.dN Y J m)(hs:ff C.ν x f)(hL:x.β L=none)(hB:∀t,C.cE.contains (1000000000+t)=true->t=c7.tB):
  vS C.ν x (iq f (i.wr J L) (i.cE Y J m L)) L (i.val Y J m L) ((execOp ev o).run C.P x.w):=by
 rcases ho with⟨t,ho⟩|⟨t,p,ho⟩
 ·simp only[CC.op,ho]at hc;split at hc
  ·rename_i z hz;split at hc
   ·cases hc
   rename_i hce;obtain⟨ti,v,hi,hzv,hr⟩:=pr (x:=x) hz;split at hc
   ·rename_i hB0;split at hc
    ·simp only[aQ]at hc;subst hc;exact Jr hs hL hr (by rw[<-hB t hB0];simp[execOp,ho,Instr.alloc,zeroValue,typeInfo,hi,hzv,newVar,newRow])
    ·cases hc
   simp only[aQ]at hc;subst hc;obtain⟨k1,k2⟩:=hob;simp only[hcst]at k2;have e:(aJ.box (C.P.cellsOf t) (.c z)).cE Y J m L=dC m L (.buf (C.P.cellsOf t) [z]):=by simp[aJ.cE,hcst]
   rw[e];refine C0 (T:=t) hs hL hr k2 hce ?_;simp[execOp,ho,Instr.alloc,zeroValue,typeInfo,hi,hzv,newVar,newRow]
  ·cases hc
 ·simp only[CC.op,ho]at hc;split at hc
  ·rename_i s h1;split at hc
   ·cases hc
   rename_i hce;simp only[aQ]at hc;subst hc;obtain⟨k1,k2⟩:=hob;exact C0 (T:=t) hs hL (hρ p (by simp[ho,Op.operands,Call.operands]) s h1 k1) k2 hce (by simp[execOp,ho,Instr.box,newVar,newRow])
  ·cases hc
def J0 {o:Oper}{i:aJ}{t:TypeId}{p:Operand}(hc:C.op defs o=some i)(ho:o.op=.load t p)(hρ:sD C defs J ev x o.op.operands.toList)(hob:i.dN Y J m)(hs:ff C.ν x f)(hag:y6 f m (i.k9 J)):
  vS C.ν x (iq f (i.wr J L) (i.cE Y J m L)) L (i.val Y J m L) ((execOp ev o).run C.P x.w):=by
 simp only[CC.op,ho]at hc;split at hc
 ·rename_i s h1;split at hc
  ·cases hc
  rename_i hce;simp only[aQ]at hc;subst hc;obtain⟨k1,k2⟩:=hob;have hv:=hρ p (by simp[ho,Op.operands,Call.operands]) s h1 k1;have haf:iq f ((aJ.ld (C.P.cellsOf t) (bZ C.P t) s).wr J L) ((aJ.ld (C.P.cellsOf t) (bZ C.P t) s).cE Y J m L)=f:=by funext l;simp[iq,aJ.wr]
  rw[haf];have hn0:C.P.cellsOf t≠0:=fun e=>hce (.inl e)
  have hu:(C.P.underlying t).isNone=false:=by cases hn:(C.P.underlying t).isNone with|false=>rfl|true=>exact absurd (.inr (.inl hn)) hce
  have h1':bZ C.P t=false->C.P.cellsOf t=1:=fun e=>by
   rcases Nat.decEq (C.P.cellsOf t) 1 with h|h
   ·exact absurd (.inr (.inr ⟨e,h⟩)) hce
   ·exact h
  cases hd:(J s).d<;>simp only[hd,Dh]at k2
  ·rename_i k es i o';rw[hd]at hv;generalize hep:ev p=vp at hv;cases hv with
   |ref b off _ _ _ at_ _ c hI hat hk hn hcc hone hh=>
    obtain⟨v,r1,r2⟩:=tG (P:=C.P) (ν:=C.ν) (x:=x) (e:=es.getD i .any) (k:=k) (n:=C.P.cellsOf t) (o:=o') (b:=b) (at0:=off+i*k) (ag:=bZ C.P t) (ty:=t) (c:=c i) (hk i k2.1) k2.2
     (fun j hj=>⟨hcc i j k2.1 hj,hone i j k2.1 hj,hh i j k2.1 hj⟩) rfl hn0 hu rfl h1'
    refine bz hs (v:=v) ?_ (by simp only[aJ.val,hd,BP];exact r2);simp[execOp,ho,hep,Instr.loadAt,Instr.sureAddr,hat,r1]
  ·rename_i l k i o';rw[hd]at hv;generalize hep:ev p=vp at hv;cases hv with
   |ptr _ _ _ _ b base tot at_ hβ hat=>
    obtain⟨g1,g2,g3⟩:=pR (n:=i+1) hs (hag l (by simp[hd,cN])) k2.1;obtain⟨hnI,hk0,ht,c,T,fr,q1,q2,q3,q4⟩:=hs.own l _ b base tot g1 hβ;have hi:i<(bf m l).length:=ae;obtain⟨v,r1,r2⟩:=tG (P:=C.P) (ν:=C.ν) (x:=x) (e:=(bf m l).getD i .any) (k:=k) (n:=C.P.cellsOf t) (o:=o') (b:=b) (at0:=base+i*k) (ag:=bZ C.P t) (ty:=t) (c:=fun j=>c.getD (base+i*k+j) undef)
     ((q4 i hi).1) k2.2
     (fun j hj=>⟨cell_of_heap q1 (by have:=ij (tot:=tot) (show i<tot by omega) hj;omega),((q4 i hi).2 j hj).1,((q4 i hi).2 j hj).2⟩) rfl hn0 hu rfl h1'
    refine bz hs (v:=v) ?_ (by simp only[aJ.val,hd,BP];exact r2);simp[execOp,ho,hep,Instr.loadAt,Instr.sureAddr,hat,r1]
 ·cases hc
def HE {o:Oper}{i:aJ}{t:TypeId}{p q:Operand}(hc:C.op defs o=some i)(ho:o.op=.store t p q)(hρ:sD C defs J ev x o.op.operands.toList)(hob:i.dN Y J m)(hs:ff C.ν x f)(hag:y6 f m (i.k9 J)):
  vS C.ν x (iq f (i.wr J L) (i.cE Y J m L)) L (i.val Y J m L) ((execOp ev o).run C.P x.w):=by
 simp only[CC.op,ho]at hc;split at hc
 ·rename_i s u h1 h2;split at hc
  ·cases hc
  rename_i hce;simp only[aQ]at hc;subst hc;obtain⟨k1,k2,k3,k4⟩:=hob;have hv:=hρ p (by simp[ho,Op.operands,Call.operands]) s h1 k1;have hw:=hρ q (by simp[ho,Op.operands,Call.operands]) u h2 k2;cases hd:(J s).d<;>simp only[hd]at k4;rename_i l k i o';rw[hd]at hv;generalize hep:ev p=vp at hv;cases hv with
  |ptr _ _ _ _ b base tot at_ hβ hat=>
   obtain⟨g1,g2,g3⟩:=pR (n:=i+1) hs (hag l (by simp[hd,cN])) k4.1;obtain⟨hnI,hk0,ht,c,T,fr,q1,q2,q3,q4⟩:=hs.own l _ b base tot g1 hβ;have hi:i<(bf m l).length:=ae;obtain⟨c1,c2⟩:=hw.cells ae;have hnl:(ev q).cells.toList.length=C.P.cellsOf t:=cz;have hin:∀j,j<C.P.cellsOf t->base+i*k+o'+j<c.size:=fun j hj=>by
    have:=ij (tot:=tot) (i:=i) (k:=k) (j:=o'+j) ae ae;omega
   have hst:=run_storeCells_cells (P:=C.P) b (base+i*k+o') (ev q).cells.toList 0 x.w
    (fun j hj=>by rw[cell_of_heap q1 (by have:=hin j ae;omega)];rfl)
    (fun j hj=>by
      have:=q3 (base+i*k+o'+0+j) (by have:=hin j ae;omega);simp only[World.frozen?,q1];simp only[dr,bx];omega)
    (fun v hv=>by
      obtain⟨j,hj,rfl⟩:=List.mem_iff_getElem.1 hv;rw[<-lQ _ j undef hj,bT];exact(c2 j ae).1)
   simp only[Nat.add_zero]at hst;obtain⟨c',s1,s2,s3⟩:=jU b (ev q).cells.toList (base+i*k+o') x.w c T fr q1 (by have:=hin (C.P.cellsOf t-1) ae;omega);obtain⟨f1,f2,f3,f4⟩:=jj b (ev q).cells.toList (base+i*k+o') x.w
   let w':=x.w.setCells b (base+i*k+o') (ev q).cells.toList
   have hother:∀b',b'≠b->w'.heap[b']? =x.w.heap[b']? :=fun b' hb'=>jk b _ _ _ b' hb'
   have hstep:Step x ⟨w',x.I,x.β⟩:=by
    refine⟨f1,f2,f3,by show _<=w'.heap.size;rw[f4];exact aY _,fun _ h=>h,fun b' hb'=>hother b' (fun e=>hnI (e▸hb')),fun _ _ h=>h,fun b' _ hn=>hother b' (fun e=>hn l _ hβ e.symm),fun _ h=>.inl h,fun _ _ h=>.inl h⟩
   let es':=(bf m l).set i (sw ((bf m l).getD i .any) k (C.P.cellsOf t) o' (J u).d)
   have hle:=hstep.le

   have hel:(sw ((bf m l).getD i .any) k (C.P.cellsOf t) o' (J u).d).cells.length=k/\∀j,j<k->
     (sw ((bf m l).getD i .any) k (C.P.cellsOf t) o' (J u).d).cells.getD j .any=if o'<=j/\j<o'+C.P.cellsOf t then(J u).d.cells.getD (j-o') .any else((bf m l).getD i .any).cells.getD j .any:=by
    unfold sw;have hkl:=(q4 i hi).1;cases hnk:((C.P.cellsOf t==k)&&((J u).d.isAgg ||!((bf m l).getD i .any).isAgg))
    ·simp only[cond_false];refine⟨(HK _ _ _ ae).trans hkl,fun j hj=>?_⟩;rw[<-k3];exact E6 _ _ _ ae _ _
    ·simp only[aZ,beq_iff_eq]at hnk;have hnk:=hnk.1;simp only[cond_true];refine⟨ae,fun j hj=>?_⟩;have:o'=0:=ae;subst this;rw[av ae];simp
   have hblk:lY C.ν ⟨w',x.I,x.β⟩ b base tot (.buf k es'):=by
    refine⟨hk0,by simp[es'];omega,c',T,fr,s1,ae,fun o'' ho''=>q3 o'' ae,fun i' hi'=>?_⟩;have hi2:i'<(bf m l).length:=by simpa[es']using hi'
    by_cases e:i'=i
    ·subst e;have hg:es'.getD i' .any=sw ((bf m l).getD i' .any) k (C.P.cellsOf t) o' (J u).d:=by simp[es',List.getD,List.getElem?_set,hi2]
     rw[hg];refine⟨hel.1,fun j hj=>?_⟩;rw[hel.2 j hj,s3];by_cases hj2:o'<=j/\j<o'+C.P.cellsOf t
     ·rw[av ae,av hj2,show base+i'*k+j-(base+i'*k+o')=j-o' by omega,bT];have:=c2 (j-o') ae;exact⟨this.1,this.2.mono hle⟩
     ·rw[ai ae,ai hj2];exact⟨((q4 i' hi2).2 j hj).1,((q4 i' hi2).2 j hj).2.mono hle⟩
    ·have hg:es'.getD i' .any=(bf m l).getD i' .any:=by simp[es',List.getD,List.getElem?_set,show ¬i=i' by omega]
     rw[hg];refine⟨(q4 i' hi2).1,fun j hj=>?_⟩;rw[s3];have hne:¬(base+i*k+o'<=base+i'*k+j/\base+i'*k+j<base+i*k+o'+(ev q).cells.toList.length):=by
      rw[hnl];rcases eJ i' i with hlt|hge
      ·have:(i'+1)*k<=i*k:=ek _ hlt;rw[Nat.succ_mul]at this;omega
      ·have:(i+1)*k<=i'*k:=ek _ ae;rw[Nat.succ_mul]at this;omega
     rw[ai hne];exact⟨((q4 i' hi2).2 j hj).1,((q4 i' hi2).2 j hj).2.mono hle⟩
   refine⟨undef,⟨w',x.I,x.β⟩,.inr ⟨?_,rfl⟩,hstep,.any _, ?_,fun _ _=>rfl⟩
   ·have hsz:(ev q).cells.size=C.P.cellsOf t:=ae;simp[execOp,ho,hep,Instr.storeAt,Instr.sureAddr,storeVar,di hce,hsz,hat,hst,w']
   ·have haf:∀l',iq f ((aJ.st (C.P.cellsOf t) s u).wr J L) ((aJ.st (C.P.cellsOf t) s u).cE Y J m L) l'=jt f l (some (.buf k es')) l':=by
     intro l';simp only[iq,aJ.wr,hd,cN,aJ.cE,cJ,cn,jt,es'];by_cases e:l'=l
     ·rw[av e,av e,av e]
     ·rw[ai e,ai e]
    refine⟨fun l' blk b' base' tot' e1 e2=>?_,fun l1 l2 b' base' tot' base'' tot'' e1 e2 e3 e4=>?_,fun b' hb'=>by show b'<w'.heap.size;rw[f4];exact hs.imm b' hb',fun l' b' base' tot' e=>by show b'<w'.heap.size;rw[f4];exact hs.eg l' b' base' tot' e,oe hle hs.gd⟩
    ·rw[haf]at e1;by_cases e:l'=l
     ·subst e;simp only[jt,br,aQ]at e1;subst e1;have e2':x.β l'=some (b',base',tot'):=e2;rw[hβ]at e2';simp only[aQ,dU]at e2';obtain⟨rfl,rfl,rfl⟩:=e2';exact⟨hnI,hblk⟩
     ·simp only[jt,e,bn]at e1;obtain⟨a1,a2⟩:=hs.own l' blk b' base' tot' e1 e2;refine⟨a1,a2.mono hle (hother b' (fun eb=>?_))⟩;subst eb;exact e (hs.inj l' l b' base' tot' base tot (by rw[e1];simp) (by rw[g1];simp) e2 hβ)
    ·rw[haf]at e1 e2;refine hs.inj l1 l2 b' base' tot' base'' tot'' ?_ ?_ e3 e4
     ·by_cases e:l1=l
      ·rw[e,g1];simp
      ·simpa[jt,e]using e1
     ·by_cases e:l2=l
      ·rw[e,g1];simp
      ·simpa[jt,e]using e2
 ·cases hc
end
end
section
variable [c7]
section
variable {x:X} {f:Nat->Option bK} {C:CC} {defs:List (Option Nat)} {J:Src->bI} {ev:Operand->Value} {Y:Ctx} {m:List (Nat×bK)} {L:Nat}
def tx (f:Nat->Option bK)(m:List (Nat×bK))(L:Nat)(b:bK):∀l,iq f [L] (dC m L b) l=jt f L (some b) l:=by
 intro l;by_cases e:l=L
 ·subst e;simp[iq,cn,jt]
 ·simp[iq,e,jt]
def Fx {z:Value}{d:D}{k:Nat}(hz:RD C.ν x z d)(hk:d.cells.length=k)(hk0:k≠0)(n i j:Nat)(hi:i<n)(hj:j<k):
  (((Array.range (n*k)).map (z.cells[· %z.cells.size]!)).getD (i*k+j) undef)=z.cells.getD j undef:=by
 obtain⟨c1,_⟩:=hz.cells ae;have hlt:=ij hi hj;have hm:(i*k+j)%k=j:=by rw[Nat.mul_comm,Nat.mul_add_mod];exact Nat.mod_eq_of_lt hj
 simp[Array.getD,hlt,c1,hk,hm,show j<k from hj]
def HD {o:Oper}{i:aJ}{t:TypeId}{p:Operand}(hc:C.op defs o=some i)(ho:o.op=.range t p)(hρ:sD C defs J ev x o.op.operands.toList)(hob:i.dN Y J m)(hs:ff C.ν x f)(hL:x.β L=none):
  vS C.ν x (iq f (i.wr J L) (i.cE Y J m L)) L (i.val Y J m L) ((execOp ev o).run C.P x.w):=by
 simp only[CC.op,ho]at hc;split at hc
 ·rename_i s hu h1;simp only[aQ]at hc;subst hc;obtain⟨k1,k2⟩:=hob;have hv:=hρ p (by simp[ho,Op.operands,Call.operands]) s h1 k1;cases hd:(J s).d<;>simp only[hd]at k2;rename_i b;rw[hd]at hv;obtain⟨e1,e2⟩:=hv.iz;have e:(aJ.nT s).cE Y J m L=dC m L (.iter b 0):=by simp[aJ.cE,hd]
  rw[e];refine mY (tot:=0) (blk:=.iter b 0) hs hL (fN.alloc x.w (.stringIter ⟨⟨b⟩⟩ 0)) aT ⟨dS x.w _,e2⟩ (.it L x.w.heap.size 0 0 (by simp[dP])) ?_ (tx f m L _);simp[execOp,ho,e1,Instr.range,run_underlying hu]
 ·cases hc
def MY {o:Oper}{i:aJ}{s d:TypeId}{p:Operand}{a:Src}(hc:C.op defs o=some (.s2b a))(ho:o.op=.convert s d p)(hρ:sD C defs J ev x o.op.operands.toList)(hob:(aJ.s2b a).dN Y J m)(hs:ff C.ν x f)(hL:x.β L=none):
  vS C.ν x (iq f ((aJ.s2b a).wr J L) ((aJ.s2b a).cE Y J m L)) L ((aJ.s2b a).val Y J m L) ((execOp ev o).run C.P x.w):=by
 simp only[CC.op,ho]at hc;split at hc
 ·simp at hc
 ·simp at hc
 ·rename_i eT a' hu1 hu2 h1;split at hc
  ·rename_i hue;simp only[aQ,aJ.s2b.injEq]at hc;subst hc;obtain⟨k1,k2⟩:=hob;have hv:=hρ p (by simp[ho,Op.operands,Call.operands]) a' h1 k1;cases hd:(J a').d<;>simp only[hd]at k2;rename_i b;rw[hd]at hv;obtain⟨e1,e2⟩:=hv.iz;have e:(aJ.s2b a').cE Y J m L=dC m L (.buf 1 (b.map fun q=>.int .u8 q.toNat)):=by simp[aJ.cE,hd]
   rw[e];have hsz:(⟨⟨b⟩⟩:ByteArray).size=b.length:=rfl
   let cap:=grownCap x.w b.length 0 eT
   have hcap:b.length<=cap:=grownCap_ge x.w b.length 0 eT;have hcm:cap<=maxLen:=grownCap_le_maxLen x.w b.length 0 eT e2
   let row:=bytesRow ⟨⟨b⟩⟩ cap
   have hrs:row.size=cap:=by simp[row,bytesRow,hsz];show b.length+(cap-b.length)=cap;omega
   have hrun:=run_bytes_of_string (P:=C.P) x.w s d eT ⟨⟨b⟩⟩ hu1 hu2 hue;have hgrow:fN x.w (x.w.drew.alloc (.cells row eT (row.size,row.size+1))):=(fN.drew x.w).trans (fN.alloc x.w.drew _);have hnew:(x.w.drew.alloc (.cells row eT (row.size,row.size+1))).heap[x.w.heap.size]? =some (.cells row eT (row.size,row.size+1)):=dS x.w.drew _;have hget:∀i,i<b.length->row.getD i undef=.int .u8 (b.getD i 0).toNat:=by
    intro i hi;have e3:(b.map fun q=>Value.int .u8 q.toNat).getD i undef=.int .u8 (b.getD i 0).toNat:=by simp[List.getD,hi]
    rw[<-e3,<-bT];simp[row,bytesRow,List.getD,List.getElem?_append,hi]
   refine mY (v:=.slice (some ⟨x.w.heap.size,0,none⟩) b.length cap) (tot:=cap) (blk:=bK.buf 1 (List.map (fun q:UInt8=>D.int .u8 (q.toNat:Int)) b)) hs hL hgrow (by show _<(x.w.heap.push _).size;simp) ?_ ?_ ?_ (tx f m L _)
   ·refine qJ (w':=x.w) (L:=L) _ hnew ae (by simpa using hcap) ae (fun o' ho'=>cz) (fun i hi=>?_);simp only[cI]at hi;have hg:(b.map fun q=>D.int .u8 q.toNat).getD i .any=.int .u8 (b.getD i 0).toNat:=by simp[List.getD,hi]
    rw[hg];refine⟨rfl,fun j hj=>?_⟩;have:j=0:=ae;subst this;rw[show i*1+0=i by omega,hget i hi];exact⟨rfl,.int _ _⟩
   ·simp only[aJ.val,hd];exact .own L 1 0 b.length x.w.heap.size 0 cap cap ⟨x.w.heap.size,0,none⟩ (by simp[dP]) (fun _=>aT) hcap hcm ae
   ·simp only[execOp,ho,e1,Sem.run_bind,hrun,Result.andThen_ok,Sem.run_pure];rfl
  ·cases hc
 ·split at hc
  ·simp at hc
  ·cases hc
 ·cases hc
def MV {o:Oper}{s d:TypeId}{p:Operand}{a:Src}(hc:C.op defs o=some (.b2s a))(ho:o.op=.convert s d p)(hρ:sD C defs J ev x o.op.operands.toList)(hob:(aJ.b2s a).dN Y J m)(hs:ff C.ν x f)(hag:y6 f m ((aJ.b2s a).k9 J)):
  vS C.ν x (iq f ((aJ.b2s a).wr J L) ((aJ.b2s a).cE Y J m L)) L ((aJ.b2s a).val Y J m L) ((execOp ev o).run C.P x.w):=by
 have haf:iq f ((aJ.b2s a).wr J L) ((aJ.b2s a).cE Y J m L)=f:=by funext l;simp[iq,aJ.wr]
 rw[haf];simp only[CC.op,ho]at hc;split at hc
 ·simp at hc
 ·simp at hc
 ·split at hc
  ·simp at hc
  ·cases hc
 ·rename_i eT a' hu1 hu2 h1;split at hc
  ·rename_i hue;simp only[aQ,aJ.b2s.injEq]at hc;subst hc;obtain⟨k1,k2,k3,k4⟩:=hob;have hv:=hρ p (by simp[ho,Op.operands,Call.operands]) a' h1 k1;have hd1:C.P.underlying d=some .string:=hu2;have hconv:∀b l c,ev p=.slice b l c->(execOp ev o).run C.P x.w=((Conv.bytesToString (.slice b l c)).run C.P x.w).andThen fun v w'=>.ok (.value v) w':=by
    intro b l c he;simp only[execOp,ho,he,Sem.run_bind,run_convert_bytes_string x.w s d eT b l c hu1 hue hu2,Sem.run_pure]
   have key:∀(aa:Addr) (len cap:Nat) (es:List D),es.length=len->(∀e∈es,e.EJ)->len<=maxLen->(∀i,i<len->∃v,x.w.cell? ⟨aa.block,aa.off+i,none⟩=some v/\RD C.ν x v (es.getD i .any))->(0<len->aa.spot=none)->
     ev p=.slice (some aa) len cap->vS C.ν x f L (.str (es.map D.u8)) ((execOp ev o).run C.P x.w):=by
    intro aa len cap es hlen hu8 hm hcell hspot he;have hv':∀i,i<len->∃n,es.getD i .any=.int .u8 n/\0<=n/\n<256:=by
     intro i hi;have hmem:=hu8 (es.getD i .any) (by rw[lQ _ _ _ ae];exact List.getElem_mem _);cases hg:es.getD i .any<;>simp only[hg,D.EJ]at hmem;obtain⟨rfl,h1,h2⟩:=hmem;exact⟨_,rfl,h1,h2⟩
    let ns:List Int:=es.map fun e=>match e with| .int _ n=>n|_=>0
    have hload:(loadCells aa len).run C.P x.w=.ok (ns.map (Value.int .u8)).toArray x.w:=by
     have:=run_loadCells (P:=C.P) x.w aa len (fun j=>.int .u8 (ns.getD j 0)) (fun j hj=>by
      obtain⟨v,c1,c2⟩:=hcell j hj;obtain⟨n,g1,_,_⟩:=hv' j hj;have hn:ns.getD j 0=n:=by
       rw[lQ _ _ _ ae]at g1;simp[ns,List.getD,show j<es.length by omega,g1]
      rw[hn];rw[g1]at c2;rw[<-c2.dA,<-c1];have hsp:=hspot ae;congr 1;obtain⟨ab,ao,acV⟩:=aa;simp only at hsp;subst hsp;rw[Addr.sZ])
     rw[this];congr 2;apply List.ext_getElem
     ·simp[ns,hlen]
     ·intro i h1 h2;simp at h1 h2;simp[List.getD,ns,show i<es.length by omega]
    refine bz hs (v:=.string ⟨⟨es.map D.u8⟩⟩) ?_ (.str _ cz);rw[hconv _ _ _ he,run_bytesToString x.w aa len cap ns hload];simp only[Result.andThen_ok];congr 3;have hfold:∀(l:List Int) (s0:ByteArray),l.foldl (fun r n=>r.push (UInt8.ofNat n.toNat)) s0=⟨⟨s0.data.toList++l.map fun n=>UInt8.ofNat n.toNat⟩⟩:=by
     intro l;induction l with
     |nil=>intro s0;simp
     |cons n r ih=>
      intro s0;rw[List.foldl_cons,ih];congr 2;simp[ByteArray.push]
    rw[hfold];have e0:(ByteArray.empty.data.toList:List UInt8)=[]:=rfl;rw[e0,eG];congr 2;simp only[ns,List.map_map];apply List.map_congr_left;intro e he';have:=hu8 e he';cases e<;>simp only[D.EJ]at this;rfl
   cases hd:(J a').d<;>simp only[hd,yc]at k2 k3 k4
   ·
    rw[hd]at hv;simp only[aJ.val,hd,nL,List.map_nil];generalize hep:ev p=vp at hv;cases hv;refine bz hs (v:=.string ⟨⟨[]⟩⟩) ?_ (.str _ aT);rw[hconv _ _ _ hep];rfl
   ·rename_i k es;rw[hd]at hv;simp only[aJ.val,hd,nL];simp only[nL]at k4;subst k3;generalize hep:ev p=vp at hv;cases hv with
    |sl aa b off len cap _ _ c hlen ha hcap hm hk hn hcc hone hh=>
     by_cases he0:es=[]
     ·subst he0;simp at hlen;subst hlen;refine bz hs (v:=.string ⟨⟨[]⟩⟩) ?_ (.str _ aT);rw[hconv _ _ _ hep];cases aa with
      |none=>rfl
      |some aa=>
       rw[run_bytesToString x.w aa 0 cap [] (by simp[loadCells,loadCellsFrom])];rfl
     ·rcases ha with h|⟨rfl,hI⟩
      ·exact absurd h he0
      ·refine key _ len cap es hlen.symm k4 ae (fun i hi=>⟨c i 0,by have:=hcc i 0 hi ae;simpa using this, ?_⟩) (fun _=>rfl) hep;have:=hh i 0 hi ae;have hk1:=hk i hi;cases hg:es.getD i .any<;>rw[hg]at this hk1<;>simp only[D.cells,az,ay]at hk1 this<;>first|omega|exact this|skip
       rename_i cs;have hmem:=k4 (es.getD i .any) (by rw[lQ _ _ _ ae];exact List.getElem_mem _);rw[hg]at hmem;simp[D.EJ]at hmem
   ·rename_i l k i n;rw[hd]at hv;simp only[aJ.val,hd,nL];simp only[nL]at k4;obtain⟨k5,k6⟩:=k3;subst k5;generalize hep:ev p=vp at hv;cases hv with
    |own _ _ _ _ b base tot cap aa hβ ha hcap hm ht=>
     obtain⟨g1,g2,g3⟩:=pR hs (hag l (by simp[hd,cN])) k6;obtain⟨hnI,hk0,ht',c,T,fr,q1,q2,q3,q4⟩:=hs.own l _ b base tot g1 hβ;have hlen:(((bf m l).drop i).take n).length=n:=hR _ _ _ g2;refine key aa n cap _ hlen k4 ae (fun j hj=>?_) (fun h=>by rw[ha ae]) hep;have ha':=ha ae;subst ha';have hij:i+j<(bf m l).length:=ae;refine⟨c.getD (base+(i+j)*1+0) undef, ?_, ?_⟩
     ·rw[show base+i*1+j=base+(i+j)*1+0 by omega];exact cell_of_heap q1 ae
     ·rw[ea _ _ _ _ _ hj];have:=((q4 (i+j) hij).2 0 ae).2;have hk1:=(q4 (i+j) hij).1;cases hg:(bf m l).getD (i+j) .any<;>rw[hg]at this hk1<;>simp only[D.cells,az,ay]at hk1 this<;>first|omega|exact this|skip
      rename_i cs;have hmem:=k4 ((((bf m l).drop i).take n).getD j .any) (by rw[lQ _ _ _ ae];exact List.getElem_mem _);rw[ea _ _ _ _ _ hj,hg]at hmem;simp[D.EJ]at hmem
    |own0=>
     simp only[List.take_zero,List.map_nil];refine bz hs (v:=.string ⟨⟨[]⟩⟩) ?_ (.str _ aT);rw[hconv _ _ _ hep];rfl
  ·cases hc
 ·cases hc
def J1 {o:Oper}{i:aJ}{p:Operand}(hc:C.op defs o=some i)(ho:o.op=.next p true)(hρ:sD C defs J ev x o.op.operands.toList)(hob:i.dN Y J m)(hs:ff C.ν x f)(hag:y6 f m (i.k9 J)):
  vS C.ν x (iq f (i.wr J L) (i.cE Y J m L)) L (i.val Y J m L) ((execOp ev o).run C.P x.w):=by
 simp only[CC.op,ho,dj]at hc;obtain⟨s,h1,rfl⟩:=hc;obtain⟨k1,k2⟩:=hob;have hv:=hρ p (by simp[ho,Op.operands,Call.operands]) s h1 k1;cases hd:(J s).d<;>simp only[hd]at k2;rename_i l;rw[hd]at hv;cases hl:look m l with
 |none=>simp[hl]at k2
 |some blk=>
  cases blk with
  |buf k es=>simp[hl]at k2
  |row s=>simp[hl]at k2
  |bld o n u=>simp[hl]at k2
  |iter b pos=>
   have hfl:f l=some (.iter b pos):=by rw[<-hl];exact hag l (by simp[hd,cN])
   generalize hep:ev p=vp at hv;cases hv with
   |it _ bb base tot hβ=>
    obtain⟨hnI,hb1,fV⟩:=hs.own l _ bb base tot hfl hβ;have hlt:=hs.eg l bb base tot hβ;by_cases hp:pos<b.length
    ·have hsz:(⟨⟨b⟩⟩:ByteArray).size=b.length:=rfl
     let w':World:={x.w with heap:=x.w.heap.setIfInBounds bb (.stringIter ⟨⟨b⟩⟩ (pos+(rL b pos).2))}
     have hother:∀b',b'≠bb->w'.heap[b']? =x.w.heap[b']? :=fun b' hb'=>by simp[w',Array.getElem?_setIfInBounds,show ¬bb=b' by omega]
     have hhere:w'.heap[bb]? =some (.stringIter ⟨⟨b⟩⟩ (pos+(rL b pos).2)):=by simp[w',hlt]
     have hsize:w'.heap.size=x.w.heap.size:=by simp[w']
     have hstep:Step x ⟨w',x.I,x.β⟩:=
      ⟨rfl,rfl,rfl,by show _<=w'.heap.size;omega,fun _ h=>h,fun b' hb'=>hother b' (fun e=>hnI (e▸hb')),fun _ _ h=>h,fun b' _ hn=>hother b' (fun e=>hn l _ hβ e.symm),fun _ h=>.inl h,fun _ _ h=>.inl h⟩
     have haf:∀l',iq f ((aJ.vU s).wr J L) ((aJ.vU s).cE Y J m L) l'=jt f l (some (.iter b (pos+(rL b pos).2))) l':=by
      intro l';simp only[iq,aJ.wr,hd,cN,aJ.cE,hl,hp,decide_true,cond_true,cJ,cn,jt];by_cases e:l'=l
      ·rw[av e,av e,av e]
      ·rw[ai e,ai e]
     refine⟨.tuple #[.bool true,.int .i64 pos,.int .i32 (rL b pos).1],⟨w',x.I,x.β⟩,.inl ?_,hstep, ?_, ?_,fun _ _=>rfl⟩
     ·have hobj:(getObj bb).run C.P x.w=.ok (.stringIter ⟨⟨b⟩⟩ pos) x.w:=by simp[getObj,Sem.run,hb1]
      have hset:∀ob:Obj,(setObj bb ob).run C.P x.w=.ok () {x.w with heap:=x.w.heap.setIfInBounds bb ob}:=by intro ob;simp[setObj,Sem.run,hb1]
      simp[execOp,ho,hep,Instr.next,hobj,hsz,hp,hset,goInt,rL,w']
     ·simp only[aJ.val,hd,hl,hp,decide_true,cond_true];refine .tup _ _ aT (fun i hi=>?_);simp at hi
      match i,hi with
      |0,_=>simpa using RD.bool true
      |1,_=>simpa using RD.int .i64 pos
      |2,_=>simpa using RD.int .i32 (rL b pos).1
     ·refine⟨fun l' blk b' base' tot' e1 e2=>?_,fun l1 l2 b' base' tot' base'' tot'' e1 e2 e3 e4=>?_,fun b' hb'=>by show b'<w'.heap.size;rw[hsize];exact hs.imm b' hb',fun l' b' base' tot' e=>by show b'<w'.heap.size;rw[hsize];exact hs.eg l' b' base' tot' e,oe hstep.le hs.gd⟩
      ·rw[haf]at e1;by_cases e:l'=l
       ·subst e;simp only[jt,br,aQ]at e1;subst e1;have e2':x.β l'=some (b',base',tot'):=e2;rw[hβ]at e2';simp only[aQ,dU]at e2';obtain⟨rfl,rfl,rfl⟩:=e2';exact⟨hnI,hhere,fV⟩
       ·simp only[jt,e,bn]at e1;obtain⟨a1,a2⟩:=hs.own l' blk b' base' tot' e1 e2;refine⟨a1,a2.mono hstep.le (hother b' (fun eb=>?_))⟩;subst eb;exact e (hs.inj l' l b' base' tot' base tot (by rw[e1];simp) (by rw[hfl];simp) e2 hβ)
      ·rw[haf]at e1 e2;refine hs.inj l1 l2 b' base' tot' base'' tot'' ?_ ?_ e3 e4
       ·by_cases e:l1=l
        ·rw[e,hfl];simp
        ·simpa[jt,e]using e1
       ·by_cases e:l2=l
        ·rw[e,hfl];simp
        ·simpa[jt,e]using e2
    ·have haf:iq f ((aJ.vU s).wr J L) ((aJ.vU s).cE Y J m L)=f:=by
      funext l';simp only[iq,aJ.wr,hd,cN,aJ.cE,hl,hp,decide_false,cond_false,cJ];by_cases e:l'=l
      ·rw[av e,e,hl,hfl]
      ·rw[ai e]
     rw[haf];refine bz hs (v:=.tuple #[.bool false]) ?_ ?_
     ·have hsz:(⟨⟨b⟩⟩:ByteArray).size=b.length:=rfl;have hobj:(getObj bb).run C.P x.w=.ok (.stringIter ⟨⟨b⟩⟩ pos) x.w:=by simp[getObj,Sem.run,hb1]
      simp[execOp,ho,hep,Instr.next,hobj,hsz,hp]
     ·simp only[aJ.val,hd,hl,hp,decide_false,cond_false];refine .tup _ _ aT (fun i hi=>?_);simp at hi;subst hi;simpa using RD.bool false
def sJ {k n:Nat}{os':List Operand}(hρ:sD C defs J ev x os')(hk0:k≠0):∀(ps:List (Nat×Operand))(ss:List (Nat×Src)),(∀p∈ps,p.2∈os')->C.sc defs ps=some ss->p0 J k n ss->
  ∀(cs:Array Value) (es:List D),cs.size=n*k->es.length=n->
   (∀i,i<n->(es.getD i .any).cells.length=k/\∀j,j<k->(cs.getD (i*k+j) undef).oneCell'=true/\RD C.ν x (cs.getD (i*k+j) undef) ((es.getD i .any).cells.getD j .any))->
  ∃cs',Instr.fill (fun i=>some (i*k,k)) cs (ps.map fun(i,o)=>(i,ev o))=some cs'/\cs'.size=n*k/\(kC J es ss).length=n/\
   ∀i,i<n->((kC J es ss).getD i .any).cells.length=k/\∀j,j<k->(cs'.getD (i*k+j) undef).oneCell'=true/\RD C.ν x (cs'.getD (i*k+j) undef) (((kC J es ss).getD i .any).cells.getD j .any)
 |[],ss,_,h,_,cs,es,h1,h2,h3=>by simp[CC.sc]at h;subst h;exact⟨cs,by simp[Instr.fill],h1,by simpa[kC]using h2,by simpa[kC]using h3⟩
 |(i,o)::r,ss,hm,h,hk,cs,es,h1,h2,h3=>by
  simp only[CC.sc]at h;split at h
  ·rename_i s l g1 g2;simp only[aQ]at h;subst h;simp only[p0]at hk;obtain⟨k1,k2,k3,k4⟩:=hk;have hv:=hρ o (hm _ (.head _)) s g1 k2;obtain⟨c1,c2⟩:=hv.cells ae;have hsz:(ev o).cells.size=k:=ae;have hb:i*k+k<=n*k:=by rw[<-Nat.succ_mul];exact ek _ k1
   obtain⟨f1,f2⟩:=uo (i*k) (ev o).cells.toList 0 cs cz
   let cs1:Array Value:=((ev o).cells.toList.zipIdx 0).foldl (fun cs (c,j)=>cs.setIfInBounds (i*k+j) c) cs
   have hcs1:(ev o).cells.zipIdx.foldl (fun cs (c,j)=>cs.setIfInBounds (i*k+j) c) cs=cs1:=by
    rw[<-Array.foldl_toList];simp[cs1]
   have hget:∀q,cs1.getD q undef=if i*k<=q/\q<i*k+k then(ev o).cells.getD (q-i*k) undef else cs.getD q undef:=by
    intro q;have:=f2 q;rw[<-bT,<-bT cs,<-bT (ev o).cells];simp only[List.getD,Array.getElem?_toList];rw[show cs1[q]? =_ from this];simp only[Array.length_toList,hsz,Nat.add_zero];split
    ·simp
    ·rfl
   have hel:∀i',i'<n->((es.set i (J s).d).getD i' .any)=if i'=i then(J s).d else es.getD i' .any:=by
    intro i' hi';by_cases e:i'=i
    ·subst e;simp[List.getD,List.getElem?_set,show i'<es.length by omega]
    ·simp[List.getD,List.getElem?_set,show ¬i=i' by omega,e]
   obtain⟨cs',r1,r2,r3,r4⟩:=sJ hρ hk0 r l (fun p hp=>hm p (.tail _ hp)) g2 k4 cs1 (es.set i (J s).d) (f1.trans h1) (by simpa using h2) (fun i' hi'=>by
    rw[hel i' hi'];by_cases e:i'=i
    ·subst e;rw[av rfl];refine⟨k3,fun j hj=>?_⟩;rw[hget,av ae,show i'*k+j-i'*k=j by omega];exact c2 j ae
    ·rw[ai e];refine⟨(h3 i' hi').1,fun j hj=>?_⟩;have hne:¬(i*k<=i'*k+j/\i'*k+j<i*k+k):=by
      rcases eJ i' i with hlt|hge
      ·have:(i'+1)*k<=i*k:=ek _ hlt;rw[Nat.succ_mul]at this;omega
      ·have:(i+1)*k<=i'*k:=ek _ ae;rw[Nat.succ_mul]at this;omega
     rw[hget,ai hne];exact(h3 i' hi').2 j hj)
   refine⟨cs', ?_,r2,by simpa[kC]using r3,by simpa[kC]using r4⟩;simp only[List.map_cons,Instr.fill];rw[ai (by simp[hsz];omega),hcs1];exact r1
  ·cases h
def xj {z:Value}{d:D}{k n:Nat}(hz:RD C.ν x z d)(hk:d.cells.length=k)(hk0:k≠0):
  ∀i,i<n->((List.replicate n d).getD i .any).cells.length=k/\∀j,j<k->(((Array.range (n*k)).map (z.cells[· %z.cells.size]!)).getD (i*k+j) undef).oneCell'=true/\RD C.ν x (((Array.range (n*k)).map (z.cells[· %z.cells.size]!)).getD (i*k+j) undef) (((List.replicate n d).getD i .any).cells.getD j .any):=by
 intro i hi;obtain⟨_,c2⟩:=hz.cells ae;have e:(List.replicate n d).getD i .any=d:=by simp[List.getD,hi]
 rw[e];refine⟨hk,fun j hj=>?_⟩;rw[Fx hz hk hk0 n i j hi hj];exact c2 j ae
def MW {o:Oper}{i:aJ}{t:TypeId}{n:Nat}{ps:Array (Nat×Operand)}(hc:C.op defs o=some i)(ho:o.op=.buildSlice t n ps)(hρ:sD C defs J ev x o.op.operands.toList)(hob:i.dN Y J m)(hs:ff C.ν x f)(hL:x.β L=none):
  vS C.ν x (iq f (i.wr J L) (i.cE Y J m L)) L (i.val Y J m L) ((execOp ev o).run C.P x.w):=by
 simp only[CC.op,ho]at hc;split at hc
 ·rename_i e hu;split at hc
  ·rename_i z l hz h1;split at hc
   ·cases hc
   rename_i hce;simp only[aQ]at hc;subst hc;obtain⟨k1,k2⟩:=hob;obtain⟨ti,v,hi,hzv,hr⟩:=pr (x:=x) hz;have hce0:C.P.cellsOf e≠0:=fun h=>hce (.inl h)
   have hsz:ti.size=C.P.cellsOf e:=by simp[Program.cellsOf,hi]
   have hsmall:¬n*ti.size>2^24:=fun h=>hce (.inr (by rw[hsz]at h;simpa using h))
   obtain⟨cs',r1,r2,r3,r4⟩:=sJ hρ hce0 ps.toList l (fun p hp=>by simp only[ho,Op.operands,eI];exact⟨p,hp,rfl⟩) h1 k2 ((Array.range (n*C.P.cellsOf e)).map (v.cells[· %v.cells.size]!)) (List.replicate n z) aT aT (xj hr k1 hce0);have hgrow:=fN.alloc x.w (.cells cs' e);have hle:=yp (tot:=n) hs hgrow hL;have he:(aJ.bsl (C.P.cellsOf e) z n l).cE Y J m L=dC m L (bK.buf (C.P.cellsOf e) (kC J (List.replicate n z) l)):=rfl;rw[he];have hrun:(Instr.buildSlice t n (ps.map fun(i,x)=>(i,ev x))).run C.P x.w=.ok (.slice (some ⟨x.w.heap.size,0,none⟩) n n) (x.w.alloc (.cells cs' e)):=by
    by_cases hn:n=0
    ·subst hn;have hcs0:cs'=#[]:=Array.eq_empty_of_size_eq_zero (by simpa using r2);have hps:ps.toList=[]:=by
      cases hp:ps.toList with
      |nil=>rfl
      |cons q r=>
       rw[hp]at h1;obtain⟨i0,o0⟩:=q;simp only[CC.sc]at h1;split at h1
       ·rename_i s' l' _ _;simp only[aQ]at h1;subst h1;simp[p0]at k2
       ·cases h1
     have hps':ps=#[]:=by apply Array.ext';simpa using hps
     subst hps';simp[Instr.buildSlice,run_underlying hu,sizeOf,typeInfo,hi,Instr.fill,newRow,hcs0,show Array.range 0=#[]from rfl]
    ·refine run_buildSlice x.w t e n _ cs' ti v hu hi hzv hsmall ?_ ?_
     ·rw[hsz];intro h0;rcases Nat.mul_eq_zero.1 h0 with h|h
      ·exact hn h
      ·exact hce0 h
     ·rw[hsz,Array.toList_map];exact r1
   refine mY (v:=.slice (some ⟨x.w.heap.size,0,none⟩) n n) (tot:=n) (blk:=bK.buf (C.P.cellsOf e) (kC J (List.replicate n z) l)) hs hL hgrow aT ?_ ?_ ?_ (tx f m L _)
   ·exact qJ (w':=x.w) (L:=L) _ (dS x.w _) ae ae ae (fun o' _=>aT) (fun i hi=>⟨(r4 i ae).1,fun j hj=>⟨((r4 i ae).2 j hj).1,((r4 i ae).2 j hj).2.mono hle⟩⟩)
   ·exact .own L (C.P.cellsOf e) 0 n x.w.heap.size 0 n n ⟨x.w.heap.size,0,none⟩ (by simp[dP]) (fun _=>aT) (aY _) (by have:n*1<=n*C.P.cellsOf e:=Nat.mul_le_mul_left _ ae;have h3:¬n*C.P.cellsOf e>16777216:=fun h=>hce (.inr h);simp only[maxLen];omega) ae
   ·simp only[execOp,ho,Sem.run_bind,hrun,Result.andThen_ok,Sem.run_pure]
  ·cases hc
 ·cases hc
def MX {o:Oper}{i:aJ}{t:TypeId}{p q:Operand}(hc:C.op defs o=some i)(ho:o.op=.makeSlice t p q)(hρ:sD C defs J ev x o.op.operands.toList)(hob:i.dN Y J m)(hs:ff C.ν x f)(hL:x.β L=none):
  vS C.ν x (iq f (i.wr J L) (i.cE Y J m L)) L (i.val Y J m L) ((execOp ev o).run C.P x.w):=by
 simp only[CC.op,ho]at hc;split at hc
 ·rename_i e hu;split at hc
  ·rename_i z ln cp hz h1 h2;split at hc
   ·cases hc
   rename_i hce;simp only[aQ]at hc;subst hc;obtain⟨k1,k2,k3,k4⟩:=hob;have hv:=hρ p (by simp[ho,Op.operands,Call.operands]) ln h1 k1;have hw:=hρ q (by simp[ho,Op.operands,Call.operands]) cp h2 k2;cases hd:(J ln).d<;>cases hd2:(J cp).d<;>simp only[hd,hd2]at k4;rename_i kk n kk' c;rw[hd]at hv;rw[hd2]at hw;obtain⟨ti,v,hi,hzv,hr⟩:=pr (x:=x) hz;have hce0:C.P.cellsOf e≠0:=fun h=>hce (.inl h)
   have hsz:ti.size=C.P.cellsOf e:=by simp[Program.cellsOf,hi]
   have hby:ti.bytes<=65536:=by
    have:¬C.P.bytesOf e>65536:=fun h=>hce (.inr h)
    simp[Program.bytesOf,hi]at this;omega
   have hbytes:(ti.bytes:Int)*c<=281474976710656:=by
    have h1:(ti.bytes:Int)*c<=65536*c:=Int.mul_le_mul_of_nonneg_right ae ae;have h2:(65536:Int)*c<=65536*1073741824:=Int.mul_le_mul_of_nonneg_left ae ae;omega
   have hrun:=run_make (P:=C.P) x.w t e ti v hu hi hzv kk kk' n c k4.1 k4.2.1 hbytes ae;rw[hsz]at hrun;have hgrow:=fN.alloc x.w (.cells (madeCells v.cells (c.toNat*C.P.cellsOf e)) e);have hle:=yp (tot:=c.toNat) hs hgrow hL;have hrep:=xj (n:=c.toNat) hr k3 hce0;have hms:(madeCells v.cells (c.toNat*C.P.cellsOf e)).size=c.toNat*C.P.cellsOf e:=size_madeCells _ _;have he:(aJ.mks (C.P.cellsOf e) z ln cp).cE Y J m L=dC m L (.buf (C.P.cellsOf e) (List.replicate n.toNat z)):=by simp[aJ.cE,hd,D.nat]
   rw[he];refine mY (v:=.slice (some ⟨x.w.heap.size,0,none⟩) n.toNat c.toNat) (tot:=c.toNat) (blk:=.buf (C.P.cellsOf e) (List.replicate n.toNat z)) hs hL hgrow aT ?_ ?_ ?_ (tx f m L _)
   ·refine qJ (w':=x.w) (L:=L) _ (dS x.w _) ae cz ae (fun o' _=>aT) (fun i hi=>?_);simp only[List.length_replicate]at hi;have:=hrep i ae;have e1:(List.replicate n.toNat z).getD i .any=(List.replicate c.toNat z).getD i .any:=by simp[List.getD,hi,show i<c.toNat by omega]
    rw[e1];refine⟨this.1,fun j hj=>?_⟩;have h2:=this.2 j hj;have e2:(Array.range (c.toNat*C.P.cellsOf e)).map (v.cells[· %v.cells.size]!)=madeCells v.cells (c.toNat*C.P.cellsOf e):=rfl;rw[e2]at h2;exact⟨h2.1,h2.2.mono hle⟩
   ·simp only[aJ.val,hd,D.nat];exact .own L _ 0 n.toNat x.w.heap.size 0 c.toNat c.toNat ⟨x.w.heap.size,0,none⟩ (by simp[dP]) (fun _=>aT) ae (by simp only[maxLen];omega) ae
   ·simp only[execOp,ho,hv.dA,hw.dA,Sem.run_bind,hrun,Result.andThen_ok,Sem.run_pure]
  ·cases hc
 ·cases hc
end
end
section
variable [c7]
section
variable {x:X} {f:Nat->Option bK} {C:CC} {defs:List (Option Nat)} {J:Src->bI} {ev:Operand->Value} {Y:Ctx} {m:List (Nat×bK)} {L:Nat}
def flat_get (n k:Nat)(g:Nat->Nat->Value)(i j:Nat)(hi:i<n)(hj:j<k):((List.range (n*k)).map fun q=>g (q/k) (q%k)).getD (i*k+j) undef=g i j:=by
 have hlt:=ij hi hj;have h1:(i*k+j) /k=i:=by rw[Nat.mul_comm,Nat.mul_add_div ae,Nat.div_eq_of_lt hj];omega
 have h2:(i*k+j)%k=j:=by rw[Nat.mul_comm,Nat.mul_add_mod];exact Nat.mod_eq_of_lt hj
 simp[List.getD,hlt,h1,h2]
def Nx {u:TypeId}{k:Nat}(hk0:k≠0)(hkind:(∃e',C.P.underlying u=some (.slice e'))\/C.P.underlying u=some .string){v:Value}{d:D}(hv:RD C.ν x v d)(hd:yc m k d)(hs:ff C.ν x f)(hag:∀l,l∈cN d->f l=look m l):
  ∃news,Go.Src C.P k u v (nL m d).length news x.w/\∀i,i<(nL m d).length->((nL m d).getD i .any).cells.length=k/\∀j,j<k->
   RD C.ν x (news.getD (i*k+j) undef) (((nL m d).getD i .any).cells.getD j .any):=by
 have nothing:∀(a:Option Addr) (c:Nat),Go.Src C.P k u (.slice a 0 c) 0 [] x.w:=by
  intro a c;have hf:∀w':World,(Builtin.firstCells k 0 (.slice a 0 c)).run C.P w'=.ok #[] w':=by
   intro w';cases a<;>simp[Builtin.firstCells,loadCells,loadCellsFrom]
  exact⟨hkind,fun _=>rfl,hf _,hf _,aT,fun _ h=>by cases h⟩
 have some_:∀(b off n cap:Nat) (g:Nat->Nat->Value),(∀i j,i<n->j<k->x.w.cell? ⟨b,off+i*k+j,none⟩=some (g i j)/\(g i j).oneCell'=true)->
   Go.Src C.P k u (.slice (some ⟨b,off,none⟩) n cap) n ((List.range (n*k)).map fun q=>g (q/k) (q%k)) x.w:=by
  intro b off n cap g hg;have hqd:∀q,q<n*k->q/k<n/\q%k<k/\q/k*k+q%k=q:=fun q hq=>
   ⟨Nat.div_lt_of_lt_mul (by rw[Nat.mul_comm];exact hq),Nat.mod_lt _ ae,by rw[Nat.mul_comm];exact Nat.div_add_mod q k⟩
  have hcell:∀j u',((List.range (n*k)).map fun q=>g (q/k) (q%k))[j]? =some u'->x.w.cell? ((⟨b,off,none⟩:Addr).add j)=some u':=by
   intro j u' hj;obtain⟨hj2,rfl⟩:=List.getElem?_eq_some_iff.1 hj;simp at hj2;obtain⟨h1,h2,h3⟩:=hqd j hj2;rw[Addr.sZ];simp only[List.getElem_map,List.getElem_range];rw[<-(hg _ _ h1 h2).1];congr 2;omega
  refine⟨hkind,fun _=>rfl,run_firstCells_some x.w k n _ n cap _ aT hcell,run_firstCells_some x.w.drew k n _ n cap _ aT (by simpa using hcell),aT,fun u' hu'=>?_⟩;obtain⟨q,hq,rfl⟩:=eI.1 hu';obtain⟨h1,h2,_⟩:=hqd q (by simpa using hq);exact(hg _ _ h1 h2).2
 cases d<;>simp only[yc]at hd
 ·
  rename_i s;obtain⟨rfl,h2⟩:=hv.iz;subst hd;have hsz:(⟨⟨s⟩⟩:ByteArray).size=s.length:=rfl;refine⟨byteCells ⟨⟨s⟩⟩, ?_,fun i hi=>?_⟩
  ·have:(nL m (.str s)).length=(⟨⟨s⟩⟩:ByteArray).size:=by simp[nL,hsz]
   rw[this];exact⟨hkind,fun _=>rfl,firstCells_string _ _,firstCells_string _ _,by rw[byteCells_length,Nat.mul_one],fun u' hu'=>by
    obtain⟨_,_,rfl⟩:=eI.1 hu';rfl⟩
  ·have hi':i<s.length:=by simpa[nL]using hi
   have e:(nL m (.str s)).getD i .any=.int .u8 (s.getD i 0).toNat:=by simp[nL,List.getD,hi']
   rw[e];refine⟨rfl,fun j hj=>?_⟩;obtain rfl:j=0:=ae;have e2:(byteCells ⟨⟨s⟩⟩).getD (i*1+0) undef=.int .u8 (s.getD i 0).toNat:=by simp[byteCells,List.getD,hi']
   rw[e2];exact .int _ _
 ·cases hv;exact⟨[],nothing none 0,fun i hi=>by simp[nL]at hi⟩
 ·rename_i k' es;subst hd;cases hv with
  |sl a b off len cap _ _ c hlen ha hcap hm hk hn hcc hone hh=>
   subst hlen;rcases ha with rfl|⟨rfl,hI⟩
   ·exact⟨[],by simpa[nL]using nothing a cap,fun i hi=>by simp[nL]at hi⟩
   ·refine⟨_,some_ b off es.length cap c (fun i j hi hj=>⟨hcc i j hi hj,hone i j hi hj⟩),fun i hi=>⟨hk i hi,fun j hj=>?_⟩⟩;rw[flat_get es.length k' c i j hi hj];exact hh i j hi hj
 ·rename_i l k' i0 n;obtain⟨rfl,hb⟩:=hd;cases hv with
  |own0=>exact⟨[],by simpa[nL]using nothing none 0,fun i hi=>by simp[nL]at hi⟩
  |own _ _ _ _ b base tot cap aa hβ ha hcap hm ht=>
   obtain⟨g1,g2,g3⟩:=pR hs (hag l (by simp[cN])) hb;obtain⟨hnI,hk0',ht',c,T,fr,q1,q2,q3,q4⟩:=hs.own l _ b base tot g1 hβ;have hlen:(nL m (.own l k' i0 n)).length=n:=by simp only[nL];exact hR _ _ _ g2
   rw[hlen];by_cases hn0:n=0
   ·subst hn0;exact⟨[],nothing _ _,fun i hi=>ae⟩
   ·have ha':=ha ae;subst ha';have hg:∀i,i<n->(nL m (.own l k' i0 n)).getD i .any=(bf m l).getD (i0+i) .any:=fun i hi=>by simp only[nL];exact ea _ _ _ _ _ hi
    refine⟨_,some_ b (base+i0*k') n cap (fun i j=>c.getD (base+(i0+i)*k'+j) undef) (fun i j hi hj=>?_),fun i hi=>?_⟩
    ·have h1:=ij (tot:=tot) (show i0+i<tot by omega) hj;refine⟨?_,((q4 (i0+i) ae).2 j hj).1⟩;rw[<-cell_of_heap q1 (by omega:base+(i0+i)*k'+j<c.size)];congr 2;rw[Nat.add_mul];omega
    ·rw[hg i hi];refine⟨(q4 (i0+i) ae).1,fun j hj=>?_⟩;rw[flat_get n k' (fun i j=>c.getD (base+(i0+i)*k'+j) undef) i j hi hj];exact((q4 (i0+i) ae).2 j hj).2
def cK {α:Type}(a b:List α)(i:Nat)(d:α):(a++b).getD i d=if i<a.length then a.getD i d else b.getD (i-a.length) d:=by
 simp only[List.getD,List.getElem?_append];split<;>rfl
def EH {k n mm cap:Nat}{T:TypeId}{olds news:List Value}{zs:Array Value}{es1 es2:List D}(x':X)(b:Nat)(hk0:k≠0)
  (hlo:olds.length=n*k) (hln:news.length=mm*k) (h1:es1.length=n) (h2:es2.length=mm) (hcap:n+mm<=cap) (hzs:zs.size=(cap-(n+mm))*k)
  (hx:x'.w.heap[b]? =some (.cells ((olds++news).toArray++zs) T (0,0)))
  (ho:∀i,i<n->(es1.getD i .any).cells.length=k/\∀j,j<k->(olds.getD (i*k+j) undef).oneCell'=true/\RD C.ν x' (olds.getD (i*k+j) undef) ((es1.getD i .any).cells.getD j .any))
  (hn:∀i,i<mm->(es2.getD i .any).cells.length=k/\∀j,j<k->(news.getD (i*k+j) undef).oneCell'=true/\RD C.ν x' (news.getD (i*k+j) undef) ((es2.getD i .any).cells.getD j .any)):
  lY C.ν x' b 0 cap (.buf k (es1++es2)):=by
 have hsz:((olds++news).toArray++zs).size=cap*k:=by
  simp only[Array.size_append,List.size_toArray,bA,hlo,hln,hzs,<-Nat.add_mul];congr 1;omega
 refine qJ (w':=x'.w) (L:=0) x' hx ae cz ae (fun o _=>aT) (fun i hi=>?_);simp only[bA,h1,h2]at hi;have hge:∀j,j<k->(((olds++news).toArray++zs).getD (i*k+j) undef)=(olds++news).getD (i*k+j) undef:=by
  intro j hj;have:=ij hi hj;rw[Nat.add_mul]at this;rw[<-bT];simp only[Array.toList_append];rw[cK,av cz]
 rw[cK];by_cases h:i<n
 ·rw[av ae];refine⟨(ho i h).1,fun j hj=>?_⟩;rw[hge j hj,cK,av (by have:=ij h hj;omega)];exact(ho i h).2 j hj
 ·rw[ai ae,h1];refine⟨(hn (i-n) ae).1,fun j hj=>?_⟩;have hnk:n*k<=i*k:=ek _ ae;rw[hge j hj,cK,ai ae,show i*k+j-olds.length=(i-n)*k+j by rw[hlo,Nat.sub_mul];omega];exact(hn (i-n) ae).2 j hj
def Hz {news:List Value}(h:∀u∈news,u.oneCell'=true)(q:Nat)(hq:q<news.length):(news.getD q undef).oneCell'=true:=by
 rw[lQ _ _ _ hq];exact h _ (List.getElem_mem _)
def ff.less {f f':Nat->Option bK}{ν:List (Nat×Nat)}(h:ff ν x f)(hf:∀l,f' l=f l\/f' l=none\/x.β l=none):ff ν x f':=by
 refine⟨fun l blk b base tot e1 e2=>?_,fun l1 l2 b base tot base' tot' e1 e2 e3 e4=>?_,h.imm,h.eg,h.gd⟩
 ·rcases hf l with e|e|e
  ·exact h.own l blk b base tot (e▸e1) e2
  ·rw[e]at e1;cases e1
  ·rw[e]at e2;cases e2
 ·refine h.inj l1 l2 b base tot base' tot' ?_ ?_ e3 e4
  ·rcases hf l1 with e|e|e
   ·rwa [<-e]
   ·exact absurd e e1
   ·rw[e]at e3;cases e3
  ·rcases hf l2 with e|e|e
   ·rwa [<-e]
   ·exact absurd e e2
   ·rw[e]at e4;cases e4
def zh {f':Nat->Option bK}{t u ty e:TypeId}{ti:TypeInfo}{z:Value}{k:Nat}{base:Option Addr}{sLen sCap mm:Nat}{olds news:List Value}{xv:Value}{es1 E:List D}
  (hs:ff C.ν x f) (hL:x.β L=none) (ht:C.P.underlying t=some (.slice e)) (hi:C.P.info? e=some ti) (hz:ti.zero=some z) (hzd:z.cells.size=ti.size) (hk:ti.size=k) (hk0:k≠0) (hby:ti.bytes<=65536)
  (hold:(Builtin.firstCells k sLen (.slice base sLen sCap)).run C.P x.w.drew=.ok olds.toArray x.w.drew) (hol:olds.length=sLen*k) (h1:es1.length=sLen) (h2:E.length=mm)
  (ho:∀i,i<sLen->(es1.getD i .any).cells.length=k/\∀j,j<k->(olds.getD (i*k+j) undef).oneCell'=true/\RD C.ν x (olds.getD (i*k+j) undef) ((es1.getD i .any).cells.getD j .any))
  (hsrc:Go.Src C.P k u xv mm news x.w) (hn:∀i,i<mm->(E.getD i .any).cells.length=k/\∀j,j<k->RD C.ν x (news.getD (i*k+j) undef) ((E.getD i .any).cells.getD j .any))
  (hg:sCap<sLen+mm) (hle:sLen+mm<=1073741824) (hf:∀l,l≠L->f' l=f l\/f' l=none) (hfL:f' L=some (.buf k (es1++E)))
  {r:Result Next} (hr:r=((Builtin.append_ #[t,u] ty #[.slice base sLen sCap,xv]).run C.P x.w).andThen fun v w'=>.ok (.value v) w'):
  vS C.ν x f' L (.own L k 0 (sLen+mm)) r:=by
 subst hk;have hfit:=growslice_fits_wide (need:=sLen+mm) (old:=sCap) (bytes:=ti.bytes) hg (by
  have:(sLen+mm+(sLen+mm) /4+192)*ti.bytes<=(sLen+mm+(sLen+mm) /4+192)*65536:=Nat.mul_le_mul_left _ hby;omega)
 have hrun:=run_append_grow_src x.w t u ty e ti z ht hi hz base sLen sCap olds hold xv mm news hsrc hg ae hfit;have hcge:=grownCap_ge x.w (sLen+mm) sCap e;have hcle:=grownCap_le_maxLen x.w (sLen+mm) sCap e (by simp only[maxLen];omega);generalize grownCap x.w (sLen+mm) sCap e=cap at hrun hcge hcle;have hgrow:fN x.w (x.w.drew.alloc (.cells ((olds++news).toArray++Builtin.zeroCells z.cells (cap-(sLen+mm))) e)):=by
  refine⟨rfl,rfl,rfl, ?_,fun b hb=>?_⟩
  ·have:=(fN.alloc x.w.drew (.cells ((olds++news).toArray++Builtin.zeroCells z.cells (cap-(sLen+mm))) e)).size;exact this
  ·exact jT x.w.drew _ b hb
 have hlex:=yp (tot:=cap) hs hgrow hL;have hs':ff C.ν x (fun l=>if f' l=none then none else f l):=hs.less (fun l=>by
  by_cases h:f' l=none
  ·right;left;simp[h]
  ·left;simp[h])
 refine mY (f:=fun l=>if f' l=none then none else f l) (v:=.slice (some ⟨x.w.heap.size,0,none⟩) (sLen+mm) cap) (tot:=cap) (blk:=.buf ti.size (es1++E)) hs' hL hgrow ?_ ?_ ?_ ?_ (fun l=>?_)
 ·show x.w.heap.size<(x.w.drew.heap.push _).size;rw[Array.size_push];exact Nat.lt_succ_self _
 ·exact EH (n:=sLen) (mm:=mm) (olds:=olds) (news:=news) (T:=e) (zs:=Builtin.zeroCells z.cells (cap-(sLen+mm))) _ _ hk0 hol hsrc.newsLen h1 h2 hcge
   (by rw[size_zeroCells,hzd]) (dS x.w.drew _)
   (fun i hi=>⟨(ho i hi).1,fun j hj=>⟨((ho i hi).2 j hj).1,((ho i hi).2 j hj).2.mono hlex⟩⟩)
   (fun i hi=>⟨(hn i hi).1,fun j hj=>⟨Hz hsrc.one _ (by rw[hsrc.newsLen];exact ij hi hj),((hn i hi).2 j hj).mono hlex⟩⟩)
 ·exact .own L _ 0 (sLen+mm) x.w.heap.size 0 cap cap ⟨x.w.heap.size,0,none⟩ (by simp[dP]) (fun _=>aT) hcge hcle ae
 ·rw[hr,hrun];rfl
 ·by_cases e:l=L
  ·subst e;simp[jt,hfL]
  ·simp only[jt,e,bn];rcases hf l e with h|h
   ·by_cases h':f' l=none
    ·rw[av h'];exact h'
    ·rw[ai h'];exact h
   ·rw[av h];exact h
def zi {t u ty e:TypeId}{k:Nat}{ti:TypeInfo}{a:Addr}{sLen sCap:Nat}{xv:Value}(ht:C.P.underlying t=some (.slice e))(hi:C.P.info? e=some ti)(hk:ti.size=k)(hsrc:Go.Src C.P k u xv 0 [] x.w)(hc:sLen<=sCap):
  (Builtin.append_ #[t,u] ty #[.slice (some a) sLen sCap,xv]).run C.P x.w=.ok (.slice (some a) sLen sCap) x.w:=by
 subst hk;rcases hsrc.kind with⟨e',hk⟩|hk<;>simp[Builtin.append_,run_underlying ht,run_underlying hk,sizeOf,typeInfo,hi,hsrc.len,hc,hsrc.cells,storeCells]
def xR {t u ty e:TypeId}{k:Nat}{ti:TypeInfo}{xv:Value}(ht:C.P.underlying t=some (.slice e))(hi:C.P.info? e=some ti)(hk:ti.size=k)(hsrc:Go.Src C.P k u xv 0 [] x.w):
  (Builtin.append_ #[t,u] ty #[.slice none 0 0,xv]).run C.P x.w=.ok (.slice none 0 0) x.w:=by
 subst hk;rcases hsrc.kind with⟨e',hk⟩|hk<;>simp[Builtin.append_,run_underlying ht,run_underlying hk,sizeOf,typeInfo,hi,hsrc.len,hsrc.cells,storeCells]
def MU {o:Oper}{i:aJ}{p q:Operand}{t u:TypeId}(hc:C.op defs o=some i)(ho:o.op=.call {callee:=.builtin .append,args:=#[p,q],argTypes:=#[t,u]})(hρ:sD C defs J ev x o.op.operands.toList)(hob:i.dN Y J m)(hs:ff C.ν x f)(hag:y6 f m (i.k9 J))(hL:x.β L=none):
  vS C.ν x (iq f (i.wr J L) (i.cE Y J m L)) L (i.val Y J m L) ((execOp ev o).run C.P x.w):=by
 have hcc:∃a b e,C.src defs p=some a/\C.src defs q=some b/\C.P.underlying t=some (.slice e)/\((∃e',C.P.underlying u=some (.slice e'))\/C.P.underlying u=some .string)/\
   ¬(C.P.cellsOf e=0\/C.P.bytesOf e>65536\/C.P.bytesOf e=0\/mR C.P e=false)/\i=.app (C.P.cellsOf e) a b:=by
  simp only[CC.op,ho]at hc;split at hc
  ·rename_i a b e e' h1 h2 h3 h4;split at hc
   ·cases hc
   ·rename_i hn;simp only[aQ]at hc;exact⟨a,b,e,h1,h2,h3,.inl ⟨_,h4⟩,hn,hc.symm⟩
  ·rename_i a b e h1 h2 h3 h4;split at hc
   ·cases hc
   ·rename_i hn;simp only[aQ]at hc;exact⟨a,b,e,h1,h2,h3,.inr h4,hn,hc.symm⟩
  ·cases hc
 obtain⟨a,b,e,h1,h2,hu,hu2,hn,rfl⟩:=hcc;have hce:C.P.cellsOf e≠0:=fun h=>hn (.inl h)
 obtain⟨ti,hti,htis⟩:=mc hce;have hby:ti.bytes<=65536:=by
  have:¬C.P.bytesOf e>65536:=fun h=>hn (.inr (.inl h))
  simp[Program.bytesOf,hti]at this;omega
 obtain⟨z,hz,hzl⟩:∃z,pO C.P e=some z/\z.cells.length=C.P.cellsOf e:=by
  have hzf:mR C.P e=true:=by
   cases h:mR C.P e
   ·exact absurd (.inr (.inr (.inr h))) hn
   ·rfl
  unfold mR at hzf;split at hzf
  ·rename_i z hz;exact⟨z,hz,by simpa using hzf⟩
  ·cases hzf
 obtain⟨ti',z',hti',hzv,hzr⟩:=pr (x:=x) hz;obtain rfl:ti'=ti:=by rw[hti]at hti';exact(bC hti').symm
 obtain⟨k1,k2,k3,k4⟩:=hob;have hv:=hρ p (by simp[ho,Op.operands,Call.operands]) a h1 k1;have hw:=hρ q (by simp[ho,Op.operands,Call.operands]) b h2 k2;have hag2:∀l,l∈cN (J b).d->f l=look m l:=fun l hl=>hag l (by simp;exact .inr hl)
 have hag1:∀l,l∈cN (J a).d->f l=look m l:=fun l hl=>hag l (by simp;exact .inl hl)
 obtain⟨news,hsrc,hnews⟩:=Nx (u:=u) hce (hu2.imp (fun⟨e',h⟩=>⟨e',h⟩) id) hw k3 hs hag2;have hsz:z'.cells.size=ti'.size:=by have:=(hzr.cells ae).1;omega
 have hr:(execOp ev o).run C.P x.w=((Builtin.append_ #[t,u] o.type #[ev p,ev q]).run C.P x.w).andThen fun v w'=>.ok (.value v) w':=by
  simp[execOp,ho,resolve,invoke,builtin]
 generalize hels:nL m (J b).d=E at*
 generalize hep:ev p=vp at*

 have nobase:∀(l0:List Nat) (f':Nat->Option bK),vp=.slice none 0 0->E.length<=1073741824->(∀l,l≠L->f' l=f l\/f' l=none)->f' L=some (.buf (C.P.cellsOf e) E)->
   vS C.ν x f' L (.own L (C.P.cellsOf e) 0 E.length) ((execOp ev o).run C.P x.w):=by
  intro _ f' hvp hle hf hfL;subst hvp;by_cases hm0:E.length=0
  ·have hn0:news=[]:=kr (by rw[hsrc.newsLen,hm0];simp);rw[hm0]at hsrc⊢;subst hn0;rw[hr,xR hu hti htis hsrc];refine⟨.slice none 0 0,x,.inl rfl,.refl x,.own0 L _ 0,hs.less fun l=>?_,fun _ _=>rfl⟩;by_cases e:l=L
   ·subst e;exact .inr (.inr hL)
   ·rcases hf l e with h|h
    ·exact .inl h
    ·exact .inr (.inl h)
  ·have:=zh (f':=f') (base:=none) (sLen:=0) (sCap:=0) (olds:=[]) (es1:=[]) (E:=E) (mm:=E.length) hs hL hu hti hzv hsz htis hce hby
    (by simp[Builtin.firstCells,loadCells,loadCellsFrom]) aT rfl rfl (fun i hi=>ae) hsrc hnews ae ae hf (by simpa using hfL) hr
   simpa using this
 cases hd:(J a).d<;>simp only[hd]at k4
 ·
  have he:(aJ.app (C.P.cellsOf e) a b).cE Y J m L=dC m L (.buf (C.P.cellsOf e) E):=by simp[aJ.cE,hd,hels]
  have hva:(aJ.app (C.P.cellsOf e) a b).val Y J m L=.own L (C.P.cellsOf e) 0 E.length:=by simp[aJ.val,hd,hels]
  have hwr:(aJ.app (C.P.cellsOf e) a b).wr J L=[L]:=by simp[aJ.wr,hd,cN]
  rw[he,hva,hwr];rw[hd]at hv;cases hv;exact nobase [] _ rfl k4 (fun l hl=>.inl (by simp[iq,hl])) (by simp[iq,cn])
 ·rename_i l k' i n;obtain⟨rfl,hbk,hle⟩:=k4;rw[hd]at hv;have he:(aJ.app (C.P.cellsOf e) a b).cE Y J m L=dC (dH m l) L (.buf (C.P.cellsOf e) ((((bf m l).drop i).take n)++E)):=by simp[aJ.cE,hd,hels]
  have hva:(aJ.app (C.P.cellsOf e) a b).val Y J m L=.own L (C.P.cellsOf e) 0 (n+E.length):=by simp[aJ.val,hd,hels]
  have hwr:(aJ.app (C.P.cellsOf e) a b).wr J L=[L,l]:=by simp[aJ.wr,hd,cN]
  rw[he,hva,hwr];have hff:∀l',l'≠L->iq f [L,l] (dC (dH m l) L (.buf (C.P.cellsOf e) ((((bf m l).drop i).take n)++E))) l'=if l'=l then none else f l':=by
   intro l' hl';by_cases e1:l'=l
   ·subst e1;simp[iq,cn,fG,hl']
   ·simp[iq,hl',e1]
  have hffL:iq f [L,l] (dC (dH m l) L (.buf (C.P.cellsOf e) ((((bf m l).drop i).take n)++E))) L=some (.buf (C.P.cellsOf e) ((((bf m l).drop i).take n)++E)):=by simp[iq,cn]
  have hff':∀l',l'≠L->iq f [L,l] (dC (dH m l) L (.buf (C.P.cellsOf e) ((((bf m l).drop i).take n)++E))) l'=f l'\/iq f [L,l] (dC (dH m l) L (.buf (C.P.cellsOf e) ((((bf m l).drop i).take n)++E))) l'=none:=by
   intro l' hl';rw[hff l' hl'];by_cases e1:l'=l
   ·rw[av e1];exact .inr rfl
   ·rw[ai e1];exact .inl rfl
  cases hv with
  |own0=>
   have:=nobase [] (iq f [L,l] (dC (dH m l) L (.buf (C.P.cellsOf e) ((((bf m l).drop i).take 0)++E)))) rfl ae hff' (by simpa using hffL);simpa using this
  |own _ _ _ _ bk base tot cap ad hβ ha hcap hm ht=>
   obtain⟨g1,g2,g3⟩:=pR hs (hag1 l (by simp[hd,cN])) hbk;obtain⟨hnI,hk0',ht',c,T,fr,q1,q2,q3,q4⟩:=hs.own l _ bk base tot g1 hβ;have hlen1:(((bf m l).drop i).take n).length=n:=hR _ _ _ g2;have hgt:∀j,j<n->(((bf m l).drop i).take n).getD j .any=(bf m l).getD (i+j) .any:=fun j hj=>ea _ _ _ _ _ hj
   by_cases hroom:n+E.length<=cap
   ·
    have hcsz:base+i*C.P.cellsOf e+cap*C.P.cellsOf e<=c.size:=by
     have:i*C.P.cellsOf e+cap*C.P.cellsOf e<=tot*C.P.cellsOf e:=by rw[<-Nat.add_mul];exact ek _ ae
     omega
    have hnc:n*C.P.cellsOf e+news.length<=cap*C.P.cellsOf e:=by rw[hsrc.newsLen,<-Nat.add_mul];exact ek _ hroom
    have hrun:(Builtin.append_ #[t,u] o.type #[.slice (some ad) n cap,ev q]).run C.P x.w=.ok (.slice (some ad) (n+E.length) cap) (x.w.setCells bk (base+i*C.P.cellsOf e+n*C.P.cellsOf e) news):=by
     by_cases hc0:cap=0
     ·have hm0:E.length=0:=ae;have hn0:news=[]:=kr (by rw[hsrc.newsLen,hm0];simp);subst hn0;rw[hm0]at hsrc⊢;rw[zi hu hti htis hsrc hcap];rfl
     ·have ha':=ha ae;subst ha';have:=run_append_room_src x.w t u o.type e ti' hu hti bk (base+i*C.P.cellsOf e) n cap (ev q) E.length news (by rw[htis];exact hsrc) hroom
       (fun j hj=>by rw[htis,cell_of_heap q1 ae];rfl)
       (fun j hj=>by
         rw[htis];have:=q3 (base+i*C.P.cellsOf e+n*C.P.cellsOf e+j) ae;simp only[World.frozen?,q1];simp only[dr,bx];omega)
      rw[htis]at this;exact this
    obtain⟨c',s1,s2,s3⟩:=jU bk news (base+i*C.P.cellsOf e+n*C.P.cellsOf e) x.w c T fr q1 ae;obtain⟨f1,f2,f3,f4⟩:=jj bk news (base+i*C.P.cellsOf e+n*C.P.cellsOf e) x.w;generalize hw':x.w.setCells bk (base+i*C.P.cellsOf e+n*C.P.cellsOf e) news=w' at*
    have hother:∀b',b'≠bk->w'.heap[b']? =x.w.heap[b']? :=fun b' hb'=>by rw[<-hw'];exact jk bk _ _ _ b' hb'
    have hlL:l≠L:=fun e1=>by subst e1;rw[hβ]at hL;cases hL
    have hstep:Step x ⟨w',x.I,dP x.β L (bk,base+i*C.P.cellsOf e,cap)⟩:=by
     refine⟨f1,f2,f3,by show _<=w'.heap.size;rw[f4];exact aY _,fun _ h=>h,fun b' hb'=>hother b' (fun e1=>hnI (e1▸hb')),fun l' p' hp=>?_,
      fun b' _ hn'=>hother b' (fun e1=>hn' l _ hβ e1.symm),fun _ h=>.inl h,fun l' p' hp=>?_⟩
     ·have:l'≠L:=fun e1=>by rw[e1,hL]at hp;cases hp
      simp[dP,this,hp]
     ·by_cases e1:l'=L
      ·simp only[dP,e1,br,aQ]at hp;exact .inr (.inr ⟨l,_,hβ,by rw[<-hp]⟩)
      ·simp only[dP,e1,bn]at hp;exact .inl hp
    have hle2:=hstep.le;rw[hr,hrun];refine⟨_,⟨w',x.I,dP x.β L (bk,base+i*C.P.cellsOf e,cap)⟩,.inl rfl,hstep,
     .own L _ 0 _ bk (base+i*C.P.cellsOf e) cap cap ad (by simp[dP]) (fun h=>by rw[ha h];simp) hroom hm ae, ?_,fun l' hl'=>by simp[dP,hl']⟩
    have hblk:lY C.ν ⟨w',x.I,dP x.β L (bk,base+i*C.P.cellsOf e,cap)⟩ bk (base+i*C.P.cellsOf e) cap (.buf (C.P.cellsOf e) ((((bf m l).drop i).take n)++E)):=by
     refine⟨hk0',by rw[bA,hlen1];exact hroom,c',T,fr,s1,ae,fun o'' ho''=>q3 o'' ae,fun i' hi'=>?_⟩;rw[bA,hlen1]at hi';rw[cK,hlen1];by_cases hi2:i'<n
     ·rw[av hi2,hgt i' hi2];refine⟨(q4 (i+i') ae).1,fun j hj=>?_⟩;have hlt:=ij hi2 hj;rw[s3,ai ae];have:=(q4 (i+i') ae).2 j hj;rw[show base+(i+i')*C.P.cellsOf e+j=base+i*C.P.cellsOf e+i'*C.P.cellsOf e+j by rw[Nat.add_mul];omega]at this;exact⟨this.1,this.2.mono hle2⟩
     ·rw[ai hi2];obtain⟨a1,a2⟩:=hnews (i'-n) ae;refine⟨a1,fun j hj=>?_⟩;have hnk:n*C.P.cellsOf e<=i'*C.P.cellsOf e:=ek _ ae;have hlt:=ij (show i'-n<E.length by omega) hj;rw[<-hsrc.newsLen,Nat.sub_mul]at hlt;rw[s3,av ae,show base+i*C.P.cellsOf e+i'*C.P.cellsOf e+j-(base+i*C.P.cellsOf e+n*C.P.cellsOf e)=(i'-n)*C.P.cellsOf e+j by rw[Nat.sub_mul];omega];exact⟨Hz hsrc.one _ (by rw[Nat.sub_mul];omega),(a2 j hj).mono hle2⟩
    refine⟨fun l' blk b' base' tot' e1 e2=>?_,fun l1 l2 b' base' tot' base'' tot'' e1 e2 e3 e4=>?_,fun b' hb'=>by show b'<w'.heap.size;rw[f4];exact hs.imm b' hb',fun l' b' base' tot' e1=>?_,oe hstep.le hs.gd⟩
    ·by_cases h:l'=L
     ·subst h;rw[hffL]at e1;simp only[dP,br,aQ,dU]at e2;obtain⟨rfl,rfl,rfl⟩:=e2;obtain rfl:=bC e1;exact⟨hnI,hblk⟩
     ·rw[hff l' h]at e1;by_cases h2:l'=l
      ·rw[av h2]at e1;cases e1
      ·rw[ai h2]at e1;simp only[dP,h,bn]at e2;obtain⟨a1,a2⟩:=hs.own l' blk b' base' tot' e1 e2;refine⟨a1,a2.mono hle2 (hother b' (fun eb=>?_))⟩;subst eb;exact h2 (hs.inj l' l b' base' tot' base tot (by rw[e1];simp) (by rw[g1];simp) e2 hβ)
    ·have key:∀l1 b1 base1 tot1,l1≠L->iq f [L,l] (dC (dH m l) L (.buf (C.P.cellsOf e) ((((bf m l).drop i).take n)++E))) l1≠none->x.β l1=some (b1,base1,tot1)->b1≠bk/\f l1≠none:=by
      intro l1 b1 base1 tot1 h1' h2' h3';rw[hff l1 h1']at h2';by_cases h:l1=l
      ·rw[av h]at h2';exact absurd rfl h2'
      ·rw[ai h]at h2';refine⟨fun eb=>?_,h2'⟩;subst eb;exact h (hs.inj l1 l b1 base1 tot1 base tot h2' (by rw[g1];simp) h3' hβ)
     by_cases h1':l1=L<;>by_cases h2':l2=L
     ·rw[h1',h2']
     ·exfalso;simp only[dP,h1',br,aQ,dU]at e3;simp only[dP,h2',bn]at e4;exact(key l2 b' _ _ h2' e2 e4).1 e3.1.symm
     ·exfalso;simp only[dP,h2',br,aQ,dU]at e4;simp only[dP,h1',bn]at e3;exact(key l1 b' _ _ h1' e1 e3).1 e4.1.symm
     ·simp only[dP,h1',bn]at e3;simp only[dP,h2',bn]at e4;exact hs.inj l1 l2 b' base' tot' base'' tot'' (key l1 b' _ _ h1' e1 e3).2 (key l2 b' _ _ h2' e2 e4).2 e3 e4
    ·show b'<w'.heap.size;rw[f4];by_cases h:l'=L
     ·simp only[dP,h,br,aQ,dU]at e1;obtain⟨rfl,_,_⟩:=e1;exact hs.eg l _ _ _ hβ
     ·simp only[dP,h,bn]at e1;exact hs.eg l' _ _ _ e1
   ·
    have hold:∃olds:List Value,(Builtin.firstCells (C.P.cellsOf e) n (.slice (some ad) n cap)).run C.P x.w.drew=.ok olds.toArray x.w.drew/\olds.length=n*C.P.cellsOf e/\
      ∀j,j<n->∀j',j'<C.P.cellsOf e->(olds.getD (j*C.P.cellsOf e+j') undef).oneCell'=true/\RD C.ν x (olds.getD (j*C.P.cellsOf e+j') undef) (((bf m l).getD (i+j) .any).cells.getD j' .any):=by
     by_cases hn0:n=0
     ·subst hn0;exact⟨[],by simp[Builtin.firstCells,loadCells,loadCellsFrom],aT,fun j hj=>ae⟩
     ·have ha':=ha ae;subst ha';have hqd:∀q,q<n*C.P.cellsOf e->q/C.P.cellsOf e<n/\q%C.P.cellsOf e<C.P.cellsOf e/\q/C.P.cellsOf e*C.P.cellsOf e+q%C.P.cellsOf e=q:=fun q hq=>
       ⟨Nat.div_lt_of_lt_mul (by rw[Nat.mul_comm];exact hq),Nat.mod_lt _ ae,by rw[Nat.mul_comm];exact Nat.div_add_mod q _⟩
      have hbase:∀q,q<n*C.P.cellsOf e->base+i*C.P.cellsOf e+q<c.size:=fun q hq=>by
       have:i*C.P.cellsOf e+n*C.P.cellsOf e<=tot*C.P.cellsOf e:=by rw[<-Nat.add_mul];exact ek _ ae
       omega
      refine⟨(List.range (n*C.P.cellsOf e)).map fun q=>c.getD (base+i*C.P.cellsOf e+q) undef, ?_,aT,fun j hj j' hj'=>?_⟩
      ·refine run_firstCells_some x.w.drew _ n _ n cap _ aT (fun j u' hj=>?_);obtain⟨hj2,rfl⟩:=List.getElem?_eq_some_iff.1 hj;simp at hj2;rw[Addr.sZ];simp only[List.getElem_map,List.getElem_range];exact cell_of_heap (w:=x.w.drew) q1 (hbase j hj2)
      ·have hlt:=ij hj hj';have e1:((List.range (n*C.P.cellsOf e)).map fun q=>c.getD (base+i*C.P.cellsOf e+q) undef).getD (j*C.P.cellsOf e+j') undef=c.getD (base+(i+j)*C.P.cellsOf e+j') undef:=by
        simp only[List.getD,List.getElem?_map,List.getElem?_range hlt,Option.map_some,Option.getD_some];congr 1;rw[Nat.add_mul];omega
       rw[e1];exact(q4 (i+j) ae).2 j' hj'
    obtain⟨olds,o1,o2,o3⟩:=hold;refine zh (base:=some ad) (sLen:=n) (sCap:=cap) (olds:=olds) (es1:=((bf m l).drop i).take n) (E:=E) (mm:=E.length) hs hL hu hti hzv hsz htis hce hby
     o1 o2 hlen1 rfl (fun j hj=>?_) hsrc hnews ae ae hff' hffL hr
    rw[hgt j hj];exact⟨(q4 (i+j) ae).1,o3 j hj⟩
end
end
section
variable [c7]
section
variable {ν:List (Nat×Nat)} {x:X} {f:Nat->Option bK} {m:List (Nat×bK)}
def X.ll (x:X)(f:Nat->Option bK):X:=⟨x.w,fun b=>x.I b\/∃l p,x.β l=some p/\p.1=b/\f l≠none,x.β⟩
def nj (x:X)(f:Nat->Option bK):Le x (x.ll f):=⟨fun _ h=>.inl h,fun _ _=>rfl,fun _ _ h=>h⟩
def D.pf (ds:List D):(D.agg ds).bG=bt ds:=by simp[D.bG]
def tY {l k n:Nat}(hs:ff ν x f)(hag:∀l,look m l≠none->f l=look m l)(hb:fm m l k n){b base tot:Nat}(hβ:x.β l=some (b,base,tot)):
  f l=some (.buf k (bf m l))/\n<=(bf m l).length/\¬x.I b/\lY ν x b base tot (.buf k (bf m l)):=by
 have hne:look m l≠none:=by
  intro h;simp[fm,h]at hb
 obtain⟨g1,g2,_⟩:=pR hs (hag l hne) hb;exact⟨g1,g2,hs.own l _ b base tot g1 hβ⟩
def AE {k:Nat}{es:List D}{cs:List Sh}{g:Nat->Nat->Value}(hk0:0<k)
  (hV:∀(e:D) (c:Nat->Value),e.cells.length=k->(∀j,j<k->RD ν x (c j) (e.cells.getD j .any))->gQ m cs e->
    (iS m cs e).cells.length=k/\(iS m cs e).bG=true/\∀j,j<k->RD ν (x.ll f) (c j) ((iS m cs e).cells.getD j .any))
  (hes:∀i,i<es.length->(es.getD i .any).cells.length=k/\∀j,j<k->RD ν x (g i j) ((es.getD i .any).cells.getD j .any))
  (ho:∀e∈es,gQ m cs e) (i:Nat) (hi:i<es.length):
  ((es.map (iS m cs)).getD i .any).cells.length=k/\((es.map (iS m cs)).getD i .any).bG=true/\∀j,j<k->RD ν (x.ll f) (g i j) (((es.map (iS m cs)).getD i .any).cells.getD j .any):=by
 have e1:(es.map (iS m cs)).getD i .any=iS m cs (es.getD i .any):=by simp[List.getD,hi]
 rw[e1];exact hV _ (g i) (hes i hi).1 (hes i hi).2 (ho _ (by rw[lQ _ _ _ hi];exact List.getElem_mem _))
mutual
theorem qf (hs:ff ν x f)(hag:∀l,look m l≠none->f l=look m l):∀(s:Sh)(v:Value)(d:D),RD ν x v d->j4 m s d->
  RD ν (x.ll f) v (mJ m s d)/\(mJ m s d).bG=true/\(d.cells.length=1->d.isAgg=false->(mJ m s d).cells=[mJ m s d])
 | .a,v,d,h,ho=>by
  simp only[j4]at ho;have hm:RD ν (x.ll f) v d:=h.mono (nj x f);cases d<;>simp only[mJ]<;>first
   |exact⟨hm,ho,fun h1 h2=>by simp_all[D.cells,D.isAgg]⟩
   |skip
  cases h;exact⟨.sl none 0 0 0 0 0 [] (fun _ _=>undef) rfl (.inl rfl) (aY _) (by simp[maxLen]) (fun _ h=>ae) (fun _ h=>ae) (fun _ _ h=>ae) (fun _ _ h=>ae) (fun _ _ h=>ae),rfl,fun _ _=>rfl⟩
 | .sl k cs,v,d,h,ho=>by
  have hm:RD ν (x.ll f) v d:=h.mono (nj x f);cases d<;>simp only[mJ]<;>simp only[j4]at ho<;>first
   |exact⟨hm,ho,fun h1 h2=>by simp_all[D.cells,D.isAgg]⟩
   |skip
  ·cases h;exact⟨.sl none 0 0 0 0 k [] (fun _ _=>undef) rfl (.inl rfl) (aY _) (by simp[maxLen]) (fun _ h=>by simp at h) (fun _ h=>by simp at h) (fun _ _ h=>by simp at h) (fun _ _ h=>by simp at h) (fun _ _ h=>by simp at h),rfl,fun _ _=>rfl⟩
  ·rename_i l k' i c;obtain⟨hb,hel⟩:=ho;cases h with
   |own0=>
    simp only[List.take_zero,List.map_nil];exact⟨.sl none 0 0 0 0 k' [] (fun _ _=>undef) rfl (.inl rfl) (aY _) (by simp[maxLen]) (fun _ h=>by simp at h) (fun _ h=>by simp at h) (fun _ _ h=>by simp at h) (fun _ _ h=>by simp at h) (fun _ _ h=>by simp at h),rfl,fun _ _=>rfl⟩
   |own _ _ _ _ b base tot cap a hβ ha hcap hmx ht=>
    obtain⟨g1,g2,hnI,hk0,ht',cc,T,fr,q1,q2,q3,q4⟩:=tY hs hag hb hβ;have hlen:(((bf m l).drop i).take c).length=c:=hR _ _ _ g2;have hgt:∀j,j<c->(((bf m l).drop i).take c).getD j .any=(bf m l).getD (i+j) .any:=fun j hj=>ea _ _ _ _ _ hj
    have hrow:=AE (f:=f) (k:=k') (cs:=cs) (es:=((bf m l).drop i).take c) (g:=fun i' j=>cc.getD (base+(i+i')*k'+j) undef) hk0 (uY hs hag cs)
     (fun i' hi'=>by
       rw[hlen]at hi';rw[hgt i' hi'];exact⟨(q4 (i+i') ae).1,fun j hj=>((q4 (i+i') ae).2 j hj).2⟩) hel
    refine⟨.sl (some a) b (base+i*k') c cap k' _ (fun i' j=>cc.getD (base+(i+i')*k'+j) undef) (by rw[cI,hlen]) ?_ hcap hmx (fun i' hi'=>(hrow i' ae).1) (fun i' hi'=>(hrow i' ae).2.1) (fun i' j hi' hj=>?_) (fun i' j hi' hj=>?_) (fun i' j hi' hj=>(hrow i' ae).2.2 j hj),rfl,fun _ _=>rfl⟩
    ·by_cases hc0:c=0
     ·left;exact kr (by simp[hlen,hc0])
     ·right;exact⟨by rw[ha ae],.inr ⟨l,_,hβ,rfl,by rw[g1];simp⟩⟩
    ·have h1:=ij (tot:=tot) (show i+i'<tot by omega) hj;show x.w.cell? _=_;rw[<-cell_of_heap q1 (by omega:base+(i+i')*k'+j<cc.size)];congr 2;rw[Nat.add_mul];omega
    ·exact((q4 (i+i') ae).2 j hj).1
 | .pt cs,v,d,h,ho=>by
  have hm:RD ν (x.ll f) v d:=h.mono (nj x f);cases d<;>simp only[mJ]<;>simp only[j4]at ho<;>first
   |exact⟨hm,ho,fun h1 h2=>by simp_all[D.cells,D.isAgg]⟩
   |skip
  rename_i l k' i o;obtain⟨hb,hel⟩:=ho;cases h with
  |ptr _ _ _ _ b base tot at_ hβ hat=>
   obtain⟨g1,g2,hnI,hk0,ht',cc,T,fr,q1,q2,q3,q4⟩:=tY hs hag hb hβ;have hrow:=AE (f:=f) (k:=k') (cs:=cs) (es:=bf m l) (g:=fun i' j=>cc.getD (base+i'*k'+j) undef) hk0 (uY hs hag cs)
    (fun i' hi'=>⟨(q4 i' hi').1,fun j hj=>((q4 i' hi').2 j hj).2⟩) hel
   refine⟨.ref b base k' i o at_ _ (fun i' j=>cc.getD (base+i'*k'+j) undef) (.inr ⟨l,_,hβ,rfl,by rw[g1];simp⟩) hat (fun i' hi'=>(hrow i' (by simpa using hi')).1) (fun i' hi'=>(hrow i' (by simpa using hi')).2.1)
    (fun i' j hi' hj=>?_) (fun i' j hi' hj=>((q4 i' (by simpa using hi')).2 j hj).1) (fun i' j hi' hj=>(hrow i' (by simpa using hi')).2.2 j hj),rfl,fun _ _=>rfl⟩
   have h1:=ij (tot:=tot) (show i'<tot by simp at hi';omega) hj;exact cell_of_heap q1 ae
theorem uY (hs:ff ν x f)(hag:∀l,look m l≠none->f l=look m l):∀(cs:List Sh){k:Nat}(e:D)(c:Nat->Value),e.cells.length=k->(∀j,j<k->RD ν x (c j) (e.cells.getD j .any))->gQ m cs e->
  (iS m cs e).cells.length=k/\(iS m cs e).bG=true/\∀j,j<k->RD ν (x.ll f) (c j) ((iS m cs e).cells.getD j .any)
 |[],k,e,c,hk,hc,ho=>by
  simp only[iS];simp only[gQ]at ho;exact⟨hk,ho,fun j hj=>(hc j hj).mono (nj x f)⟩
 |s::r,k,e,c,hk,hc,ho=>by
  cases e<;>simp only[iS]<;>simp only[gQ]at ho<;>try
   (obtain⟨h1,h2,h3⟩:=qf hs hag s (c 0) _ (by simp only[D.cells,ay,az]at hk;exact hc 0 ae) ho
    simp only[D.cells,ay,az]at hk;rw[h3 rfl rfl];subst hk;exact⟨rfl,h2,fun j hj=>by obtain rfl:j=0:=ae
                                                                                    exact h1⟩)
  ·simp only[D.cells,az]at hk;subst hk;cases s<;>simp only[mJ]<;>exact⟨rfl,rfl,fun j hj=>ae⟩
  ·rename_i ds;obtain⟨a1,a2,a3⟩:=qg hs hag (s::r) ds c (fun j hj=>hc j (by simpa[D.cells]using hk▸hj)) ho;simp only[D.cells]at hk⊢;exact⟨a1.trans hk,by rw[D.pf];exact a2,fun j hj=>a3 j ae⟩
  ·simp only[D.cells,az]at hk;subst hk;cases s<;>simp only[mJ,j4]at ho⊢ <;>exact⟨rfl,ho,fun j hj=>ae⟩
theorem qg (hs:ff ν x f)(hag:∀l,look m l≠none->f l=look m l):∀(cs:List Sh)(ds:List D)(c:Nat->Value),(∀j,j<ds.length->RD ν x (c j) (ds.getD j .any))->kE m cs ds->
  (mK m cs ds).length=ds.length/\bt (mK m cs ds)=true/\∀j,j<ds.length->RD ν (x.ll f) (c j) ((mK m cs ds).getD j .any)
 |[],ds,c,hc,ho=>by
  simp only[kE]at ho;exact⟨by simp[mK],by simpa[mK]using ho,fun j hj=>by simpa only[mK]using(hc j hj).mono (nj x f)⟩
 |s::r,[],c,hc,ho=>by
  exact⟨by simp[mK],by simp[mK,bt],fun j hj=>by simp at hj⟩
 |s::r,d::ds,c,hc,ho=>by
  simp only[mK];simp only[kE]at ho;obtain⟨h1,h2,_⟩:=qf hs hag s (c 0) d (by simpa using hc 0 aT) ho.1;obtain⟨a1,a2,a3⟩:=qg hs hag r ds (fun j=>c (j+1)) (fun j hj=>by simpa using hc (j+1) cz) ho.2;refine⟨by simp[a1],by simp[bt,h2,a2],fun j hj=>?_⟩;cases j with
  |zero=>simpa using h1
  |succ j=>simpa using a3 j (by simpa using hj)
end
def qh (hs:ff ν x f)(hag:∀l,look m l≠none->f l=look m l)(sh:List Sh)(v:Value)(d:D)(h:RD ν x v d)(ho:gQ m sh d):RD ν (x.ll f) v (iS m sh d)/\(iS m sh d).bG=true:=by
 cases sh with
 |nil=>simp only[iS];simp only[gQ]at ho;exact⟨h.mono (nj x f),ho⟩
 |cons s r=>
  cases d<;>simp only[iS]<;>simp only[gQ]at ho<;>first
   |(obtain⟨h1,h2,_⟩:=qf hs hag s v _ h ho;exact⟨h1,h2⟩)
   |skip
  rename_i ds;cases h with
  |agg cs _ hl h1 h=>
   obtain⟨a1,a2,a3⟩:=qg hs hag (s::r) ds (fun j=>cs.getD j undef) h ho;exact⟨.agg cs _ (by rw[a1,hl]) (fun i hi=>h1 i ae) (fun i hi=>a3 i ae),by rw[D.pf];exact a2⟩
def iG (hs:ff ν x f)(hag:∀l,look m l≠none->f l=look m l):∀(ss:List (List Sh))(ds:List D)(c:Nat->Value),(∀j,j<ds.length->RD ν x (c j) (ds.getD j .any))->iO m ss ds->
  (fA m ss ds).length=ds.length/\bt (fA m ss ds)=true/\∀j,j<ds.length->RD ν (x.ll f) (c j) ((fA m ss ds).getD j .any)
 |ss,[],c,hc,ho=>⟨by simp[fA],by simp[fA,bt],fun j hj=>by simp at hj⟩
 |[],d::r,c,hc,ho=>by
  simp only[iO]at ho;obtain⟨h1,h2⟩:=qh hs hag [.a] (c 0) d (by simpa using hc 0 aT) ho.1;obtain⟨a1,a2,a3⟩:=iG hs hag [] r (fun j=>c (j+1)) (fun j hj=>by simpa using hc (j+1) cz) ho.2;refine⟨by simp[fA,a1],by simp[fA,bt,h2,a2],fun j hj=>?_⟩;cases j with
  |zero=>simpa[fA]using h1
  |succ j=>simpa[fA]using a3 j (by simpa using hj)
 |s::ss,d::r,c,hc,ho=>by
  simp only[iO]at ho;obtain⟨h1,h2⟩:=qh hs hag s (c 0) d (by simpa using hc 0 aT) ho.1;obtain⟨a1,a2,a3⟩:=iG hs hag ss r (fun j=>c (j+1)) (fun j hj=>by simpa using hc (j+1) cz) ho.2;refine⟨by simp[fA,a1],by simp[fA,bt,h2,a2],fun j hj=>?_⟩;cases j with
  |zero=>simpa[fA]using h1
  |succ j=>simpa[fA]using a3 j (by simpa using hj)
end
end
section
variable [c7]
def iA (P:Program)(x:X)(G:Value->X->Prop)(r:Result Next):Prop:=
 (∃v x',(r=.ok (.value v) x'.w\/r=.ok .skip x'.w/\v=undef)/\G v x')\/
 (∃f args,r=.ok (.enter f args) x.w/\Calls P f args x.w fun
   | .returned v,w'=>∃x',x'.w=w'/\G v x'
   |_,_=>False)
def iA.mono {P:Program}{x:X}{G G':Value->X->Prop}{r:Result Next}(h:iA P x G r)(hg:∀v x',G v x'->G' v x'):iA P x G' r:=by
 rcases h with⟨v,x',h1,h2⟩|⟨f,args,h1,h2⟩
 ·exact .inl ⟨v,x',h1,hg _ _ h2⟩
 ·refine .inr ⟨f,args,h1,Calls.mono h2 fun e w' he=>?_⟩;cases e with
  |returned v=>obtain⟨x',e1,e2⟩:=he;exact⟨x',e1,hg _ _ e2⟩
  |panicked c=>exact he
  |outgrown=>exact he
def iA.wp {P:Program}{x:X}{G:Value->X->Prop}{o:Oper}{a:Act}{next:Act->World->Prop}{Q:Exit->Act->World->Prop}
  (h:iA P x G ((execOp a.eval o).run P x.w)) (hn:∀v x',G v x'->next (a.put o.dst v) x'.w):o.wp P a x.w next Q:=by
 unfold Oper.wp;rcases h with⟨v,x',h1|⟨h1,h3⟩,h2⟩|⟨f,args,h1,h2⟩
 ·rw[h1];exact hn v x' h2
 ·rw[h1];subst h3;exact hn _ x' h2
 ·rw[h1,Oper.upon_enter];refine Calls.mono h2 fun e w' he=>?_
  cases e with
  |returned v=>obtain⟨x',e1,e2⟩:=he;subst e1;exact hn v x' e2
  |panicked c=>exact he.elim
  |outgrown=>exact he.elim
structure lh (x x':X):Prop where
 grow:fN x.w x'.w
 I:∀b,x.I b->x'.I b
 newI:∀b,x'.I b->x.I b\/x.w.heap.size<=b
 imm:∀b,x'.I b->b<x'.w.heap.size
 β:x'.β=x.β
structure eV (st:St)(x:X):Prop where
 β:∀l,st.nx<=l->x.β l=none
 m:∀l,look st.m l≠none->l<st.nx
structure Ok (P:Program)(ν:List (Nat×Nat))(cE:List Nat)(Y:Ctx):Prop where
 small:∀fid n,ez ν fid=some n->n<1000000
 bld:∀t,cE.contains (1000000000+t)=true->t=c7.tB
 pure:∀fid n,ez ν fid=some n->∀(x:X) (args:Array Value) (ds:List D),args.size=ds.length->(∀i,i<ds.length->RD ν x (args.getD i undef) (ds.getD i .any))->bt ds=true->
  (∀b,x.I b->b<x.w.heap.size)->c7.gd x->Y.pre n ds->iA P x (fun v x'=>lh x x'/\RD ν x' v (Y.val n ds)) ((callFunc fid args).run P x.w)
 effF:∀fid n,ez ν fid=some n->cE.contains (2*n+1)=true->∀(x:X) (f:Nat->Option bK) (args:Array Value) (l k:Nat) (d:D) (ds:List D),args.size=ds.length+1->RD ν x (args.getD 0 undef) (.ptr l k 0 0)->
  (∀i,i<ds.length->RD ν x (args.getD (i+1) undef) (ds.getD i .any))->ff ν x f->f l=some (.buf k [d])->d.bG=true->bt ds=true->Y.fp n d ds->
  iA P x (fun v x'=>Step x x'/\RD ν x' v (Y.fv n d ds)/\ff ν x' (fun l'=>if l'=l then some (.buf k [Y.fs n d ds])else f l')/\x'.β=x.β) ((callFunc fid args).run P x.w)
 cE:∀fid n,ez ν fid=some n->∀(x:X) (args:Array Value) (ds:List D) (st:St) (K:D->St->Prop),args.size=ds.length->(∀i,i<ds.length->RD ν x (args.getD i undef) (ds.getD i .any))->
  ff ν x (look st.m)->eV st x->Y.tr n ds st K->iA P x (fun v x'=>∃d st',K d st'/\Step x x'/\RD ν x' v d/\ff ν x' (look st'.m)/\eV st' x') ((callFunc fid args).run P x.w)
section
variable {x:X} {f:Nat->Option bK} {C:CC} {defs:List (Option Nat)} {J:Src->bI} {ev:Operand->Value} {Y:Ctx} {m:List (Nat×bK)} {L:Nat} {ν:List (Nat×Nat)}
def lh.step {x':X}(h:lh x x')(himm:∀b,x.I b->b<x.w.heap.size):Step x x':=
 ⟨h.grow.os,h.grow.tape,h.grow.output,h.grow.size,h.I,fun b hb=>h.grow.old b (himm b hb),fun l p hp=>by rw[h.β];exact hp,fun b hb _=>h.grow.old b hb,fun b hb=>(h.newI b hb).imp id .inl,fun l p hp=>.inl (by rw[h.β]at hp;exact hp)⟩
def lh.mn {x':X}(h:lh x x')(hs:ff ν x f):ff ν x' f:=by
 have hst:=h.step hs.imm;refine⟨fun l blk b base tot e1 e2=>?_,fun l1 l2 b base tot base' tot' e1 e2 e3 e4=>?_,h.imm,fun l b base tot e=>?_,oe hst.le hs.gd⟩
 ·rw[h.β]at e2;obtain⟨a1,a2⟩:=hs.own l blk b base tot e1 e2;have hb:=hs.eg l b base tot e2;refine⟨fun hI=>?_,a2.mono hst.le (h.grow.old b hb)⟩;rcases h.newI b hI with h1|h1
  ·exact a1 h1
  ·omega
 ·rw[h.β]at e3 e4;exact hs.inj l1 l2 b base tot base' tot' e1 e2 e3 e4
 ·rw[h.β]at e;exact en (hs.eg l b base tot e) h.grow.size
mutual
theorem HU (m m':List (Nat×bK)):∀(s:Sh)(d:D),d.bG=true->mJ m s d=mJ m' s d/\j4 m s d
 | .a,d,h=>by cases d<;>simp_all[mJ,j4,D.bG]
 | .sl k cs,d,h=>by cases d<;>simp_all[mJ,j4,D.bG]
 | .pt cs,d,h=>by cases d<;>simp_all[mJ,j4,D.bG]
theorem HV (m m':List (Nat×bK)):∀(ss:List Sh)(ds:List D),bt ds=true->mK m ss ds=mK m' ss ds/\kE m ss ds
 |[],ds,h=>by simp[mK,kE,h]
 |s::r,[],h=>by simp[mK,kE]
 |s::r,d::ds,h=>by
  simp only[bt,aZ]at h;obtain⟨a1,a2⟩:=HU m m' s d h.1;obtain⟨b1,b2⟩:=HV m m' r ds h.2;simp only[mK,kE,a1,b1];exact⟨trivial,a2,b2⟩
end
def HW (m m':List (Nat×bK))(ss:List Sh)(d:D)(h:d.bG=true):iS m ss d=iS m' ss d/\gQ m ss d:=by
 cases ss with
 |nil=>simp[iS,gQ,h]
 |cons s r=>
  cases d<;>simp only[iS,gQ]<;>first
   |exact HU m m' s _ h
   |skip
  obtain⟨a1,a2⟩:=HV m m' (s::r) _ (by rwa [D.pf]at h);exact⟨by rw[a1],a2⟩
def uZ (m m':List (Nat×bK)):∀(ss:List (List Sh))(ds:List D),bt ds=true->fA m ss ds=fA m' ss ds/\iO m ss ds
 |ss,[],h=>by simp[fA,iO]
 |[],d::r,h=>by
  simp only[bt,aZ]at h;obtain⟨a1,a2⟩:=HW m m' [.a] d h.1;obtain⟨b1,b2⟩:=uZ m m' [] r h.2;simp only[fA,iO,a1,b1];exact⟨trivial,a2,b2⟩
 |s::ss,d::r,h=>by
  simp only[bt,aZ]at h;obtain⟨a1,a2⟩:=HW m m' s d h.1;obtain⟨b1,b2⟩:=uZ m m' ss r h.2;simp only[fA,iO,a1,b1];exact⟨trivial,a2,b2⟩
def Goal (ν:List (Nat×Nat))(x:X)(f:Nat->Option bK)(L:Nat)(d:D)(v:Value)(x':X):Prop:=Step x x'/\RD ν x' v d/\ff ν x' f/\∀l,l≠L->x'.β l=x.β l
def vS.n7 {P:Program}{f':Nat->Option bK}{d:D}{r:Result Next}(h:vS ν x f' L d r):iA P x (Goal ν x f' L d) r:=by
 obtain⟨v,x',h1,h2,h3,h4,h5⟩:=h;exact .inl ⟨v,x',h1,h2,h3,h4,h5⟩
def wG {P:Program}{cE:List Nat}(hΓ:Ok P ν cE Y){fid n:Nat}(hn:ez ν fid=some n){args:Array Value}{ds:List D}{sh:List (List Sh)}(hl:args.size=ds.length)
  (hargs:∀i,i<ds.length->RD ν x (args.getD i undef) (ds.getD i .any)) (hs:ff ν x f) (hag:bt ds=false->∀l,look m l≠none->f l=look m l) (ho:iO m sh ds) (hpre:Y.pre n (fA m sh ds))
  (hok:pT ds (Y.val n (fA m sh ds))=true):iA P x (Goal ν x f L (Y.val n (fA m sh ds))) ((callFunc fid args).run P x.w):=by
 cases hnl:bt ds with
 |true=>
  obtain⟨e1,_⟩:=uZ m [] sh ds hnl;obtain⟨_,e2⟩:=uZ [] m sh ds hnl;have hs0:ff ν x (fun _=>none):=hs.less fun _=>.inr (.inl rfl)
  obtain⟨a1,a2,a3⟩:=iG (m:=[]) hs0 (fun l h=>by simp[look]at h) sh ds (fun j=>args.getD j undef) hargs e2;rw[<-e1]at a1 a2 a3;have hle:Le (x.ll fun _=>none) x:=⟨fun b hb=>by
   rcases hb with h|⟨_,_,_,_,h⟩
   ·exact h
   ·exact absurd rfl h,fun _ _=>rfl,fun _ _ h=>h⟩
  refine(hΓ.pure fid n hn x args _ (by rw[a1,hl]) (fun i hi=>(a3 i ae).mono hle) a2 hs.imm hs.gd hpre).mono fun v x' h=>?_
  obtain⟨h1,h2⟩:=h;exact⟨h1.step hs.imm,h2,h1.mn hs,fun l _=>by rw[h1.β]⟩
 |false=>
  obtain⟨a1,a2,a3⟩:=iG hs (hag hnl) sh ds (fun j=>args.getD j undef) hargs ho;have hmf:(Y.val n (fA m sh ds)).eL=true:=by simpa[pT,hnl]using hok
  have himm:∀b,(x.ll f).I b->b<x.w.heap.size:=by
   intro b hb;rcases hb with h|⟨l,⟨b',base,tot⟩,h1,h2,h3⟩
   ·exact hs.imm b h
   ·subst h2;exact hs.eg l _ _ _ h1
  have h:=hΓ.pure fid n hn (x.ll f) args _ (by rw[a1,hl]) (fun i hi=>a3 i ae) a2 himm (oe (nj x f) hs.gd) hpre;have key:∀v x',(lh (x.ll f) x'/\RD ν x' v (Y.val n (fA m sh ds)))->Goal ν x f L (Y.val n (fA m sh ds)) v ⟨x'.w,x.I,x.β⟩:=by
   intro v x' ⟨h1,h2⟩;have hp:lh x ⟨x'.w,x.I,x.β⟩:=⟨h1.grow,fun _ h=>h,fun _ h=>.inl h,fun b hb=>en (hs.imm b hb) h1.grow.size,rfl⟩;exact⟨hp.step hs.imm,h2.eL hmf,hp.mn hs,fun _ _=>rfl⟩
  rcases h with⟨v,x',h1,h2⟩|⟨f',args',h1,h2⟩
  ·exact .inl ⟨v,⟨x'.w,x.I,x.β⟩,h1,key v x' h2⟩
  ·refine .inr ⟨f',args',h1,Calls.mono h2 fun e w' he=>?_⟩;cases e with
   |returned v=>obtain⟨x',e1,e2⟩:=he;exact⟨⟨x'.w,x.I,x.β⟩,e1,key v x' e2⟩
   |panicked c=>exact he
   |outgrown=>exact he
end
end
section
variable [c7]
section
variable {x:X} {f:Nat->Option bK} {C:CC} {defs:List (Option Nat)} {J:Src->bI} {ev:Operand->Value} {Y:Ctx} {m:List (Nat×bK)} {L:Nat} {ν:List (Nat×Nat)}
def qF {f:Nat->Option bK}{m':List (Nat×bK)}:iq f [] m'=f:=by funext l;simp[iq]
def J7 {i:aJ}(hp:i.pure=true):i.wr J L=[]:=by cases i<;>simp_all[aJ.pure,aJ.wr]
def DS {args:List D}{ls:Option (List Nat)}(hls:ls=bif bt args then some []else none)(hag:y6 f m ls):bt args=false->∀l,look m l≠none->f l=look m l:=by
 intro h;rw[h]at hls;subst hls;exact hag
def HB {o:Oper}{fid:Nat}{args:Array Operand}{tys:Array TypeId}{n:Nat}{ss:List Src}{sh:List (List Sh)}(hcst:∀d,J (.c d)=⟨true,d⟩)(hΓ:Ok C.P C.ν C.cE Y)
  (ho:o.op=.call {callee:=.value (.func fid),args,argTypes:=tys}) (h1:ez C.ν fid=some n) (h2:C.qw defs args.toList=some ss) (hρ:sD C defs J ev x o.op.operands.toList) (hob:(aJ.call n ss sh).dN Y J m) (hs:ff C.ν x f) (hag:y6 f m ((aJ.call n ss sh).k9 J)):
  iA C.P x (Goal C.ν x (iq f ((aJ.call n ss sh).wr J L) ((aJ.call n ss sh).cE Y J m L)) L ((aJ.call n ss sh).val Y J m L)) ((execOp ev o).run C.P x.w):=by
 obtain⟨k1,k2,k3,k4⟩:=hob;have hv:=hρ (.func fid) (by simp[ho,Op.operands,Call.operands]) (.c (.fn n [])) (by simp[CC.src,h1]) (by rw[hcst]);rw[hcst]at hv;obtain⟨s1,s2,s3⟩:=fS hρ _ _ (fun o' ho'=>by simp only[ho,Op.operands,Call.operands];simp at ho'⊢;exact .inr ho') h2 k1;generalize hep:ev (.func fid)=vf at hv;cases hv with
 |eg=>exact absurd (hΓ.small _ _ h1) ae
 |fn fid' _ cs _ hν hl _=>
  have hcs:cs=#[]:=by apply Array.ext';simpa using hl
  subst hcs;have hrun:(execOp ev o).run C.P x.w=(callFunc fid' (args.map ev)).run C.P x.w:=by
   simp[execOp,ho,resolve,Deferred.ofValue,invoke,hep]
  rw[hrun];have hwr:(aJ.call n ss sh).wr J L=[]:=rfl;rw[hwr,qF];simp only[aJ.val];refine wG hΓ hν (by simp;simpa using s2.symm) (fun i hi=>?_) hs (DS rfl hag) k2 k3 k4;have:=s3 i hi
  rwa [<-Array.toList_map,bT]at this
def kO (a b:Array Value)(i:Nat):(a++b).getD i undef=if i<a.size then a.getD i undef else b.getD (i-a.size) undef:=by
 rw[<-bT,Array.toList_append,cK];simp only[Array.length_toList,bT]
def HC {o:Oper}{t:Nat}{args:Array Operand}{tys:Array TypeId}{s:Src}{ss:List Src}{sh:List (List Sh)}(hΓ:Ok C.P C.ν C.cE Y)
  (ho:o.op=.call {callee:=.value (.tmp t),args,argTypes:=tys}) (h1:C.src defs (.tmp t)=some s) (h2:C.qw defs args.toList=some ss) (hρ:sD C defs J ev x o.op.operands.toList) (hob:(aJ.callv s ss sh).dN Y J m) (hs:ff C.ν x f) (hag:y6 f m ((aJ.callv s ss sh).k9 J)):
  iA C.P x (Goal C.ν x (iq f ((aJ.callv s ss sh).wr J L) ((aJ.callv s ss sh).cE Y J m L)) L ((aJ.callv s ss sh).val Y J m L)) ((execOp ev o).run C.P x.w):=by
 obtain⟨k0,k1,k2⟩:=hob;have hv:=hρ (.tmp t) (by simp[ho,Op.operands,Call.operands]) s h1 k0;obtain⟨s1,s2,s3⟩:=fS hρ _ _ (fun o' ho'=>by simp only[ho,Op.operands,Call.operands];simp at ho'⊢;exact .inr ho') h2 k1;cases hd:(J s).d<;>simp only[hd]at k2;rename_i n caps;obtain⟨k1',k2,k3,k4⟩:=k2;rw[hd]at hv;generalize hep:ev (.tmp t)=vf at hv;cases hv with
 |eg _ n'=>exact absurd k1' ae
 |fn fid' _ cs _ hν hl hcs=>
  have hrun:(execOp ev o).run C.P x.w=(callFunc fid' (args.map ev++cs)).run C.P x.w:=by
   simp[execOp,ho,resolve,Deferred.ofValue,invoke,hep]
  rw[hrun];have hwr:(aJ.callv s ss sh).wr J L=[]:=rfl;rw[hwr,qF];have tf:(aJ.callv s ss sh).val Y J m L=Y.val n (fA m sh (gX J ss++caps)):=by simp[aJ.val,hd]
  rw[tf];have hsz:args.size=(gX J ss).length:=by simpa using s2.symm
  refine wG hΓ hν (by simp[hl,hsz]) (fun i hi=>?_) hs (DS (by simp[aJ.k9,hd]) hag) k2 k3 k4;rw[kO,cK];simp only[Array.size_map,hsz];split
  ·rename_i hlt;have:=s3 i hlt
   rwa [<-Array.toList_map,bT]at this
  ·exact hcs _ (by simp at hi;omega)
def E3 {o:Oper}{fid:Nat}{args:Array Operand}{tys:Array TypeId}{n:Nat}{r:Src}{ss:List Src}{sh:List (List Sh)}(hcst:∀d,J (.c d)=⟨true,d⟩)(hΓ:Ok C.P C.ν C.cE Y)(hef:C.cE.contains (2*n+1)=true)
  (ho:o.op=.call {callee:=.value (.func fid),args,argTypes:=tys}) (h1:ez C.ν fid=some n) (h2:C.qw defs args.toList=some (r::ss)) (hρ:sD C defs J ev x o.op.operands.toList) (hob:(aJ.callF n r ss sh).dN Y J m) (hs:ff C.ν x f)
  (hag:y6 f m ((aJ.callF n r ss sh).k9 J)):
  iA C.P x (Goal C.ν x (iq f ((aJ.callF n r ss sh).wr J L) ((aJ.callF n r ss sh).cE Y J m L)) L ((aJ.callF n r ss sh).val Y J m L)) ((execOp ev o).run C.P x.w):=by
 obtain⟨k0,k1,k2,k3⟩:=hob;have hv:=hρ (.func fid) (by simp[ho,Op.operands,Call.operands]) (.c (.fn n [])) (by simp[CC.src,h1]) (by rw[hcst]);rw[hcst]at hv;obtain⟨s1,s2,s3⟩:=fS hρ _ _ (fun o' ho'=>by simp only[ho,Op.operands,Call.operands];simp at ho'⊢;exact .inr ho') h2 ⟨k0,k1⟩;cases hd:(J r).d<;>simp only[hd]at k3;rename_i l k i o';obtain⟨rfl,rfl,k4,k5,k6,k7⟩:=k3;generalize hep:ev (.func fid)=vf at hv;cases hv with
 |eg=>exact absurd (hΓ.small _ _ h1) ae
 |fn fid' _ cs _ hν hl _=>
  have hcs:cs=#[]:=by apply Array.ext';simpa using hl
  subst hcs;have hrun:(execOp ev o).run C.P x.w=(callFunc fid' (args.map ev)).run C.P x.w:=by
   simp[execOp,ho,resolve,Deferred.ofValue,invoke,hep]
  rw[hrun];have hlk:f l=look m l:=hag l (by simp[hd,cN]);obtain⟨g1,g2,g3⟩:=pR hs hlk k4;have hb1:bf m l=[(bf m l).getD 0 .any]:=by
   match he:bf m l,k5 with
   |[e],_=>rfl
  have hsz:args.size=ss.length+1:=by simpa using s1
  have hdl:(gX J ss).length=ss.length:=by
   have:=s2;simp only[gX,ay]at this;have h4:=s1;simp only[ay]at h4;omega
  obtain⟨p1,p2⟩:=uZ [] [] sh (gX J ss) k2;have hs0:ff C.ν x (fun _=>none):=hs.less fun _=>.inr (.inl rfl)
  have hget:∀q,(args.map ev).getD q undef=(args.toList.map ev).getD q undef:=fun q=>by rw[<-Array.toList_map,bT]
  obtain⟨a1,a2,a3⟩:=iG (m:=[]) hs0 (fun l h=>by simp[look]at h) sh (gX J ss) (fun j=>(args.map ev).getD (j+1) undef) (fun j hj=>by
   have:=s3 (j+1) (by simp only[gX,ay];omega);rw[hget];simpa[gX]using this) p2
  have hle:Le (x.ll fun _=>none) x:=⟨fun b hb=>by
   rcases hb with h|⟨_,_,_,_,h⟩
   ·exact h
   ·exact absurd rfl h,fun _ _=>rfl,fun _ _ h=>h⟩
  have h0:RD C.ν x ((args.map ev).getD 0 undef) (.ptr l k 0 0):=by
   have:=s3 0 (by simp[gX]);rw[hget];simpa[gX,hd]using this
  rw[hb1]at g1;refine(hΓ.effF fid' n hν hef x f _ l k _ (fA [] sh (gX J ss)) (by simp[a1,hdl,hsz]) h0 (fun i hi=>(a3 i ae).mono hle) hs g1 k6 a2 k7).mono fun v x' h=>?_
  obtain⟨q1,q2,q3,q4⟩:=h;refine⟨q1,by simpa only[aJ.val,hd]using q2,q3.less fun l'=>.inl ?_,fun l' _=>by rw[q4]⟩;simp only[iq,aJ.wr,hd,cN,aJ.cE,cJ,cn];by_cases e:l'=l
  ·rw[av e,av e,av e]
  ·rw[ai e,ai e]
def uP {o:Oper}{i:aJ}(hc:C.op defs o=some i)(hncm:i.dp=false)(hΓ:Ok C.P C.ν C.cE Y)(hρ:sD C defs J ev x o.op.operands.toList)(hcst:∀d,J (.c d)=⟨true,d⟩)(hob:i.dN Y J m)(hs:ff C.ν x f)(hag:y6 f m (i.k9 J))(hL:x.β L=none):
  iA C.P x (Goal C.ν x (iq f (i.wr J L) (i.cE Y J m L)) L (i.val Y J m L)) ((execOp ev o).run C.P x.w):=by
 by_cases hp:i.pure=true
 ·rw[J7 hp,qF];exact(J2 hc hp hρ hob hs).n7
 ·cases ho:o.op with
  |alloc t=>exact(HA hc (.inl ⟨t,ho⟩) hρ hcst hob hs hL hΓ.bld).n7
  |box t p=>exact(HA hc (.inr ⟨t,p,ho⟩) hρ hcst hob hs hL hΓ.bld).n7
  |buildSlice t n ps=>exact(MW hc ho hρ hob hs hL).n7
  |load t p=>exact(J0 hc ho hρ hob hs hag).n7
  |store t p q=>exact(HE hc ho hρ hob hs hag).n7
  |makeSlice t a b=>exact(MX hc ho hρ hob hs hL).n7
  |range t p=>exact(HD hc ho hρ hob hs hL).n7
  |next it b=>
   cases b
   ·simp[CC.op,ho]at hc
   ·exact(J1 hc ho hρ hob hs hag).n7
  |convert s d p=>
   have:(∃a,i=.s2b a)\/(∃a,i=.b2s a):=by
    simp only[CC.op,ho]at hc
    (repeat' split at hc)<;>simp only[aQ,reduceCtorEq]at hc<;>subst hc<;>first
      |exact .inl ⟨_,rfl⟩
      |exact .inr ⟨_,rfl⟩
      |(exfalso;exact hp rfl)
   rcases this with⟨a,rfl⟩|⟨a,rfl⟩
   ·exact(MY (i:=.s2b a) hc ho hρ hob hs hL).n7
   ·exact(MV hc ho hρ hob hs hag).n7
  |call c=>
   obtain⟨callee,args,argTypes⟩:=c;cases callee with
   |builtin bu=>
    cases bu with
    |append=>
     have hx:∃p q t u,args=#[p,q]/\argTypes=#[t,u]:=by
      simp only[CC.op,ho]at hc;split at hc
      ·rename_i p q t u hargs htys;exact⟨p,q,t,u,by apply Array.ext';simpa using hargs,by apply Array.ext';simpa using htys⟩
      ·cases hc
     obtain⟨p,q,t,u,rfl,rfl⟩:=hx;exact(MU hc ho hρ hob hs hag hL).n7
    |len=>
     exfalso;simp only[CC.op,ho]at hc
     (repeat' split at hc)<;>simp only[aQ,reduceCtorEq]at hc<;>subst hc<;>exact hp rfl
    |_=>simp[CC.op,ho]at hc
   |value fv=>
    cases fv with
    |func fid=>
     have hc0:=hc;simp only[CC.op,ho]at hc;split at hc
     ·rename_i n ss h1 h2;split at hc
      ·simp only[aQ]at hc;subst hc;simp[aJ.dp]at hncm
      ·split at hc
       ·rename_i hef;split at hc
        ·rename_i r rest;simp only[aQ]at hc;subst hc;exact E3 hcst hΓ hef ho h1 h2 hρ hob hs hag
        ·cases hc
       ·simp only[aQ]at hc;subst hc;exact HB hcst hΓ ho h1 h2 hρ hob hs hag
     ·cases hc
    |tmp t=>
     simp only[CC.op,ho]at hc;split at hc
     ·rename_i s ss h1 h2;split at hc
      ·simp only[aQ]at hc;subst hc;simp[aJ.dp]at hncm
      ·simp only[aQ]at hc;subst hc;exact HC hΓ ho h1 h2 hρ hob hs hag
     ·cases hc
    |_=>simp[CC.op,ho]at hc
   |invoke r n=>simp[CC.op,ho]at hc
  |move p=>exfalso;simp only[CC.op,ho,dj]at hc;obtain⟨s,h1,rfl⟩:=hc;exact hp rfl
  |assign p=>exfalso;simp only[CC.op,ho,dj]at hc;obtain⟨s,h1,rfl⟩:=hc;exact hp rfl
  |nilCheck p=>exfalso;simp only[CC.op,ho,dj]at hc;obtain⟨s,h1,rfl⟩:=hc;exact hp rfl
  |unOp op t p=>exfalso;simp only[CC.op,ho,dj]at hc;obtain⟨s,h1,rfl⟩:=hc;exact hp rfl
  |extract p n=>exfalso;simp only[CC.op,ho,dj]at hc;obtain⟨s,h1,rfl⟩:=hc;exact hp rfl
  |makeFunc fn fst caps=>
   exfalso;cases fn<;>simp only[CC.op,ho]at hc<;>try(cases hc;done)
   (repeat' split at hc)<;>(try simp only[aQ,reduceCtorEq]at hc)<;>first
     |(subst hc;exact hp rfl)
     |exact hc.elim
     |(simp only[dj]at hc;obtain⟨_,_,rfl⟩:=hc;exact hp rfl)
  |_=>
   exfalso;simp only[CC.op,ho]at hc
   (try cases hc)<;>(repeat' split at hc)<;>(try simp only[aQ,reduceCtorEq,dj]at hc)<;>first
     |(subst hc;exact hp rfl)
     |(obtain⟨s,h1,rfl⟩:=hc;exact hp rfl)
     |exact hc.elim
     |cases hc
def hJ (l k:Nat)(es:List D):∀ds:List D,(rz l k es ds).length=ds.length
 |[]=>rfl
 |d::r=>by simp[rz,hJ l k es r]
def lq (l k:Nat)(es:List D):∀(ds:List D)(i:Nat),(rz l k es ds).getD i .any=mb l k es (ds.getD i .any)
 |[],i=>by simp[rz,mb]
 |d::r,0=>by simp[rz]
 |d::r,i+1=>by simpa[rz]using lq l k es r i
def RD.fz {ν:List (Nat×Nat)}{x x':X}{l k:Nat}{es:List D}(hle:Le x x')(hn:bt es=true)
  (ho:∀b base tot,x.β l=some (b,base,tot)->x'.I b/\(∀i,i<es.length->(es.getD i .any).cells.length=k)/\∃c:Nat->Nat->Value,∀i j,i<es.length->j<k->
    x'.w.cell? ⟨b,base+i*k+j,none⟩=some (c i j)/\(c i j).oneCell'=true/\RD ν x' (c i j) ((es.getD i .any).cells.getD j .any)) {v:Value} {d:D} (h:RD ν x v d):RD ν x' v (mb l k es d):=by
 induction h with
 |any v=>exact .any v
 |bool b=>exact .bool b
 |int k n=>exact .int k n
 |str s h=>exact .str s h
 |agg cs ds hl' h1 _ ih=>exact .agg cs _ (by rw[hJ];exact hl') (fun i hi=>h1 i (by rwa [hJ]at hi)) fun i hi=>by rw[lq];exact ih i (by rwa [hJ]at hi)
 |tup cs ds hl' _ ih=>exact .tup cs _ (by rw[hJ];exact hl') fun i hi=>by rw[lq];exact ih i (by rwa [hJ]at hi)
 |aV=>exact .aV
 |sl a b off len cap k' es' c hlen ha hcap hm hk hn' hc h1 h _=>exact(RD.sl a b off len cap k' es' c hlen ha hcap hm hk hn' hc h1 h).mono hle
 |ref b off k' i o at_ es' c hI hat hk hn' hc h1 h _=>exact(RD.ref b off k' i o at_ es' c hI hat hk hn' hc h1 h).mono hle
 |ptr l' k' i o b base tot at_ hβ hat=>
  simp only[mb];split
  ·rename_i hh;obtain⟨rfl,rfl⟩:=hh;obtain⟨o1,o2,c,o3⟩:=ho b base tot hβ;exact .ref b base k' i o at_ es c o1 hat o2 (fun i _=>de hn i) (fun i j hi hj=>(o3 i j hi hj).1) (fun i j hi hj=>(o3 i j hi hj).2.1) (fun i j hi hj=>(o3 i j hi hj).2.2)
  ·exact .ptr l' k' i o b base tot at_ (hle.β _ _ hβ) hat
 |own l' k' i n b base tot cap a hβ ha hcap hm ht=>
  simp only[mb];split
  ·rename_i hh;obtain⟨rfl,rfl,hin⟩:=hh;obtain⟨o1,o2,c,o3⟩:=ho b base tot hβ;have hg:∀q,q<n->((es.drop i).take n).getD q .any=es.getD (i+q) .any:=fun q hq=>by
    simp[List.getD,List.getElem?_take,hq]
   have hlen:((es.drop i).take n).length=n:=cz;refine .sl (some a) b (base+i*k') n cap k' _ (fun q j=>c (i+q) j) hlen.symm ?_ hcap hm (fun q hq=>by rw[hg q hq];exact o2 _ ae) (fun q hq=>by rw[hg q hq];exact de hn _)
    (fun q j hq hj=>?_) (fun q j hq hj=>(o3 (i+q) j ae hj).2.1) (fun q j hq hj=>by rw[hg q hq];exact(o3 (i+q) j ae hj).2.2)
   ·by_cases hc0:0<cap
    ·right;rw[ha hc0];exact⟨rfl,o1⟩
    ·left;apply kr;omega
   ·have:=(o3 (i+q) j ae hj).1;rw[<-this];congr 2;rw[Nat.add_mul];omega
  ·exact .own l' k' i n b base tot cap a (hle.β _ _ hβ) ha hcap hm ht
 |own0 l' k' i=>
  simp only[mb];split
  ·rename_i hh;simp only[List.take_zero];exact .sl none 0 0 0 0 k [] (fun _ _=>undef) rfl (.inl rfl) (aY _) (Nat.zero_le _) (fun i hi=>ae) (fun i hi=>ae) (fun i j hi=>ae) (fun i j hi=>ae) (fun i j hi=>ae)
  ·exact .own0 l' k' i
 |nilp=>exact .nilp
 |fn fid n cs ds hν hl' _ ih=>exact .fn fid n cs _ hν (by rw[hJ];exact hl') fun i hi=>by rw[lq];exact ih i (by rwa [hJ]at hi)
 |eg fid n cs ds hν hl' _ ih=>exact .eg fid n cs _ hν (by rw[hJ];exact hl') fun i hi=>by rw[lq];exact ih i (by rwa [hJ]at hi)
 |nilf=>exact .nilf
 |it l b base tot hβ=>exact .it l b base tot (hle.β _ _ hβ)
def ui {J:Src->bI}:∀(ps:List (Nat×Src))(l:List D),(kC J l ps).length=l.length
 |[],l=>rfl
 |(i,s)::r,l=>by simp only[kC];rw[ui r];simp
def iA.re {P:Program}{x:X}{Q Q':Value->X->Prop}{r:Result Next}(h:iA P x Q r)(hq:∀v x',Q v x'->∃x'',x''.w=x'.w/\Q' v x''):iA P x Q' r:=by
 rcases h with⟨v,x',h1,h2⟩|⟨f',args',h1,h2⟩
 ·obtain⟨x'',e,h3⟩:=hq v x' h2;exact .inl ⟨v,x'',by rw[e];exact h1,h3⟩
 ·refine .inr ⟨f',args',h1,Calls.mono h2 fun e w' he=>?_⟩;cases e with
  |returned v=>
   obtain⟨x',e1,e2⟩:=he;obtain⟨x'',e3,h3⟩:=hq v x' e2;exact⟨x'',by rw[e3];exact e1,h3⟩
  |panicked c=>exact he
  |outgrown=>exact he
def Goal.ice {x x':X}{f:Nat->Option bK}{L k n:Nat}{es:List D}{v:Value}(hg:Goal ν x (iq f [L] (dC m L (.buf k es))) L (.own L k 0 n) v x')(hn:bt es=true)(hlen:es.length=n)(hL:x.β L=none)(hfL:f L=none):∃x'',x''.w=x'.w/\Goal ν x f L (.sl k es) v x'':=by
 obtain⟨h1,h2,h3,h4⟩:=hg;have hlk:iq f [L] (dC m L (.buf k es)) L=some (.buf k es):=by simp[iq,cn]
 let x'':X:=⟨x'.w,fun b=>x'.I b\/∃p,x'.β L=some p/\p.1=b,x'.β⟩
 have hle:Le x' x'':=⟨fun _ h=>.inl h,fun _ _=>rfl,fun _ _ h=>h⟩;have ho:∀b base tot,x'.β L=some (b,base,tot)->x''.I b/\(∀i,i<es.length->(es.getD i .any).cells.length=k)/\∃c:Nat->Nat->Value,∀i j,i<es.length->j<k->
   x''.w.cell? ⟨b,base+i*k+j,none⟩=some (c i j)/\(c i j).oneCell'=true/\RD ν x'' (c i j) ((es.getD i .any).cells.getD j .any):=by
  intro b base tot hβ;obtain⟨o1,o2,o3,c,T,fr,o4,o5,o6,o7⟩:=h3.own L _ b base tot hlk hβ;refine⟨.inr ⟨_,hβ,rfl⟩,fun i hi=>(o7 i hi).1,fun i j=>c.getD (base+i*k+j) undef,fun i j hi hj=>⟨?_,((o7 i hi).2 j hj).1,((o7 i hi).2 j hj).2.mono hle⟩⟩;exact cell_of_heap o4 (by have:=ij (tot:=tot) (show i<tot by omega) hj;omega)
 have hrd:RD ν x'' v (.sl k es):=by
  have:=h2.fz (x':=x'') (l:=L) (k:=k) (es:=es) hle hn ho;simpa[mb,hlen,dQ]using this
 have hnew:∀b,(∃p,x'.β L=some p/\p.1=b)->x.w.heap.size<=b\/∃l p,x.β l=some p/\p.1=b:=by
  rintro b ⟨p,e1,e2⟩;rcases h1.newβ L p e1 with h|h|⟨l',p',h,h'⟩
  ·rw[hL]at h;cases h
  ·exact .inl (e2▸h)
  ·exact .inr ⟨l',p',h,h'.trans e2⟩
 refine⟨x'',rfl,⟨h1.os,h1.tape,h1.output,h1.size,fun b hb=>.inl (h1.I b hb),h1.nN,h1.β,h1.old,fun b hb=>?_,h1.newβ⟩,hrd,⟨fun l' blk b base tot e1 e2=>?_,fun l1 l2 b base tot base' tot' e1 e2 e3 e4=>?_,fun b hb=>?_,h3.eg,oe hle h3.gd⟩,h4⟩
 ·rcases hb with hb|hb
  ·exact h1.newI b hb
  ·exact .inr (hnew b hb)
 ·have hne:l'≠L:=by rintro rfl;rw[hfL]at e1;cases e1
  have e1':iq f [L] (dC m L (.buf k es)) l'=some blk:=by simp[iq,hne,e1]
  obtain⟨o1,o2⟩:=h3.own l' blk b base tot e1' e2;refine⟨?_,o2.mono hle rfl⟩;rintro(hb|⟨⟨b',base',tot'⟩,q1,q2⟩)
  ·exact o1 hb
  ·simp only at q2;subst q2;exact hne (h3.inj l' L b' base tot base' tot' (by rw[e1'];simp) (by rw[hlk];simp) e2 q1)
 ·have hn1:∀l,f l≠none->iq f [L] (dC m L (.buf k es)) l≠none:=fun l hl=>by
   have hne:l≠L:=by rintro rfl;exact hl hfL
   simpa[iq,hne]using hl
  exact h3.inj l1 l2 b base tot base' tot' (hn1 _ e1) (hn1 _ e2) e3 e4
 ·rcases hb with hb|⟨⟨b',base',tot'⟩,q1,q2⟩
  ·exact h3.imm b hb
  ·simp only at q2;subst q2;exact h3.eg L _ _ _ q1
def OpX (C:CC)(defs:List (Option Nat))(o:Oper)(i:aJ):Prop:=C.op defs o=some i\/(∃n ag p,i=.ldI n ag p/\C.op defs o=some (.ld n ag p))\/(∃k y,i=.appN k y/\C.op defs o=some (.app k (.c .aV) y))\/(∃k z n ps,i=.bslI k z n ps/\C.op defs o=some (.bsl k z n ps))\/∃n ag p,i=.ldU n ag p/\C.op defs o=some (.ld n ag p)
def yz {o:Oper}{i:aJ}(hc:OpX C defs o i)(hncm:i.dp=false)(hΓ:Ok C.P C.ν C.cE Y)(hρ:sD C defs J ev x o.op.operands.toList)(hcst:∀d,J (.c d)=⟨true,d⟩)(hob:i.dN Y J m)(hs:ff C.ν x f)(hag:y6 f m (i.k9 J))(hL:x.β L=none)(hfL:f L=none):
  iA C.P x (Goal C.ν x (iq f (i.wr J L) (i.cE Y J m L)) L (i.val Y J m L)) ((execOp ev o).run C.P x.w):=by
 rcases hc with hc|⟨n,ag,p,rfl,hc⟩|⟨k,y,rfl,hc⟩|⟨k,z,n,ps,rfl,hc⟩|⟨n,ag,p,rfl,hc⟩
 ·exact uP hc hncm hΓ hρ hcst hob hs hag hL
 rotate_left 3
 ·obtain⟨k1,k2⟩:=hob;have hob':(aJ.ld n ag p).dN Y J m:=by
   simp only[aJ.dN];cases hd:(J p).d<;>simp only[hd]at k2<;>simp only[Dh]
   ·exact⟨k1,k2⟩
   ·exact⟨k1,k2.1⟩
  have h:=uP (i:=aJ.ld n ag p) (L:=L) hc rfl hΓ hρ hcst hob' hs hag hL;exact h
 rotate_left;rotate_left
 ·obtain⟨k1,k2,k3⟩:=hob;have hob':(aJ.bsl k z n ps).dN Y J m:=⟨k1,k2⟩;have:=uP (L:=L) hc rfl hΓ hρ hcst hob' hs (by simp[aJ.k9,y6]) hL;refine this.re fun v x' hg=>?_
  exact hg.ice k3 (by rw[ui,List.length_replicate]) hL hfL
 rotate_left
 ·obtain⟨k1,k2,k3⟩:=hob;have hob':(aJ.app k (.c .aV) y).dN Y J m:=by simp only[aJ.dN,hcst];exact⟨trivial,k1,k2,k3⟩
  have:=uP (L:=L) hc rfl hΓ hρ hcst hob' hs (by simpa[aJ.k9,hcst,cN]using hag) hL;have e1:(aJ.appN k y).val Y J m L=(aJ.app k (.c .aV) y).val Y J m L:=by simp[aJ.val,hcst]
  have e2:(aJ.appN k y).wr J L=(aJ.app k (.c .aV) y).wr J L:=by simp[aJ.wr,hcst,cN]
  have e3:(aJ.appN k y).cE Y J m L=(aJ.app k (.c .aV) y).cE Y J m L:=by simp[aJ.cE,hcst]
  rw[e1,e2,e3];exact this
 ·obtain⟨k1,k2⟩:=hob;cases hd:(J p).d<;>simp only[hd]at k2;have hob':(aJ.ld n ag p).dN Y J m:=by simp only[aJ.dN,hd,Dh];exact⟨k1,k2⟩
  have:=uP (L:=L) hc rfl hΓ hρ hcst hob' hs (by simp[aJ.k9,hd,cN,y6]) hL;have e1:(aJ.ldI n ag p).val Y J m L=(aJ.ld n ag p).val Y J m L:=by simp[aJ.val,hd,BP]
  rw[e1];exact this
end
end
section
variable [c7]
section
variable {C:CC} {Y:Ctx}
def mF:∀(l:List Nat)(t n:Nat),tj l t=some n->l[n]? =some t
 |[],t,n,h=>by simp[tj]at h
 |a::r,t,n,h=>by
  simp only[tj]at h;split at h
  ·rename_i e;simp only[aQ]at h;subst h;simp[e]
  ·simp only[dj]at h;obtain⟨k,h1,rfl⟩:=h;simpa using mF r t k h1
def yk:∀(l:List Nat)(t n:Nat),l.Nodup->l[n]? =some t->tj l t=some n
 |[],t,n,_,h=>by simp at h
 |a::r,t,0,_,h=>by simp at h;simp[tj,h]
 |a::r,t,n+1,hn,h=>by
  simp only[List.getElem?_cons_succ]at h;rw[List.nodup_cons]at hn;have:a≠t:=fun e=>hn.1 (e▸List.mem_of_getElem? h)
  simp[tj,this,yk r t n hn.2 h]
def uU:∀(l:List (Option Nat))(t p:Nat),posOf t l=some p->l[p]? =some (some t)
 |[],t,n,h=>by simp[posOf]at h
 |a::r,t,n,h=>by
  simp only[posOf]at h;split at h
  ·rename_i e;simp only[aQ]at h;subst h;simp[e]
  ·simp only[dj]at h;obtain⟨k,h1,rfl⟩:=h;simpa using uU r t k h1
def uT:∀(l:List (Option Nat))(t:Nat),posOf t l=none->∀p:Nat,l[p]? ≠some (some t)
 |[],t,h,p=>aT
 |a::r,t,h,p=>by
  simp only[posOf]at h;split at h
  ·cases h
  ·rename_i e;simp only[Option.map_eq_none_iff]at h;cases p with
   |zero=>simpa using e
   |succ p=>simpa using uT r t h p
structure Spec (C:CC)(ops:List Oper)(l:List GI):Prop where
 len:l.length=ops.length
 op:∀(i:Nat) (o:Oper),ops[i]? =some o->∃g,l[i]? =some g/\OpX C ((ops.map (·.dst)).take i) o g.i/\CC.guard ((ops.map (·.dst)).take i) o.guard=some g.g
 dst:∀(i:Nat) (o:Oper) (d:Nat),ops[i]? =some o->o.dst=some d->d<C.ntmps/\∀p:Nat,p<i->(ops.map (·.dst))[p]? ≠some (some d)
def zZ:∀(ops pre:List Oper)(l lp:List GI),Spec C pre lp->C.ops (pre.map (·.dst)) ops=some l->Spec C (pre++ops) (lp++l)
 |[],pre,l,lp,hp,h=>by simp[CC.ops]at h;subst h;simpa using hp
 |o::r,pre,l,lp,hp,h=>by
  simp only[CC.ops]at h;split at h
  ·rename_i i g l' h1 h2 h3;split at h
   ·rename_i hd;simp only[aQ]at h;subst h;have hp':Spec C (pre++[o]) (lp++[⟨i,g⟩]):=by
     have hl:=hp.len;refine⟨by simp[hl],fun j o' ho'=>?_,fun j o' d ho' hd'=>?_⟩
     ·rw[List.getElem?_append]at ho';split at ho'
      ·rename_i hj;obtain⟨g',a1,a2,a3⟩:=hp.op j o' ho';have e:((pre++[o]).map (·.dst)).take j=(pre.map (·.dst)).take j:=by rw[List.map_append,List.take_append_of_le_length cz]
       rw[e];exact⟨g',by rw[List.getElem?_append_left ae];exact a1,a2,a3⟩
      ·rename_i hj;obtain rfl:j=pre.length:=by
        have:=(List.getElem?_eq_some_iff.1 ho').1;simp at this;omega
       simp at ho';subst ho';have e:((pre++[o]).map (·.dst)).take pre.length=pre.map (·.dst):=aT;rw[e];exact⟨⟨i,g⟩,by rw[<-hl];simp,.inl h1,h2⟩
     ·rw[List.getElem?_append]at ho';split at ho'
      ·rename_i hj;obtain⟨a1,a2⟩:=hp.dst j o' d ho' hd';refine⟨a1,fun p hpj=>?_⟩;rw[List.map_append,List.getElem?_append_left cz];exact a2 p hpj
      ·rename_i hj;obtain rfl:j=pre.length:=by
        have:=(List.getElem?_eq_some_iff.1 ho').1;simp at this;omega
       simp at ho';subst ho';simp only[hd',Option.all_some,aZ,aR,bB,List.contains_eq_mem,bx]at hd;refine⟨hd.1,fun p hpj=>?_⟩;rw[List.map_append,List.getElem?_append_left cz];exact fun e=>hd.2 (List.mem_of_getElem? e)
    have:=zZ r (pre++[o]) l' (lp++[⟨i,g⟩]) hp' (by simpa using h3);simpa using this
   ·cases h
  ·cases h
def Spec.start {ops:List Oper}{l:List GI}(h:C.ops [] ops=some l):Spec C ops l:=by
 have:=zZ (C:=C) ops [] l [] ⟨rfl,fun i o h=>by simp at h,fun i o d h=>by simp at h⟩ (by simpa using h);simpa using this
def Iy (i:aJ):i.Nz=i\/∃k y,i=.app k (.c .aV) y/\i.Nz=.appN k y:=by
 unfold aJ.Nz;split
 ·rename_i k y;exact .inr ⟨k,y,rfl,rfl⟩
 ·exact .inl rfl
def uF (bs:List Nat)(l0:List GI):∀(l:List GI)(p i:Nat)(g:GI),l[i]? =some g->∃g',(kj bs l0 p l)[i]? =some g'/\g'.g=g.g/\(g'.i=g.i\/(∃n ag x,g.i=.ld n ag x/\g'.i=.ldI n ag x)\/(∃k y,g.i=.app k (.c .aV) y/\g'.i=.appN k y)\/(∃k z n ps,g.i=.bsl k z n ps/\g'.i=.bslI k z n ps)\/∃n ag x,g.i=.ld n ag x/\g'.i=.ldU n ag x)
 |[],p,i,g,h=>by simp at h
 |a::r,p,0,g,h=>by
  simp only[List.getElem?_cons_zero,aQ]at h;subst h;simp only[kj,List.getElem?_cons_zero,aQ,exists_eq_left'];split
  ·rename_i n ag x hi;split
   ·split
    ·exact⟨rfl,.inr (.inr (.inr (.inr ⟨n,ag,x,hi,rfl⟩)))⟩
    ·exact⟨rfl,.inr (.inl ⟨n,ag,x,hi,rfl⟩)⟩
   ·exact⟨rfl,.inl rfl⟩
  ·rename_i k z n ps hi;split
   ·exact⟨rfl,.inr (.inr (.inr (.inl ⟨k,z,n,ps,hi,rfl⟩)))⟩
   ·exact⟨rfl,.inl rfl⟩
  ·exact⟨rfl,(Iy a.i).imp id fun h=>.inr (.inl h)⟩
 |a::r,p,i+1,g,h=>by
  simp only[kj,List.getElem?_cons_succ]at h⊢;exact uF bs l0 r (p+1) i g h
def uG (bs:List Nat)(l0:List GI):∀(l:List GI)(p:Nat),(kj bs l0 p l).length=l.length
 |[],p=>rfl
 |a::r,p=>by simp only[kj,ay,uG bs l0 r (p+1)]
def Spec.kj {ops:List Oper}{l:List GI}(bs:List Nat)(h:Spec C ops l):Spec C ops (kj bs l 0 l):=by
 refine⟨by rw[uG];exact h.len,fun i o ho=>?_,h.dst⟩;obtain⟨g,h1,h2,h3⟩:=h.op i o ho;obtain⟨g',a1,a2,a3⟩:=uF bs l l 0 i g h1;refine⟨g',a1, ?_,by rw[a2];exact h3⟩;rcases a3 with e|⟨n,ag,x,e1,e2⟩|⟨k,y,e1,e2⟩|⟨k,z,n,ps,e1,e2⟩|⟨n,ag,x,e1,e2⟩
 ·rw[e];exact h2
 ·rw[e1]at h2;rcases h2 with h2|⟨n',ag',p',h4,_⟩|⟨k',y',h4,_⟩|⟨_,_,_,_,h4,_⟩|⟨_,_,_,h4,_⟩
  ·exact .inr (.inl ⟨n,ag,x,e2,h2⟩)
  all_goals cases h4
 ·rw[e1]at h2;rcases h2 with h2|⟨n',ag',p',h4,_⟩|⟨k',y',h4,_⟩|⟨_,_,_,_,h4,_⟩|⟨_,_,_,h4,_⟩
  ·exact .inr (.inr (.inl ⟨k,y,e2,h2⟩))
  all_goals cases h4
 ·rw[e1]at h2;rcases h2 with h2|⟨n',ag',p',h4,_⟩|⟨k',y',h4,_⟩|⟨_,_,_,_,h4,_⟩|⟨_,_,_,h4,_⟩
  ·exact .inr (.inr (.inr (.inl ⟨k,z,n,ps,e2,h2⟩)))
  all_goals cases h4
 ·rw[e1]at h2;rcases h2 with h2|⟨n',ag',p',h4,_⟩|⟨k',y',h4,_⟩|⟨_,_,_,_,h4,_⟩|⟨_,_,_,h4,_⟩
  ·exact .inr (.inr (.inr (.inr ⟨n,ag,x,e2,h2⟩)))
  all_goals cases h4
def Spec.distinct {ops:List Oper}{l:List GI}(h:Spec C ops l){i p d:Nat}(hi:(ops.map (·.dst))[i]? =some (some d))(hp:(ops.map (·.dst))[p]? =some (some d)):p=i:=by
 rw[List.getElem?_map,dj]at hi hp;obtain⟨oi,hi1,hi2⟩:=hi;obtain⟨op,hp1,hp2⟩:=hp;rcases Nat.lt_trichotomy p i with h1|h1|h1
 ·exact absurd (by rw[List.getElem?_map,hp1,Option.map_some,hp2]) ((h.dst i oi d hi1 hi2).2 p h1)
 ·exact h1
 ·exact absurd (by rw[List.getElem?_map,hi1,Option.map_some,hi2]) ((h.dst p op d hp1 hp2).2 i h1)
structure tO (C:CC)(env:List bI)(DD:List (Option Nat))(VS:List bI)(D:Nat->Prop)(a:Act)(x:X):Prop where
 val:∀p t:Nat,D p->DD[p]? =some (some t)->(VS.getD p .un).ok=true->RD C.ν x (a.tmps.getD t undef) (VS.getD p .un).d
 und:∀p t:Nat,D p->DD[p]? =some (some t)->(VS.getD p .un).ok=false->a.tmps.getD t undef=undef
 old:∀n t:Nat,C.slots[n]? =some t->(∀p,D p->DD[p]? ≠some (some t))->(env.getD n .un).ok=true->RD C.ν x (a.tmps.getD t undef) (env.getD n .un).d
 size:a.tmps.size=C.ntmps
 defers:a.defers=[]
def HZ (a:Act)(d:Nat)(v:Value)(t:Nat)(h:d<a.tmps.size):(a.put (some d) v).tmps.getD t undef=if t=d then v else a.tmps.getD t undef:=by
 simp only[Act.put,Array.getD_eq_getD_getElem?];rw[Array.getElem?_setIfInBounds];by_cases e:d=t
 ·subst e;simp[h]
 ·simp[e,Ne.symm e]
def tO.put {env:List bI}{DD:List (Option Nat)}{VS:List bI}{D D':Nat->Prop}{a:Act}{x x':X}{i:Nat}{dst:Option Nat}{v:Value}(h:tO C env DD VS D a x)(hle:Le x x')(hd:DD[i]? =some dst)
  (hdst:∀t,dst=some t->t<C.ntmps/\∀p,p≠i->DD[p]? ≠some (some t)) (hv:(VS.getD i .un).ok=true->RD C.ν x' v (VS.getD i .un).d) (hu:(VS.getD i .un).ok=false->v=undef)
  (hD:∀p,D' p↔D p\/p=i):tO C env DD VS D' (a.put dst v) x':=by
 cases dst with
 |none=>
  have hne:∀p t,DD[p]? =some (some t)->p≠i:=fun p t e e'=>by subst e';rw[hd]at e;simp at e
  refine⟨fun p t hp e ho=>?_,fun p t hp e ho=>?_,fun n t hn hp ho=>?_,h.size,h.defers⟩
  ·exact(h.val p t (((hD p).1 hp).resolve_right (hne p t e)) e ho).mono hle
  ·exact h.und p t (((hD p).1 hp).resolve_right (hne p t e)) e ho
  ·exact(h.old n t hn (fun p hp'=>hp p ((hD p).2 (.inl hp'))) ho).mono hle
 |some d=>
  obtain⟨h1,h2⟩:=hdst d rfl;have hg:=HZ a d v (h:=by rw[h.size];exact h1);refine⟨fun p t hp e ho=>?_,fun p t hp e ho=>?_,fun n t hn hp ho=>?_,by simp[Act.put,h.size],h.defers⟩
  ·by_cases hpi:p=i
   ·subst hpi;rw[hd]at e;simp only[aQ]at e;subst e;rw[hg,av rfl];exact hv ho
   ·have:t≠d:=fun e'=>h2 p hpi (e'▸e)
    rw[hg,ai this];exact(h.val p t (((hD p).1 hp).resolve_right hpi) e ho).mono hle
  ·by_cases hpi:p=i
   ·subst hpi;rw[hd]at e;simp only[aQ]at e;subst e;rw[hg,av rfl];exact hu ho
   ·have:t≠d:=fun e'=>h2 p hpi (e'▸e)
    rw[hg,ai this];exact h.und p t (((hD p).1 hp).resolve_right hpi) e ho
  ·have:t≠d:=fun e'=>hp i ((hD i).2 (.inr rfl)) (by rw[hd,e'])
   rw[hg,ai this];exact(h.old n t hn (fun p hp'=>hp p ((hD p).2 (.inl hp'))) ho).mono hle
def getD_take {α:Type}(l:List α)(i p:Nat)(d:α)(h:p<i):(l.take i).getD p d=l.getD p d:=by
 simp[List.getD,List.getElem?_take,h]
def tO.rho {env:List bI}{DD:List (Option Nat)}{VS:List bI}{D:Nat->Prop}{a:Act}{x:X}{i:Nat}{os:List Operand}(h:tO C env DD VS D a x)
  (hr:∀t p,Operand.tmp t∈os->DD[p]? =some (some t)->(p<i->D p)/\(i<=p->¬D p)):sD C (DD.take i) (Src.ev env (VS.take i)) a.eval x os:=by
 intro o ho s hs hok;cases o with
 |tmp t=>
  simp only[CC.src]at hs;split at hs
  ·rename_i p hp;simp only[aQ]at hs;subst hs;have hp1:=uU _ _ _ hp;rw[List.getElem?_take]at hp1;split at hp1
   ·rename_i hpi;simp only[Src.ev]at hok⊢;rw[getD_take _ _ _ _ hpi]at hok⊢;exact h.val p t ((hr t p ho hp1).1 hpi) hp1 hok
   ·cases hp1
  ·rename_i hp;simp only[dj]at hs;obtain⟨n,h1,rfl⟩:=hs;simp only[Src.ev]at hok⊢;refine h.old n t (mF _ _ _ h1) (fun p hp' e=>?_) hok;by_cases hpi:p<i
   ·exact uT _ _ hp p (by rw[List.getElem?_take,av hpi];exact e)
   ·exact(hr t p ho e).2 ae hp'
 |const v=>
  simp only[CC.src,dj]at hs;obtain⟨d,h1,rfl⟩:=hs;exact kL v d h1
 |func f=>
  simp only[CC.src,dj]at hs;obtain⟨n,h1,rfl⟩:=hs;exact .fn f n #[] [] h1 rfl (fun i hi=>by simp at hi)
 |global g=>simp[CC.src]at hs
def Ha {vs:List bI}{i:aJ}{g:Option (Nat×Bool)}(h:G9 vs i g):we vs g:=by
 cases g with
 |none=>trivial
 |some jw=>exact h.2
def j8 {env:List bI}{ops:Array Oper}{VS:List bI}{D:Nat->Prop}{a:Act}{x:X}{i:Nat}{o:Oper}{g:GI}(h:tO C env (ops.toList.map (·.dst)) VS D a x)
  (hg:CC.guard ((ops.toList.map (·.dst)).take i) o.guard=some g.g) (hD:∀j w,o.guard=some (j,w)->j<i->D j) (hgok:we (VS.take i) g.g):Region.wanted o (yielded ops a.tmps)=flag (VS.take i) g.g:=by
 unfold Region.wanted;cases hog:o.guard with
 |none=>simp only[hog,CC.guard,aQ]at hg;simp[<-hg,flag]
 |some jw=>
  obtain⟨j,w⟩:=jw;simp only[hog,CC.guard]at hg;split at hg
  ·rename_i t hj;simp only[aQ]at hg;rw[<-hg]at hgok⊢;rw[List.getElem?_take]at hj;split at hj
   ·rename_i hji;have hDj:=hD j w hog hji;have hy:(ops[j]?).bind (·.dst)=some t:=by
     rw[List.getElem?_map,Array.getElem?_toList]at hj;cases ho:ops[j]? with
     |none=>simp[ho]at hj
     |some oj=>simpa[ho]using hj
    simp only[yielded,hy,Option.bind_some,flag,we]at hgok⊢;rw[getD_take _ _ _ _ hji]at hgok⊢;cases hok:(VS.getD j .un).ok with
    |false=>
     have:=h.und j t hDj hj hok;simp only[Array.getD_eq_getD_getElem?]at this;cases ht:a.tmps[t]? with
     |none=>simp
     |some v=>simp only[ht,Option.getD_some]at this;subst this;simp[undef]
    |true=>
     have hb:=hgok hok;have hv:=h.val j t hDj hj hok;cases hd:(VS.getD j .un).d<;>simp only[hd,Go.Abs.D.isBool]at hb<;>try cases hb
     rename_i b;rw[hd]at hv;have hv:=hv.ir;simp only[Array.getD_eq_getD_getElem?]at hv;cases ht:a.tmps[t]? with
     |none=>simp[ht,undef]at hv
     |some v=>simp only[ht,Option.getD_some]at hv;subst hv;simp
   ·cases hj
  ·cases hg
end
end
section
variable [c7]
section
variable {C:CC} {Y:Ctx} {J:Src->bI} {m:List (Nat×bK)} {L:Nat}
def rO {i:aJ}{l:Nat}(h:l∉i.wr J L):look (i.cE Y J m L) l=look m l:=by
 cases i<;>simp only[aJ.wr,dy,fK,or_false,not_or]at h<;>simp only[aJ.cE]
 case box=>rw[cn,ai h]
 case mkB=>rw[cn,ai h]
 case bsl=>rw[cn,ai h]
 case mks=>rw[cn,ai h]
 case s2b x=>split<;>first|rw[cn,ai h]|rfl
 case appN k y=>rw[cn,ai h]
 case nT x=>split<;>first|rw[cn,ai h]|rfl
 case st n p v=>
  split
  ·rename_i hd;rw[hd]at h;rw[cn,ai (by simpa[cN]using h)]
  ·rfl
 case app k x y=>
  split
  ·rename_i hd;rw[hd]at h;rw[cn,ai h.1,fG,ai (by simpa[cN]using h.2)]
  ·rw[cn,ai h.1]
 case vU x=>
  split
  ·rename_i hd;rw[hd]at h;split
   ·rename_i s pos _;cases decide (pos<s.length)<;>simp only[cond_true,cond_false];rw[cn,ai (by simpa[cN]using h)]
   ·rfl
  ·rfl
 case callF n r args sh=>
  split
  ·rename_i hd;rw[hd]at h;rw[cn,ai (by simpa[cN]using h)]
  ·rfl
def jS {i:aJ}(h:i.calm=true){l:Nat}(hl:l∈i.wr J L):l=L:=by
 cases i<;>simp_all[aJ.calm,aJ.wr]
def fO {l k n:Nat}(h:fm m l k n):look m l≠none:=by
 intro e;simp[fm,e]at h
def Hy {i:aJ}(h:i.dN Y J m){l:Nat}(hl:l∈i.wr J L):l=L\/look m l≠none:=by
 cases i<;>simp only[aJ.wr,dy,fK,or_false]at hl<;>first
  |exact .inl hl
  |exact hl.elim
  |skip
 case st n p v=>
  right;obtain⟨_,_,_,h4⟩:=h;cases hd:(J p).d<;>simp only[hd,cN,cJ]at h4 hl;subst hl;exact fO h4.1
 case app k x y=>
  rcases hl with hl|hl
  ·exact .inl hl
  ·right;obtain⟨_,_,_,h4⟩:=h;cases hd:(J x).d<;>simp only[hd,cN,cJ,fK]at h4 hl;subst hl;exact fO h4.2.1
 case vU x=>
  right;obtain⟨_,h4⟩:=h;cases hd:(J x).d<;>simp only[hd,cN,cJ,fK]at h4 hl;subst hl;intro e;simp[e]at h4
 case callF n r args sh=>
  right;obtain⟨_,_,_,h4⟩:=h;cases hd:(J r).d<;>simp only[hd,cN,cJ,fK]at h4 hl;subst hl;exact fO h4.2.2.1
def qR {i:aJ}(h:i.calm=true\/i.dN Y J m){l:Nat}(hl:look (i.cE Y J m L) l≠none):look m l≠none\/l=L:=by
 by_cases hw:l∈i.wr J L
 ·rcases h with h|h
  ·exact .inr (jS h hw)
  ·exact(Hy h hw).symm
 ·left;rwa [rO hw]at hl
omit [c7]in
theorem HX {i:aJ}(h:i.pure=true):i.cE Y J m L=m:=by
 cases i<;>simp_all[aJ.pure,aJ.cE]
omit [c7]in
theorem E9 {i:aJ}(h:i.pure=true):i.calm=true:=by
 cases i<;>simp_all[aJ.pure,aJ.calm]
def HY {i:aJ}(h:i.pure=true):i.k9 J=some []:=by
 cases i<;>simp_all[aJ.pure,aJ.k9]
def EC {i:aJ}(h:i.free=true):i.calm=true:=by
 cases i<;>simp_all[aJ.free,aJ.calm,aJ.pure]
def JB {i:aJ}(h:i.free=true):i.wr J L=[]:=by
 cases i<;>simp_all[aJ.free,aJ.wr,aJ.pure]
def G3 {i:aJ}(h:i.free=true):i.cE Y J m L=m:=by
 cases i<;>simp_all[aJ.free,aJ.cE,aJ.pure]
def xe {sh:List Sh}(h:sh.all Sh.NK=true):∀{d:D},gQ m sh d->d.bG=true:=by
 have hL:∀(sh:List Sh) (ds:List D),sh.all Sh.NK=true->kE m sh ds->bt ds=true:=by
  intro sh;induction sh with
  |nil=>intro ds _ h;simpa[kE]using h
  |cons s r ih=>
   intro ds h ho;cases ds with
   |nil=>rfl
   |cons d ds=>
    simp only[List.all_cons,aZ]at h;simp only[kE]at ho;have hs:s=.a:=by cases s<;>simp_all[Sh.NK]
    subst hs;simp only[bt,aZ];exact⟨by simpa[j4]using ho.1,ih ds h.2 ho.2⟩
 intro d ho;cases sh with
 |nil=>simpa[gQ]using ho
 |cons s r=>
  have hs:s=.a:=by simp only[List.all_cons,aZ]at h;cases s<;>simp_all[Sh.NK]
  cases d<;>simp only[gQ]at ho<;>first
   |(subst hs;simpa[j4]using ho)
   |(rw[D.pf];exact hL _ _ h ho)
def sf:∀{ss:List (List Sh)}{ds:List D},ss.all (fun s=>s.all Sh.NK)=true->iO m ss ds->bt ds=true
 |ss,[],_,_=>by simp[bt]
 |[],d::r,h,ho=>by
  simp only[iO]at ho;simp only[bt,aZ];exact⟨xe (sh:=[.a]) rfl ho.1,sf (ss:=[]) rfl ho.2⟩
 |s::ss,d::r,h,ho=>by
  simp only[iO]at ho;simp only[List.all_cons,aZ]at h;simp only[bt,aZ];exact⟨xe h.1 ho.1,sf h.2 ho.2⟩
def G4 {i:aJ}(h:i.free=true)(ho:i.dN Y J m):i.k9 J=some []:=by
 cases i<;>simp only[aJ.free]at h<;>try(exact HY h)
 simp only[aJ.k9,sf h ho.2.1,cond_true]
def uH {i:aJ}(h:i.iN=true):i.calm=true:=by
 cases i<;>simp_all[aJ.iN,aJ.calm]
def EP {i:aJ}(h:i.iN=true):i.k9 J=some []:=by
 cases i<;>simp_all[aJ.iN,aJ.k9]
def rQ {k:Nat}{d:D}(h:yc m k d){l:Nat}(hl:l∈cN d):look m l≠none:=by
 cases d<;>simp only[cN,cJ,fK,yc]at h hl;subst hl;exact fO h.2
def yx {i:aJ}(h:i.dN Y J m){ls:List Nat}(hls:i.k9 J=some ls){l:Nat}(hl:l∈ls):look m l≠none:=by
 cases i<;>simp only[aJ.k9,aQ,reduceCtorEq]at hls<;>first
  |(subst hls;exact absurd hl fK)
  |skip
 case ldU n ag p=>
  subst hls;obtain⟨_,h4⟩:=h;cases hd:(J p).d<;>simp only[hd,cN,cJ,fK]at h4 hl;subst hl;exact fO h4.1.1
 case ld n ag p=>
  subst hls;obtain⟨_,h4⟩:=h;cases hd:(J p).d<;>simp only[hd,cN,cJ,fK,Dh]at h4 hl;subst hl;exact fO h4.1
 case st n p v=>
  subst hls;obtain⟨_,_,_,h4⟩:=h;cases hd:(J p).d<;>simp only[hd,cN,cJ]at h4 hl;subst hl;exact fO h4.1
 case b2s x=>
  subst hls;exact rQ h.2.2.1 hl
 case app k x y=>
  subst hls;obtain⟨_,_,h3,h4⟩:=h;rw[List.mem_append]at hl;rcases hl with hl|hl
  ·cases hd:(J x).d<;>simp only[hd,cN,cJ,fK]at h4 hl;subst hl;exact fO h4.2.1
  ·exact rQ h3 hl
 case appN k y=>
  subst hls;exact rQ h.2.1 hl
 case vU x=>
  subst hls;obtain⟨_,h4⟩:=h;cases hd:(J x).d<;>simp only[hd,cN,cJ,fK]at h4 hl;subst hl;intro e;simp[e]at h4
 case call f args sh=>
  cases hn:bt (gX J args)<;>simp only[hn,cond_true,cond_false,aQ,reduceCtorEq]at hls;subst hls;exact absurd hl aT
 case callv f args sh=>
  cases hd:(J f).d<;>simp only[hd,reduceCtorEq]at hls;rename_i n caps;cases hn:bt (gX J args++caps)<;>simp only[hn,cond_true,cond_false,aQ,reduceCtorEq]at hls;subst hls;exact absurd hl aT
 case callF n r args sh=>
  subst hls;obtain⟨_,_,_,h4⟩:=h;cases hd:(J r).d<;>simp only[hd,cN,cJ,fK]at h4 hl;subst hl;exact fO h4.2.2.1
omit [c7]in
theorem xi {draw:Bool}{i:aJ}{g:Option (Nat×Bool)}{r:List GI}{env vs:List bI}{st:St}{K:List bI->St->Prop}(h:i.dp=false)(hf:i.sL draw g=true):
  iy Y draw (⟨i,g⟩::r) env vs st K=(we vs g/\(flag vs g=true->i.dN Y (Src.ev env vs) st.m/\
     iy Y draw r env (vs++[⟨true,i.val Y (Src.ev env vs) st.m (st.nx+vs.length)⟩]) {st with m:=i.cE Y (Src.ev env vs) st.m (st.nx+vs.length)} K)/\
    (flag vs g=false->iy Y draw r env (vs++[⟨false,.any⟩]) st K)):=by
 cases i<;>first
  |(simp[aJ.dp]at h;done)
  |(simp only[iy];rw[av hf])
omit [c7]in
theorem kZ {draw:Bool}{i:aJ}{g:Option (Nat×Bool)}{r:List GI}{env vs:List bI}{st:St}{K:List bI->St->Prop}(h:i.dp=false)(hf:i.sL draw g=false):
  iy Y draw (⟨i,g⟩::r) env vs st K=(G9 vs i g/\(flag vs g=true->i.dN Y (Src.ev env vs) st.m)/\
   ((flag vs g=true->i.Bo draw (Src.ev env vs))->∃d,(flag vs g=true->i.val Y (Src.ev env vs) st.m (st.nx+vs.length)=d)/\
     iy Y draw r env (vs++[⟨flag vs g,d⟩]) {st with m:=i.cE Y (Src.ev env vs) st.m (st.nx+vs.length)} K)):=by
 cases i<;>first
  |(simp[aJ.dp]at h;done)
  |(simp only[iy];rw[ai (by rw[hf];simp)])
def RD.K9 {ν:List (Nat×Nat)}{x:X}{v:Value}{d:D}(h:RD ν x v d):(∀k es,d=.sl k es->es.length<=9223372036854775807)/\(∀l k i n,d=.own l k i n->n<=9223372036854775807)/\(∀s,d=.str s->s.length<=9223372036854775807):=by
 cases h<;>refine⟨?_, ?_, ?_⟩<;>intros<;>simp_all[maxLen]<;>omega
def Gu {i:aJ}{draw:Bool}(h:∀s,(i=.len s\/i=.lenS s)->(draw=true->s.Hh=true)->(J s).ok=true->∃ν x v,RD ν x v (J s).d):i.Bo draw J:=by
 cases i<;>simp only[aJ.Bo]
 case len s=>
  cases hb:(draw&& !s.Hh)<;>simp only[cond_true,cond_false];intro hok;obtain⟨ν,x,v,hr⟩:=h s (.inl rfl) (fun hd=>by simpa[hd]using hb) hok;obtain⟨a1,a2,a3⟩:=hr.K9;cases hd:(J s).d<;>simp only
  ·exact a1 _ _ hd
  ·exact a2 _ _ _ _ hd
 case lenS s=>
  cases hb:(draw&& !s.Hh)<;>simp only[cond_true,cond_false];intro hok;obtain⟨ν,x,v,hr⟩:=h s (.inr rfl) (fun hd=>by simpa[hd]using hb) hok;obtain⟨a1,a2,a3⟩:=hr.K9;cases hd:(J s).d<;>simp only;exact a3 _ hd
def B3 {defs:List (Option Nat)}{o:Oper}{s:Src}(hc:C.op defs o=some (.len s)\/C.op defs o=some (.lenS s)):∃p∈o.op.operands.toList,C.src defs p=some s:=by
 cases ho:o.op with
 |call c=>
  obtain⟨callee,args,argTypes⟩:=c;cases callee with
  |builtin bu=>
   cases bu with
   |len=>
    simp only[CC.op,ho]at hc;split at hc
    ·rename_i p t hargs htys;refine⟨p,by simp[Op.operands,Call.operands,hargs], ?_⟩;split at hc<;>simp_all
    ·simp at hc
   |append=>simp only[CC.op,ho]at hc;(repeat' split at hc)<;>simp_all
   |_=>simp[CC.op,ho]at hc
  |value f=>
   cases f with
   |func fid=>simp only[CC.op,ho]at hc;(repeat' split at hc)<;>simp_all
   |tmp t=>simp only[CC.op,ho]at hc;(repeat' split at hc)<;>simp_all
   |_=>simp[CC.op,ho]at hc
  |invoke r n=>simp[CC.op,ho]at hc
 |makeFunc fn fst caps=>cases fn<;>simp only[CC.op,ho]at hc<;>(repeat' split at hc)<;>simp_all
 |next it b=>cases b<;>simp[CC.op,ho]at hc
 |_=>
  simp only[CC.op,ho]at hc
  (try(repeat' split at hc))<;>simp at hc
def yA {defs:List (Option Nat)}{o:Oper}{n:Nat}{ss:List Src}(hc:C.op defs o=some (.callM n ss)):
  ∃fid args tys,o.op=.call {callee:=.value (.func fid),args,argTypes:=tys}/\ez C.ν fid=some n/\C.cE.contains (2*n)=true/\C.qw defs args.toList=some ss:=by
 cases ho:o.op with
 |call c=>
  obtain⟨callee,args,argTypes⟩:=c;cases callee with
  |builtin bu=>
   cases bu with
   |len=>simp only[CC.op,ho]at hc;(repeat' split at hc)<;>simp_all
   |append=>simp only[CC.op,ho]at hc;(repeat' split at hc)<;>simp_all
   |_=>simp[CC.op,ho]at hc
  |value f=>
   cases f with
   |func fid=>
    simp only[CC.op,ho]at hc;split at hc
    ·rename_i n' ss' h1 h2;split at hc
     ·rename_i h3;simp only[aQ,aJ.callM.injEq]at hc;obtain⟨rfl,rfl⟩:=hc;exact⟨fid,args,argTypes,rfl,h1,h3,h2⟩
     ·(repeat' split at hc)<;>simp at hc
    ·cases hc
   |tmp t=>simp only[CC.op,ho]at hc;(repeat' split at hc)<;>simp_all
   |_=>simp[CC.op,ho]at hc
  |invoke r n=>simp[CC.op,ho]at hc
 |makeFunc fn fst caps=>cases fn<;>simp only[CC.op,ho]at hc<;>(repeat' split at hc)<;>simp_all
 |next it b=>cases b<;>simp[CC.op,ho]at hc
 |_=>
  simp only[CC.op,ho]at hc
  (try(repeat' split at hc))<;>simp at hc
def wj {defs:List (Option Nat)}{o:Oper}{fs:Src}{ss:List Src}(hc:C.op defs o=some (.callvM fs ss)):
  ∃t args tys,o.op=.call {callee:=.value (.tmp t),args,argTypes:=tys}/\C.src defs (.tmp t)=some fs/\C.qw defs args.toList=some ss:=by
 cases ho:o.op with
 |call c=>
  obtain⟨callee,args,argTypes⟩:=c;cases callee with
  |builtin bu=>
   cases bu with
   |len=>simp only[CC.op,ho]at hc;(repeat' split at hc)<;>simp_all
   |append=>simp only[CC.op,ho]at hc;(repeat' split at hc)<;>simp_all
   |_=>simp[CC.op,ho]at hc
  |value f=>
   cases f with
   |func fid=>simp only[CC.op,ho]at hc;(repeat' split at hc)<;>simp_all
   |tmp t=>
    simp only[CC.op,ho]at hc;split at hc
    ·rename_i s' ss' h1 h2;split at hc
     ·simp only[aQ,aJ.callvM.injEq]at hc;obtain⟨rfl,rfl⟩:=hc;exact⟨t,args,argTypes,rfl,h1,h2⟩
     ·simp at hc
    ·cases hc
   |_=>simp[CC.op,ho]at hc
  |invoke r n=>simp[CC.op,ho]at hc
 |makeFunc fn fst caps=>cases fn<;>simp only[CC.op,ho]at hc<;>(repeat' split at hc)<;>simp_all
 |next it b=>cases b<;>simp[CC.op,ho]at hc
 |_=>
  simp only[CC.op,ho]at hc
  (try(repeat' split at hc))<;>simp at hc
def zY {x:X}{defs:List (Option Nat)}{ev:Operand->Value}{o:Oper}{n:Nat}{ss:List Src}{st:St}{K:D->St->Prop}(hcst:∀d,J (.c d)=⟨true,d⟩)(hΓ:Ok C.P C.ν C.cE Y)
  (hc:C.op defs o=some (.callM n ss)) (hρ:sD C defs J ev x o.op.operands.toList) (hok:tn J ss) (hs:ff C.ν x (look st.m)) (hfr:eV st x) (htr:Y.tr n (gX J ss) st K):
  iA C.P x (fun v x'=>∃d st',K d st'/\Step x x'/\RD C.ν x' v d/\ff C.ν x' (look st'.m)/\eV st' x') ((execOp ev o).run C.P x.w):=by
 obtain⟨fid,args,tys,ho,h1,h3,h2⟩:=yA hc;have hv:=hρ (.func fid) (by simp[ho,Op.operands,Call.operands]) (.c (.fn n [])) (by simp[CC.src,h1]) (by rw[hcst]);rw[hcst]at hv;obtain⟨s1,s2,s3⟩:=fS hρ _ _ (fun o' ho'=>by simp only[ho,Op.operands,Call.operands];simp at ho'⊢;exact .inr ho') h2 hok;generalize hep:ev (.func fid)=vf at hv;cases hv with
 |eg=>exact absurd (hΓ.small _ _ h1) ae
 |fn fid' _ cs _ hν hl _=>
  have hcs:cs=#[]:=by apply Array.ext';simpa using hl
  subst hcs;have hrun:(execOp ev o).run C.P x.w=(callFunc fid' (args.map ev)).run C.P x.w:=by
   simp[execOp,ho,resolve,Deferred.ofValue,invoke,hep]
  rw[hrun];refine hΓ.cE fid' n hν x _ (gX J ss) st K (by simp;simpa using s2.symm) (fun i hi=>?_) hs hfr htr;have:=s3 i hi
  rwa [<-Array.toList_map,bT]at this
def E4 {x:X}{defs:List (Option Nat)}{ev:Operand->Value}{o:Oper}{fs:Src}{n:Nat}{caps:List D}{ss:List Src}{st:St}{K:D->St->Prop}(hΓ:Ok C.P C.ν C.cE Y)
  (hc:C.op defs o=some (.callvM fs ss)) (hρ:sD C defs J ev x o.op.operands.toList) (hfo:(J fs).ok=true) (hd:(J fs).d=.fn n caps) (hok:tn J ss) (hs:ff C.ν x (look st.m)) (hfr:eV st x) (htr:Y.tr (xU n) (vX n (gX J ss) caps) st K):
  iA C.P x (fun v x'=>∃d st',K d st'/\Step x x'/\RD C.ν x' v d/\ff C.ν x' (look st'.m)/\eV st' x') ((execOp ev o).run C.P x.w):=by
 obtain⟨t,args,tys,ho,h1,h2⟩:=wj hc;have hv:=hρ (.tmp t) (by simp[ho,Op.operands,Call.operands]) fs h1 hfo;rw[hd]at hv;obtain⟨s1,s2,s3⟩:=fS hρ _ _ (fun o' ho'=>by simp only[ho,Op.operands,Call.operands];simp at ho'⊢;exact .inr ho') h2 hok;have hsz:args.size=(gX J ss).length:=by simpa using s2.symm
 generalize hep:ev (.tmp t)=vf at hv;cases hv with
 |fn fid' _ cs _ hν hl hcs=>
  have hn:=hΓ.small _ _ hν;have e1:xU n=n:=by simp[xU,hn]
  have e2:vX n (gX J ss) caps=gX J ss++caps:=by simp[vX,hn]
  rw[e1,e2]at htr;have hrun:(execOp ev o).run C.P x.w=(callFunc fid' (args.map ev++cs)).run C.P x.w:=by
   simp[execOp,ho,resolve,Deferred.ofValue,invoke,hep]
  rw[hrun];refine hΓ.cE fid' n hν x _ (gX J ss++caps) st K (by simp[hl,hsz]) (fun i hi=>?_) hs hfr htr;rw[kO,cK];simp only[Array.size_map,hsz];split
  ·rename_i hlt;have:=s3 i hlt
   rwa [<-Array.toList_map,bT]at this
  ·exact hcs _ (by simp at hi;omega)
 |eg fid' n' cs _ hν hl hcs=>
  have e1:xU (n'+1000000)=n':=by unfold xU;rw[ai ae];omega
  have e2:vX (n'+1000000) (gX J ss) caps=caps++gX J ss:=by unfold vX;rw[ai ae]
  rw[e1,e2]at htr;have hrun:(execOp ev o).run C.P x.w=(callFunc fid' (cs++args.map ev)).run C.P x.w:=by
   simp[execOp,ho,resolve,Deferred.ofValue,invoke,hep]
  rw[hrun];refine hΓ.cE fid' n' hν x _ (caps++gX J ss) st K (by simp[hl,hsz]) (fun i hi=>?_) hs hfr htr;rw[kO,cK];rw[hl];split
  ·exact hcs i (by assumption)
  ·have:=s3 (i-caps.length) (by simp at hi;omega)
   rwa [<-Array.toList_map,bT]at this
end
end
end Go.Abs
