/- A part of the proofs. -/
import Derived.Deep.DeepAppendWide
import Derived.Great.BuildSlice
import Derived.Laws.IdiomStrings
import Derived.Laws.MakeOwn
import Derived.Lib.SliceRun
import Derived.Orders
import Derived.Test.YtfijeeijkndliaaGreatDoorP01
set_option linter.all false
set_option maxRecDepth 60000
set_option maxHeartbeats 2000000
namespace Go.Abs
section
variable [df]
def s8 {α:Type}(l:List α)(j:Nat)(d:α)(h:j<l.length):l.getD j d=l[j]:=by simp[List.getD,h]
def aaW (cs new:List D)(o:Nat)(h:o+new.length<=cs.length):(over cs o new).length=cs.length:=by
 grind [over]
def W7 (cs new:List D)(o:Nat)(h:o+new.length<=cs.length)(j:Nat)(d:D):(over cs o new).getD j d=if o<=j/\j<o+new.length then new.getD (j-o) d else cs.getD j d:=by
 grind [over]
theorem dc (m:List (Nat×cr))(L:Nat)(b:cr)(l:Nat):look (ep m L b) l=if l=L then some b else look m l:=by
 induction m with
 |nil=>by_cases h:l=L<;>simp[ep,look,h,eq_comm]<;>omega
 |cons p r ih=>
  grind [ep,look]
theorem gU (m:List (Nat×cr))(k l:Nat):look (cM m k) l=if l=k then none else look m l:=by
 induction m with
 |nil=>simp[cM,look]
 |cons p r ih=>
  grind [cM,look]
def lz (f:Nat->Option cr)(ws:List Nat)(m':List (Nat×cr)):Nat->Option cr:=fun l=>if l∈ws then look m' l else f l
section
variable {ν:List (Nat×Nat)} {x:X} {P:Program}
def nV (b:Nat):∀(vs:List Value) (o:Nat) (w:World) (c:Array Value) (T:TypeId) (fr:Nat×Nat),w.heap[b]? =some (.cells c T fr)->o+vs.length<=c.size->
  ∃c',(w.setCells b o vs).heap[b]? =some (.cells c' T fr)/\c'.size=c.size/\∀q,c'.getD q undef=if o<=q/\q<o+vs.length then vs.getD (q-o) undef else c.getD q undef
 |[],o,w,c,T,fr,h,_=>⟨c,by simpa[World.setCells]using h,rfl,fun q=>by rw[ar (fun e=>by have:=e.1;have:=e.2;simp at this;omega)]⟩
 |v::r,o,w,c,T,fr,h,hl=>by
  simp only[aM]at hl;have h1:(w.setCell ⟨b,o,none⟩ v).heap[b]? =some (.cells (c.setIfInBounds o v) T fr):=by
   simp[World.setCell,Array.getElem?_modify,h]
  obtain⟨c',g1,g2,g3⟩:=nV b r (o+1) _ _ T fr h1 dk;refine⟨c',by simpa[World.setCells]using g1,by simpa using g2,fun q=>?_⟩;rw[g3 q];simp only[aM];by_cases q1:o+1<=q/\q<o+1+r.length
  .rw[aC q1,aC ae,show q-o=(q-(o+1))+1 by omega];simp
  .rw[ar q1];by_cases q2:q=o
   .subst q2;rw[aC ae];simp[Array.getD,show q<c.size by omega]
   .rw[ar ae];rw[<-cS,<-cS];simp[List.getD,List.getElem?_set,show ¬o=q by omega]
def mM (b:Nat):∀(vs:List Value) (o:Nat) (w:World) (b':Nat),b'≠b->(w.setCells b o vs).heap[b']? =w.heap[b']?
 |[],o,w,b',_=>rfl
 |v::r,o,w,b',h=>by
  rw[show w.setCells b o (v::r)=(w.setCell ⟨b,o,none⟩ v).setCells b (o+1) r from rfl,mM b r (o+1) _ b' h];simp[World.setCell,Array.getElem?_modify,show b≠b' by omega]
def mL (b:Nat):∀(vs:List Value) (o:Nat) (w:World),(w.setCells b o vs).os=w.os/\(w.setCells b o vs).tape=w.tape/\(w.setCells b o vs).output=w.output/\(w.setCells b o vs).heap.size=w.heap.size
 |[],o,w=>⟨rfl,rfl,rfl,rfl⟩
 |v::r,o,w=>by
  have:=mL b r (o+1) (w.setCell ⟨b,o,none⟩ v);exact⟨this.1,this.2.1,this.2.2.1,by rw[show w.setCells b o (v::r)=(w.setCell ⟨b,o,none⟩ v).setCells b (o+1) r from rfl,this.2.2.2];simp⟩
def cell_of_heap {w:World}{b o:Nat}{c:Array Value}{T:TypeId}{fr:Nat×Nat}(h:w.heap[b]? =some (.cells c T fr))(ho:o<c.size):w.cell? ⟨b,o,none⟩=some (c.getD o undef):=by
 rw[cell_of_row w b o c T fr h];simp[Array.getD,ho]
def wi {e:D}{k n o b at0:Nat}{ag:Bool}{ty:TypeId}{c:Nat->Value}(hk:e.cells.length=k)(hle:o+n<=k)
  (hc:∀j,j<k->x.w.cell? ⟨b,at0+j,none⟩=some (c j)/\(c j).oneCell'=true/\RD ν x (c j) (e.cells.getD j .any))
  (hn:n=P.cellsOf ty) (hn0:P.cellsOf ty≠0) (hu:(P.underlying ty).isNone=false) (hag:ag=cY P ty) (h1:ag=false->n=1):
  ∃v,(loadVar ty ⟨b,at0+o,none⟩).run P x.w=.ok v x.w/\RD ν x v (qS e k n o ag):=by
 have hcut:∃v,(loadVar ty ⟨b,at0+o,none⟩).run P x.w=.ok v x.w/\RD ν x v (cut e.cells o n ag)/\(ag=true->v=.agg ((List.range n).map fun j=>c (o+j)).toArray)/\(ag=false->v=c o):=by
  cases hb:ag
  .have hn1:=h1 hb;refine⟨c o, ?_,by simp only[cut,cond_false];exact(hc o ae).2.2,aI,fun _=>rfl⟩;rw[hb]at hag;unfold loadVar;rw[Sem.run_bind,yo hu,<-hag];simp[Result.andThen,(hc o ae).1]
  .rw[hb]at hag;refine⟨.agg ((List.range n).map fun j=>c (o+j)).toArray, ?_, ?_,fun _=>rfl,aI⟩
   .unfold loadVar;rw[Sem.run_bind,yo hu,<-hag];have:=run_loadCells (P:=P) x.w ⟨b,at0+o,none⟩ n (fun j=>c (o+j)) (fun j hj=>by rw[Addr.Ci,Nat.add_assoc];exact(hc (o+j) ae).1);simp[Result.andThen,eM hn0,<-hn,this]
   .simp only[cut,cond_true];refine .agg _ _ dk (fun i hi=>?_) (fun i hi=>?_)
    .simp at hi;have:=(hc (o+i) ae).2.1;simpa[Array.getD,show i<n by omega]using this
    .simp at hi;rw[gn _ _ _ _ _ ae];have:=(hc (o+i) ae).2.2;simpa[Array.getD,show i<n by omega]using this
 obtain⟨v,r1,r2,r3,r4⟩:=hcut;refine⟨v,r1, ?_⟩;unfold qS;cases hb:(n==k)&&(e.isAgg==ag)
 .simpa using r2
 .simp only[bM,beq_iff_eq]at hb;obtain⟨hnk,hea⟩:=hb;simp only[cond_true];have ho:o=0:=ae;subst ho;cases hb:ag
  .rw[hb]at hea;have hv:=r4 hb;have hn1:=h1 hb;have hcell:=(hc 0 ae).2.2;rw[hv];cases e<;>simp only[D.cells,D.isAgg,aX,aM]at hk hea hcell<;>first|omega|exact absurd hea aG|exact hcell
  .rw[hb]at hea;cases e<;>simp only[D.isAgg,gP]at hea;rename_i ds;rw[r3 hb];simp only[D.cells]at hk hc;refine .agg _ _ dk (fun i hi=>?_) (fun i hi=>?_)
   .have:=(hc i ae).2.1;simpa[Array.getD,show i<n by omega]using this
   .have:=(hc i ae).2.2;simpa[Array.getD,show i<n by omega]using this
def xw {f:Nat->Option cr}{m:List (Nat×cr)}{l k n:Nat}(hs:ie ν x f)(hf:f l=look m l)(hb:gX m l k n):
  f l=some (.buf k (bG m l))/\n<=(bG m l).length/\look m l=some (.buf k (bG m l)):=by
 grind [gX,bG,look]
theorem kP {i k tot j:Nat}(hi:i<tot)(hj:j<k):i*k+j<tot*k:=by
 have:(i+1)*k<=tot*k:=fF _ hi;rw[Nat.succ_mul]at this;omega
def KM (f:Nat->Option cr)(m:List (Nat×cr)):Option (List Nat)->Prop
 |none=>∀l,look m l≠none->f l=look m l
 |some ls=>∀l,l∈ls->f l=look m l
def sW {f f':Nat->Option cr}{L tot:Nat}{w':World}{blk:cr}{v:Value}{d:D}{r:Result Next}(hs:ie ν x f)(hL:x.β L=none)(hw:dR x.w w')(hnw:x.w.heap.size<w'.heap.size)
  (hb:rq ν ⟨w',x.I,fL x.β L (x.w.heap.size,0,tot)⟩ x.w.heap.size 0 tot blk) (hv:RD ν ⟨w',x.I,fL x.β L (x.w.heap.size,0,tot)⟩ v d)
  (hr:r=.ok (.value v) w') (hf:∀l,f' l=oW f L (some blk) l):GN ν x f' L d r:=by
 have e:f'=oW f L (some blk):=funext hf;subst e;exact⟨v,⟨w',x.I,fL x.β L (x.w.heap.size,0,tot)⟩,.inl hr,Gl hw (aH _) hL hs.imm,hv,adZ hs hw (aH _) hnw hL hb,fun l hl=>by simp[fL,hl]⟩
def yN {n:Nat}{w':World}{L tot k:Nat}{c:Array Value}{T:TypeId}{fr:Nat×Nat}{es:List D}(x':X)(hx:x'.w.heap[n]? =some (.cells c T fr))(hk:0<k)(ht:es.length<=tot)(hc:tot*k<=c.size)
  (hfr:∀o,o<c.size->¬(fr.1<=o/\o<fr.2))
  (he:∀i,i<es.length->(es.getD i .any).cells.length=k/\∀j,j<k->(c.getD (i*k+j) undef).oneCell'=true/\RD ν x' (c.getD (i*k+j) undef) ((es.getD i .any).cells.getD j .any)):
  rq ν x' n 0 tot (.buf k es):=
 ⟨hk,ht,c,T,fr,hx,ae,hfr,fun i hi=>⟨(he i hi).1,fun j hj=>by simpa using(he i hi).2 j hj⟩⟩
end
section
variable {x:X} {f:Nat->Option cr} {C:CC} {defs:List (Option Nat)} {J:Src->cA} {ev:Operand->Value} {Y:Ctx} {m:List (Nat×cr)} {L:Nat}
def JB (hs:ie C.ν x f){w':World}{tot:Nat}(hw:dR x.w w')(hL:x.β L=none):Le x ⟨w',x.I,fL x.β L (x.w.heap.size,0,tot)⟩:=
 (Gl hw (aH _) hL hs.imm).le
def TP {v:Value}{d:D}{k:Nat}{T:TypeId}{r:Result Next}(hs:ie C.ν x f)(hL:x.β L=none)(hv:RD C.ν x v d)(hk:d.cells.length=k)(hk0:k≠0)
  (hr:r=.ok (.value (.pointer (some ⟨x.w.heap.size,0,none⟩))) (x.w.alloc (.cells v.cells T))):
  GN C.ν x (lz f [L] (ep m L (.buf k [d]))) L (.ptr L k 0 0) r:=by
 have hw:=dR.alloc x.w (.cells v.cells T);have hle:=JB (tot:=1) hs hw hL;obtain⟨c1,c2⟩:=hv.cells ae;refine sW (tot:=1) (blk:=.buf k [d]) hs hL hw aI ?_ (.ptr L k 0 0 x.w.heap.size 0 1 0 (by simp[fL]) aI) hr (fun l=>?_)
 .refine yN (w':=x.w) (L:=L) _ (cR x.w _) ae aI ae (fun o _=>aI) (fun i hi=>?_);simp at hi;subst hi;refine⟨by simpa using hk,fun j hj=>?_⟩;have:=c2 j ae;exact⟨by simpa using this.1,by simpa using this.2.mono hle⟩
 grind [lz,dc,oW]
def acN {v:Value}{r:Result Next}(hs:ie C.ν x f)(hL:x.β L=none)(hv:RD C.ν x v (.agg [.nilp,.bg]))
  (hr:r=.ok (.value (.pointer (some ⟨x.w.heap.size,0,none⟩))) (x.w.alloc (.cells v.cells df.tB))):
  GN C.ν x (lz f [L] (ep m L (.bld none 0 false))) L (.ptr L 2 0 0) r:=by
 have hw:=dR.alloc x.w (.cells v.cells df.tB);refine sW (tot:=1) (blk:=.bld none 0 false) hs hL hw aI ?_ (.ptr L 2 0 0 x.w.heap.size 0 1 0 (by simp[fL]) aI) hr (fun l=>?_)
 .refine⟨rfl,.slice none 0 0, ?_,rfl,rfl⟩;refine(cR x.w _).trans ?_;cases hv with
  |agg cs _ hl h1 h=>
   have e0:=h 0 aI;have e1:=h 1 aI;simp only[gL,List.getD_cons_succ]at e0 e1;have hl2:cs.size=2:=hl;have hcs:cs=#[.pointer none,.slice none 0 0]:=by
    apply Array.ext
    .simpa using hl2
    .intro i hi1 hi2;have hi:i=0\/i=1:=ae;rcases hi with rfl|rfl
     .generalize hq:cs.getD 0 undef=q at e0;cases e0;simp[Array.getD,hi1]at hq;simpa using hq
     .generalize hq:cs.getD 1 undef=q at e1;cases e1;simp[Array.getD,hi1]at hq;simpa using hq
   subst hcs;rfl
 .by_cases e:l=L
  .subst e;simp[lz,dc,oW]
  .simp[lz,e,oW]
def aaH {o:Oper}{i:bd}(hc:C.op defs o=some i)(ho:(∃t,o.op=.alloc t)\/∃t p,o.op=.box t p)(hρ:BI C defs J ev x o.op.operands.toList)(hcst:∀d,J (.c d)=⟨true,d⟩)(hob:i.ff Y J m)(hs:ie C.ν x f)(hL:x.β L=none)(hB:∀t,C.dr.contains (1000000000+t)=true->t=df.tB):
  GN C.ν x (lz f (i.wr J L) (i.dr Y J m L)) L (i.val Y J m L) ((execOp ev o).run C.P x.w):=by
 rcases ho with⟨t,ho⟩|⟨t,p,ho⟩
 .simp only[CC.op,ho]at hc;split at hc
  .rename_i z hz;split at hc
   .cases hc
   rename_i hce;obtain⟨ti,v,hi,hzv,hr⟩:=sy (x:=x) hz;split at hc
   .rename_i hB0;split at hc
    .simp only[bq]at hc;subst hc;exact acN hs hL hr (by rw[<-hB t hB0];simp[execOp,ho,Instr.alloc,zeroValue,typeInfo,hi,hzv,newVar,newRow])
    .cases hc
   simp only[bq]at hc;subst hc;obtain⟨k1,k2⟩:=hob;simp only[hcst]at k2;have e:(bd.box (C.P.cellsOf t) (.c z)).dr Y J m L=ep m L (.buf (C.P.cellsOf t) [z]):=by simp[bd.dr,hcst]
   rw[e];refine TP (T:=t) hs hL hr k2 hce ?_;simp[execOp,ho,Instr.alloc,zeroValue,typeInfo,hi,hzv,newVar,newRow]
  .cases hc
 .simp only[CC.op,ho]at hc;split at hc
  .rename_i s h1;split at hc
   .cases hc
   rename_i hce;simp only[bq]at hc;subst hc;obtain⟨k1,k2⟩:=hob;exact TP (T:=t) hs hL (hρ p (by simp[ho,Op.operands,Call.operands]) s h1 k1) k2 hce (by simp[execOp,ho,Instr.box,newVar,newRow])
  .cases hc
def adA {o:Oper}{i:bd}{t:TypeId}{p:Operand}(hsm:∀fid n,dI C.ν fid=some n->n<1000000)(hc:C.op defs o=some i)(ho:o.op=.load t p)(hρ:BI C defs J ev x o.op.operands.toList)(hob:i.ff Y J m)(hs:ie C.ν x f)(hag:KM f m (i.pS J)):
  GN C.ν x (lz f (i.wr J L) (i.dr Y J m L)) L (i.val Y J m L) ((execOp ev o).run C.P x.w):=by
 simp only[CC.op,ho]at hc;split at hc
 .rename_i s h1;split at hc
  .cases hc
  rename_i hce;simp only[bq]at hc;subst hc;obtain⟨k1,k2⟩:=hob;have hv:=hρ p (by simp[ho,Op.operands,Call.operands]) s h1 k1;have haf:lz f ((bd.ld (C.P.cellsOf t) (cY C.P t) s).wr J L) ((bd.ld (C.P.cellsOf t) (cY C.P t) s).dr Y J m L)=f:=by funext l;simp[lz,bd.wr]
  rw[haf];have hn0:C.P.cellsOf t≠0:=fun e=>hce (.inl e)
  have hu:(C.P.underlying t).isNone=false:=by cases hn:(C.P.underlying t).isNone with|false=>rfl|true=>exact absurd (.inr (.inl hn)) hce
  have h1':cY C.P t=false->C.P.cellsOf t=1:=fun e=>by
   rcases Nat.decEq (C.P.cellsOf t) 1 with h|h
   .exact absurd (.inr (.inr ⟨e,h⟩)) hce
   .exact h
  cases hd:(J s).d<;>simp only[hd,KP]at k2
  .rename_i k es i o';rw[hd]at hv;generalize hep:ev p=vp at hv;cases hv with
   |ref b off _ _ _ at_ _ c hI hat hk hn hcc hone hh=>
    obtain⟨v,r1,r2⟩:=wi (P:=C.P) (ν:=C.ν) (x:=x) (e:=es.getD i .any) (k:=k) (n:=C.P.cellsOf t) (o:=o') (b:=b) (at0:=off+i*k) (ag:=cY C.P t) (ty:=t) (c:=c i) (hk i k2.1) k2.2
     (fun j hj=>⟨hcc i j k2.1 hj,hone i j k2.1 hj,hh i j k2.1 hj⟩) rfl hn0 hu rfl h1'
    refine bZ hs (v:=v) ?_ (by simp only[bd.val,hd,G6];exact r2);simp[execOp,ho,hep,Instr.loadAt,Instr.sureAddr,hat,r1]
  .rename_i l k i o';rw[hd]at hv;generalize hep:ev p=vp at hv;cases hv with
   |ptr _ _ _ _ b base tot at_ hβ hat=>
    obtain⟨g1,g2,g3⟩:=xw (n:=i+1) hs (hag l (by simp[hd,dK])) k2.1;obtain⟨hnI,hk0,ht,c,T,fr,q1,q2,q3,q4⟩:=hs.own l _ b base tot g1 hβ;have hi:i<(bG m l).length:=ae;obtain⟨v,r1,r2⟩:=wi (P:=C.P) (ν:=C.ν) (x:=x) (e:=(bG m l).getD i .any) (k:=k) (n:=C.P.cellsOf t) (o:=o') (b:=b) (at0:=base+i*k) (ag:=cY C.P t) (ty:=t) (c:=fun j=>c.getD (base+i*k+j) undef)
     ((q4 i hi).1) k2.2
     (fun j hj=>⟨cell_of_heap q1 (by have:=kP (tot:=tot) (show i<tot by omega) hj;omega),((q4 i hi).2 j hj).1,((q4 i hi).2 j hj).2⟩) rfl hn0 hu rfl h1'
    refine bZ hs (v:=v) ?_ (by simp only[bd.val,hd,G6];exact r2);simp[execOp,ho,hep,Instr.loadAt,Instr.sureAddr,hat,r1]
  .rename_i q es;obtain⟨rfl,e1,e2,e3⟩:=k2;rw[hd]at hv;generalize hep:ev p=vp at hv;cases hv with
   |fn fid _ cs ds hν=>exact absurd (hsm _ _ hν) ae
   |fV fid _ cs ds hν=>exact absurd (hsm _ _ hν) ae
   |bx b at_ _ v0 hI hc0 h1 hl hh=>
    obtain⟨v,r1,r2⟩:=wi (P:=C.P) (ν:=C.ν) (x:=x) (e:=es.getD 0 .any) (k:=1) (n:=C.P.cellsOf t) (o:=0) (b:=b) (at0:=at_) (ag:=cY C.P t) (ty:=t) (c:=fun _=>v0) (by rw[e3];rfl) ae
     (fun j hj=>by obtain rfl:j=0:=ae;exact⟨hc0,h1,by rw[e3];exact hh 0 ae⟩) rfl hn0 hu rfl h1'
    refine bZ hs (v:=v) ?_ (by simp only[bd.val,hd,G6];exact r2);simp only[Nat.add_zero]at r1;simp[execOp,ho,hep,Instr.loadAt,Instr.sureAddr,r1]
 .cases hc
def aaM {o:Oper}{i:bd}{t:TypeId}{p q:Operand}(hc:C.op defs o=some i)(ho:o.op=.store t p q)(hρ:BI C defs J ev x o.op.operands.toList)(hob:i.ff Y J m)(hs:ie C.ν x f)(hag:KM f m (i.pS J)):
  GN C.ν x (lz f (i.wr J L) (i.dr Y J m L)) L (i.val Y J m L) ((execOp ev o).run C.P x.w):=by
 simp only[CC.op,ho]at hc;split at hc
 .rename_i s u h1 h2;split at hc
  .cases hc
  rename_i hce;simp only[bq]at hc;subst hc;obtain⟨k1,k2,k3,k4⟩:=hob;have hv:=hρ p (by simp[ho,Op.operands,Call.operands]) s h1 k1;have hw:=hρ q (by simp[ho,Op.operands,Call.operands]) u h2 k2;cases hd:(J s).d<;>simp only[hd]at k4;rename_i l k i o';rw[hd]at hv;generalize hep:ev p=vp at hv;cases hv with
  |ptr _ _ _ _ b base tot at_ hβ hat=>
   obtain⟨g1,g2,g3⟩:=xw (n:=i+1) hs (hag l (by simp[hd,dK])) k4.1;obtain⟨hnI,hk0,ht,c,T,fr,q1,q2,q3,q4⟩:=hs.own l _ b base tot g1 hβ;have hi:i<(bG m l).length:=ae;obtain⟨c1,c2⟩:=hw.cells ae;have hnl:(ev q).cells.toList.length=C.P.cellsOf t:=dk;have hin:∀j,j<C.P.cellsOf t->base+i*k+o'+j<c.size:=fun j hj=>by
    have:=kP (tot:=tot) (i:=i) (k:=k) (j:=o'+j) ae ae;omega
   have hst:=run_storeCells_cells (P:=C.P) b (base+i*k+o') (ev q).cells.toList 0 x.w
    (fun j hj=>by rw[cell_of_heap q1 (by have:=hin j ae;omega)];rfl)
    (fun j hj=>by
      have:=q3 (base+i*k+o'+0+j) (by have:=hin j ae;omega);simp only[World.frozen?,q1];simp only[ef,bC];omega)
    (fun v hv=>by
      obtain⟨j,hj,rfl⟩:=List.mem_iff_getElem.1 hv;rw[<-s8 _ j undef hj,cS];exact(c2 j ae).1)
   simp only[Nat.add_zero]at hst;obtain⟨c',s1,s2,s3⟩:=nV b (ev q).cells.toList (base+i*k+o') x.w c T fr q1 (by have:=hin (C.P.cellsOf t-1) ae;omega);obtain⟨f1,f2,f3,f4⟩:=mL b (ev q).cells.toList (base+i*k+o') x.w
   let w':=x.w.setCells b (base+i*k+o') (ev q).cells.toList
   have hother:∀b',b'≠b->w'.heap[b']? =x.w.heap[b']? :=fun b' hb'=>mM b _ _ _ b' hb'
   have hstep:Step x ⟨w',x.I,x.β⟩:=by
    refine⟨f1,f2,f3,by show _<=w'.heap.size;rw[f4];exact aH _,fun _ h=>h,fun b' hb'=>hother b' (fun e=>hnI (e▸hb')),fun _ _ h=>h,fun b' _ hn=>hother b' (fun e=>hn l _ hβ e.symm),fun _ h=>.inl h,fun _ _ h=>.inl h⟩
   let es':=(bG m l).set i (Bz ((bG m l).getD i .any) k (C.P.cellsOf t) o' (J u).d)
   have hle:=hstep.le

   have hel:(Bz ((bG m l).getD i .any) k (C.P.cellsOf t) o' (J u).d).cells.length=k/\∀j,j<k->
     (Bz ((bG m l).getD i .any) k (C.P.cellsOf t) o' (J u).d).cells.getD j .any=if o'<=j/\j<o'+C.P.cellsOf t then(J u).d.cells.getD (j-o') .any else((bG m l).getD i .any).cells.getD j .any:=by
    unfold Bz;have hkl:=(q4 i hi).1;cases hnk:((C.P.cellsOf t==k)&&((J u).d.isAgg ||!((bG m l).getD i .any).isAgg))
    .simp only[cond_false];refine⟨(aaW _ _ _ ae).trans hkl,fun j hj=>?_⟩;rw[<-k3];exact W7 _ _ _ ae _ _
    .simp only[bM,beq_iff_eq]at hnk;have hnk:=hnk.1;simp only[cond_true];refine⟨ae,fun j hj=>?_⟩;have:o'=0:=ae;subst this;rw[aC ae];simp
   have hblk:rq C.ν ⟨w',x.I,x.β⟩ b base tot (.buf k es'):=by
    refine⟨hk0,by simp[es'];omega,c',T,fr,s1,ae,fun o'' ho''=>q3 o'' ae,fun i' hi'=>?_⟩;have hi2:i'<(bG m l).length:=by simpa[es']using hi'
    by_cases e:i'=i
    .subst e;have hg:es'.getD i' .any=Bz ((bG m l).getD i' .any) k (C.P.cellsOf t) o' (J u).d:=by simp[es',List.getD,List.getElem?_set,hi2]
     rw[hg];refine⟨hel.1,fun j hj=>?_⟩;rw[hel.2 j hj,s3];by_cases hj2:o'<=j/\j<o'+C.P.cellsOf t
     .rw[aC ae,aC hj2,show base+i'*k+j-(base+i'*k+o')=j-o' by omega,cS];have:=c2 (j-o') ae;exact⟨this.1,this.2.mono hle⟩
     .rw[ar ae,ar hj2];exact⟨((q4 i' hi2).2 j hj).1,((q4 i' hi2).2 j hj).2.mono hle⟩
    .have hg:es'.getD i' .any=(bG m l).getD i' .any:=by simp[es',List.getD,List.getElem?_set,show ¬i=i' by omega]
     rw[hg];refine⟨(q4 i' hi2).1,fun j hj=>?_⟩;rw[s3];have hne:¬(base+i*k+o'<=base+i'*k+j/\base+i'*k+j<base+i*k+o'+(ev q).cells.toList.length):=by
      rw[hnl];rcases iZ i' i with hlt|hge
      .have:(i'+1)*k<=i*k:=fF _ hlt;rw[Nat.succ_mul]at this;omega
      .have:(i+1)*k<=i'*k:=fF _ ae;rw[Nat.succ_mul]at this;omega
     rw[ar hne];exact⟨((q4 i' hi2).2 j hj).1,((q4 i' hi2).2 j hj).2.mono hle⟩
   refine⟨undef,⟨w',x.I,x.β⟩,.inr ⟨?_,rfl⟩,hstep,.any _, ?_,fun _ _=>rfl⟩
   .have hsz:(ev q).cells.size=C.P.cellsOf t:=ae;simp[execOp,ho,hep,Instr.storeAt,Instr.sureAddr,storeVar,eM hce,hsz,hat,hst,w']
   .have haf:∀l',lz f ((bd.st (C.P.cellsOf t) s u).wr J L) ((bd.st (C.P.cellsOf t) s u).dr Y J m L) l'=oW f l (some (.buf k es')) l':=by
     intro l';simp only[lz,bd.wr,hd,dK,bd.dr,cT,dc,oW,es'];by_cases e:l'=l
     .rw[aC e,aC e,aC e]
     .rw[ar e,ar e]
    refine⟨fun l' blk b' base' tot' e1 e2=>?_,fun l1 l2 b' base' tot' base'' tot'' e1 e2 e3 e4=>?_,fun b' hb'=>by show b'<w'.heap.size;rw[f4];exact hs.imm b' hb',fun l' b' base' tot' e=>by show b'<w'.heap.size;rw[f4];exact hs.fV l' b' base' tot' e,uC hle hs.gd⟩
    .rw[haf]at e1;by_cases e:l'=l
     .subst e;simp only[oW,ba,bq]at e1;subst e1;have e2':x.β l'=some (b',base',tot'):=e2;rw[hβ]at e2';simp only[bq,eO]at e2';obtain⟨rfl,rfl,rfl⟩:=e2';exact⟨hnI,hblk⟩
     .simp only[oW,e,aZ]at e1;obtain⟨a1,a2⟩:=hs.own l' blk b' base' tot' e1 e2;refine⟨a1,a2.mono hle (hother b' (fun eb=>?_))⟩;subst eb;exact e (hs.inj l' l b' base' tot' base tot (by rw[e1];simp) (by rw[g1];simp) e2 hβ)
    .rw[haf]at e1 e2;refine hs.inj l1 l2 b' base' tot' base'' tot'' ?_ ?_ e3 e4
     .by_cases e:l1=l
      .rw[e,g1];simp
      .simpa[oW,e]using e1
     .by_cases e:l2=l
      .rw[e,g1];simp
      .simpa[oW,e]using e2
 .cases hc
end
end
section
variable [df]
section
variable {x:X} {f:Nat->Option cr} {C:CC} {defs:List (Option Nat)} {J:Src->cA} {ev:Operand->Value} {Y:Ctx} {m:List (Nat×cr)} {L:Nat}
def CI (f:Nat->Option cr)(m:List (Nat×cr))(L:Nat)(b:cr):∀l,lz f [L] (ep m L b) l=oW f L (some b) l:=by
 grind [lz,dc,oW]
theorem Xq {z:Value}{d:D}{k:Nat}(hz:RD C.ν x z d)(hk:d.cells.length=k)(hk0:k≠0)(n i j:Nat)(hi:i<n)(hj:j<k):
  (((Array.range (n*k)).map (z.cells[· %z.cells.size]!)).getD (i*k+j) undef)=z.cells.getD j undef:=by
 obtain⟨c1,_⟩:=hz.cells ae;have hlt:=kP hi hj;have hm:(i*k+j)%k=j:=by rw[Nat.mul_comm,Nat.mul_add_mod];exact Nat.mod_eq_of_lt hj
 simp[Array.getD,hlt,c1,hk,hm,show j<k from hj]
def aaL {o:Oper}{i:bd}{t:TypeId}{p:Operand}(hc:C.op defs o=some i)(ho:o.op=.range t p)(hρ:BI C defs J ev x o.op.operands.toList)(hob:i.ff Y J m)(hs:ie C.ν x f)(hL:x.β L=none):
  GN C.ν x (lz f (i.wr J L) (i.dr Y J m L)) L (i.val Y J m L) ((execOp ev o).run C.P x.w):=by
 simp only[CC.op,ho]at hc;split at hc
 .rename_i s hu h1;simp only[bq]at hc;subst hc;obtain⟨k1,k2⟩:=hob;have hv:=hρ p (by simp[ho,Op.operands,Call.operands]) s h1 k1;cases hd:(J s).d<;>simp only[hd]at k2;rename_i b;rw[hd]at hv;obtain⟨e1,e2⟩:=hv.jU;have e:(bd.yn s).dr Y J m L=ep m L (.iter b 0):=by simp[bd.dr,hd]
  rw[e];refine sW (tot:=0) (blk:=.iter b 0) hs hL (dR.alloc x.w (.stringIter ⟨⟨b⟩⟩ 0)) aI ⟨cR x.w _,e2⟩ (.it L x.w.heap.size 0 0 (by simp[fL])) ?_ (CI f m L _);simp[execOp,ho,e1,Instr.range,run_underlying hu]
 .cases hc
def aix {o:Oper}{i:bd}{s d:TypeId}{p:Operand}{a:Src}(hc:C.op defs o=some (.s2b a))(ho:o.op=.convert s d p)(hρ:BI C defs J ev x o.op.operands.toList)(hob:(bd.s2b a).ff Y J m)(hs:ie C.ν x f)(hL:x.β L=none):
  GN C.ν x (lz f ((bd.s2b a).wr J L) ((bd.s2b a).dr Y J m L)) L ((bd.s2b a).val Y J m L) ((execOp ev o).run C.P x.w):=by
 simp only[CC.op,ho]at hc;split at hc
 .simp at hc
 .simp at hc
 .rename_i eT a' hu1 hu2 h1;split at hc
  .rename_i hue;simp only[bq,bd.s2b.injEq]at hc;subst hc;obtain⟨k1,k2⟩:=hob;have hv:=hρ p (by simp[ho,Op.operands,Call.operands]) a' h1 k1;cases hd:(J a').d<;>simp only[hd]at k2;rename_i b;rw[hd]at hv;obtain⟨e1,e2⟩:=hv.jU;have e:(bd.s2b a').dr Y J m L=ep m L (.buf 1 (b.map fun q=>.int .u8 q.toNat)):=by simp[bd.dr,hd]
   rw[e];have hsz:(⟨⟨b⟩⟩:ByteArray).size=b.length:=rfl
   let cap:=grownCap x.w b.length 0 eT
   have hcap:b.length<=cap:=grownCap_ge x.w b.length 0 eT;have hcm:cap<=maxLen:=grownCap_le_maxLen x.w b.length 0 eT e2
   let row:=bytesRow ⟨⟨b⟩⟩ cap
   have hrs:row.size=cap:=by simp[row,bytesRow,hsz];show b.length+(cap-b.length)=cap;omega
   have hrun:=run_bytes_of_string (P:=C.P) x.w s d eT ⟨⟨b⟩⟩ hu1 hu2 hue;have hgrow:dR x.w (x.w.drew.alloc (.cells row eT (row.size,row.size+1))):=(dR.drew x.w).trans (dR.alloc x.w.drew _);have hnew:(x.w.drew.alloc (.cells row eT (row.size,row.size+1))).heap[x.w.heap.size]? =some (.cells row eT (row.size,row.size+1)):=cR x.w.drew _;have hget:∀i,i<b.length->row.getD i undef=.int .u8 (b.getD i 0).toNat:=by
    intro i hi;have e3:(b.map fun q=>Value.int .u8 q.toNat).getD i undef=.int .u8 (b.getD i 0).toNat:=by simp[List.getD,hi]
    rw[<-e3,<-cS];simp[row,bytesRow,List.getD,List.getElem?_append,hi]
   refine sW (v:=.slice (some ⟨x.w.heap.size,0,none⟩) b.length cap) (tot:=cap) (blk:=cr.buf 1 (List.map (fun q:UInt8=>D.int .u8 (q.toNat:Int)) b)) hs hL hgrow (by show _<(x.w.heap.push _).size;simp) ?_ ?_ ?_ (CI f m L _)
   .refine yN (w':=x.w) (L:=L) _ hnew ae (by simpa using hcap) ae (fun o' ho'=>dk) (fun i hi=>?_);simp only[bB]at hi;have hg:(b.map fun q=>D.int .u8 q.toNat).getD i .any=.int .u8 (b.getD i 0).toNat:=by simp[List.getD,hi]
    rw[hg];refine⟨rfl,fun j hj=>?_⟩;have:j=0:=ae;subst this;rw[show i*1+0=i by omega,hget i hi];exact⟨rfl,.int _ _⟩
   .simp only[bd.val,hd];exact .own L 1 0 b.length x.w.heap.size 0 cap cap ⟨x.w.heap.size,0,none⟩ (by simp[fL]) (fun _=>aI) hcap hcm ae
   .simp only[execOp,ho,e1,Sem.run_bind,hrun,Result.andThen_ok,Sem.run_pure];rfl
  .cases hc
 .split at hc
  .simp at hc
  .cases hc
 .cases hc
def aiu {o:Oper}{s d:TypeId}{p:Operand}{a:Src}(hc:C.op defs o=some (.b2s a))(ho:o.op=.convert s d p)(hρ:BI C defs J ev x o.op.operands.toList)(hob:(bd.b2s a).ff Y J m)(hs:ie C.ν x f)(hag:KM f m ((bd.b2s a).pS J)):
  GN C.ν x (lz f ((bd.b2s a).wr J L) ((bd.b2s a).dr Y J m L)) L ((bd.b2s a).val Y J m L) ((execOp ev o).run C.P x.w):=by
 have haf:lz f ((bd.b2s a).wr J L) ((bd.b2s a).dr Y J m L)=f:=by funext l;simp[lz,bd.wr]
 rw[haf];simp only[CC.op,ho]at hc;split at hc
 .simp at hc
 .simp at hc
 .split at hc
  .simp at hc
  .cases hc
 .rename_i eT a' hu1 hu2 h1;split at hc
  .rename_i hue;simp only[bq,bd.b2s.injEq]at hc;subst hc;obtain⟨k1,k2,k3,k4⟩:=hob;have hv:=hρ p (by simp[ho,Op.operands,Call.operands]) a' h1 k1;have hd1:C.P.underlying d=some .string:=hu2;have hconv:∀b l c,ev p=.slice b l c->(execOp ev o).run C.P x.w=((Conv.bytesToString (.slice b l c)).run C.P x.w).andThen fun v w'=>.ok (.value v) w':=by
    intro b l c he;simp only[execOp,ho,he,Sem.run_bind,run_convert_bytes_string x.w s d eT b l c hu1 hue hu2,Sem.run_pure]
   have key:∀(aa:Addr) (len cap:Nat) (es:List D),es.length=len->(∀e∈es,e.WB)->len<=maxLen->(∀i,i<len->∃v,x.w.cell? ⟨aa.block,aa.off+i,none⟩=some v/\RD C.ν x v (es.getD i .any))->(0<len->aa.spot=none)->
     ev p=.slice (some aa) len cap->GN C.ν x f L (.str (es.map D.u8)) ((execOp ev o).run C.P x.w):=by
    intro aa len cap es hlen hu8 hm hcell hspot he;have hv':∀i,i<len->∃n,es.getD i .any=.int .u8 n/\0<=n/\n<256:=by
     intro i hi;have hmem:=hu8 (es.getD i .any) (by rw[s8 _ _ _ ae];exact List.getElem_mem _);cases hg:es.getD i .any<;>simp only[hg,D.WB]at hmem;obtain⟨rfl,h1,h2⟩:=hmem;exact⟨_,rfl,h1,h2⟩
    let ns:List Int:=es.map fun e=>match e with| .int _ n=>n|_=>0
    have hload:(loadCells aa len).run C.P x.w=.ok (ns.map (Value.int .u8)).toArray x.w:=by
     have:=run_loadCells (P:=C.P) x.w aa len (fun j=>.int .u8 (ns.getD j 0)) (fun j hj=>by
      obtain⟨v,c1,c2⟩:=hcell j hj;obtain⟨n,g1,_,_⟩:=hv' j hj;have hn:ns.getD j 0=n:=by
       rw[s8 _ _ _ ae]at g1;simp[ns,List.getD,show j<es.length by omega,g1]
      rw[hn];rw[g1]at c2;rw[<-c2.eH,<-c1];have hsp:=hspot ae;congr 1;obtain⟨ab,ao,am7⟩:=aa;simp only at hsp;subst hsp;rw[Addr.Ci])
     rw[this];congr 2;apply List.ext_getElem
     .simp[ns,hlen]
     .intro i h1 h2;simp at h1 h2;simp[List.getD,ns,show i<es.length by omega]
    refine bZ hs (v:=.string ⟨⟨es.map D.u8⟩⟩) ?_ (.str _ dk);rw[hconv _ _ _ he,run_bytesToString x.w aa len cap ns hload];simp only[Result.andThen_ok];congr 3;have hfold:∀(l:List Int) (s0:ByteArray),l.foldl (fun r n=>r.push (UInt8.ofNat n.toNat)) s0=⟨⟨s0.data.toList++l.map fun n=>UInt8.ofNat n.toNat⟩⟩:=by
     intro l;induction l with
     |nil=>intro s0;simp
     |cons n r ih=>
      intro s0;rw[List.foldl_cons,ih];congr 2;simp[ByteArray.push]
    rw[hfold];have e0:(ByteArray.empty.data.toList:List UInt8)=[]:=rfl;rw[e0,fS];congr 2;simp only[ns,List.map_map];apply List.map_congr_left;intro e he';have:=hu8 e he';cases e<;>simp only[D.WB]at this;rfl
   cases hd:(J a').d<;>simp only[hd,Jo]at k2 k3 k4
   ·
    rw[hd]at hv;simp only[bd.val,hd,tH,List.map_nil];generalize hep:ev p=vp at hv;cases hv;refine bZ hs (v:=.string ⟨⟨[]⟩⟩) ?_ (.str _ aI);rw[hconv _ _ _ hep];rfl
   .rename_i k es;rw[hd]at hv;simp only[bd.val,hd,tH];simp only[tH]at k4;subst k3;generalize hep:ev p=vp at hv;cases hv with
    |sl aa b off len cap _ _ c hlen ha hcap hm hk hn hcc hone hh=>
     by_cases he0:es=[]
     .subst he0;simp at hlen;subst hlen;refine bZ hs (v:=.string ⟨⟨[]⟩⟩) ?_ (.str _ aI);rw[hconv _ _ _ hep];cases aa with
      |none=>rfl
      |some aa=>
       rw[run_bytesToString x.w aa 0 cap [] (by simp[loadCells,loadCellsFrom])];rfl
     .rcases ha with h|⟨rfl,hI⟩
      .exact absurd h he0
      .refine key _ len cap es hlen.symm k4 ae (fun i hi=>⟨c i 0,by have:=hcc i 0 hi ae;simpa using this, ?_⟩) (fun _=>rfl) hep;have:=hh i 0 hi ae;have hk1:=hk i hi;cases hg:es.getD i .any<;>rw[hg]at this hk1<;>simp only[D.cells,aX,aM]at hk1 this<;>first|omega|exact this|skip
       rename_i cs;have hmem:=k4 (es.getD i .any) (by rw[s8 _ _ _ ae];exact List.getElem_mem _);rw[hg]at hmem;simp[D.WB]at hmem
   .rename_i l k i n;rw[hd]at hv;simp only[bd.val,hd,tH];simp only[tH]at k4;obtain⟨k5,k6⟩:=k3;subst k5;generalize hep:ev p=vp at hv;cases hv with
    |own _ _ _ _ b base tot cap aa hβ ha hcap hm ht=>
     obtain⟨g1,g2,g3⟩:=xw hs (hag l (by simp[hd,dK])) k6;obtain⟨hnI,hk0,ht',c,T,fr,q1,q2,q3,q4⟩:=hs.own l _ b base tot g1 hβ;have hlen:(((bG m l).drop i).take n).length=n:=kv _ _ _ g2;refine key aa n cap _ hlen k4 ae (fun j hj=>?_) (fun h=>by rw[ha ae]) hep;have ha':=ha ae;subst ha';have hij:i+j<(bG m l).length:=ae;refine⟨c.getD (base+(i+j)*1+0) undef, ?_, ?_⟩
     .rw[show base+i*1+j=base+(i+j)*1+0 by omega];exact cell_of_heap q1 ae
     .rw[gn _ _ _ _ _ hj];have:=((q4 (i+j) hij).2 0 ae).2;have hk1:=(q4 (i+j) hij).1;cases hg:(bG m l).getD (i+j) .any<;>rw[hg]at this hk1<;>simp only[D.cells,aX,aM]at hk1 this<;>first|omega|exact this|skip
      rename_i cs;have hmem:=k4 ((((bG m l).drop i).take n).getD j .any) (by rw[s8 _ _ _ ae];exact List.getElem_mem _);rw[gn _ _ _ _ _ hj,hg]at hmem;simp[D.WB]at hmem
    |own0 _ _ _ a0=>
     simp only[List.take_zero,List.map_nil];refine bZ hs (v:=.string ⟨⟨[]⟩⟩) ?_ (.str _ aI);rw[hconv _ _ _ hep];cases a0<;>rfl
  .cases hc
 .cases hc
def adB {o:Oper}{i:bd}{p:Operand}(hc:C.op defs o=some i)(ho:o.op=.next p true)(hρ:BI C defs J ev x o.op.operands.toList)(hob:i.ff Y J m)(hs:ie C.ν x f)(hag:KM f m (i.pS J)):
  GN C.ν x (lz f (i.wr J L) (i.dr Y J m L)) L (i.val Y J m L) ((execOp ev o).run C.P x.w):=by
 simp only[CC.op,ho,eg]at hc;obtain⟨s,h1,rfl⟩:=hc;obtain⟨k1,k2⟩:=hob;have hv:=hρ p (by simp[ho,Op.operands,Call.operands]) s h1 k1;cases hd:(J s).d<;>simp only[hd]at k2;rename_i l;rw[hd]at hv;cases hl:look m l with
 |none=>simp[hl]at k2
 |some blk=>
  cases blk with
  |buf k es=>simp[hl]at k2
  |row s=>simp[hl]at k2
  |bld o n u=>simp[hl]at k2
  |iter b pos=>
   have hfl:f l=some (.iter b pos):=by rw[<-hl];exact hag l (by simp[hd,dK])
   generalize hep:ev p=vp at hv;cases hv with
   |it _ bb base tot hβ=>
    obtain⟨hnI,hb1,GQ⟩:=hs.own l _ bb base tot hfl hβ;have hlt:=hs.fV l bb base tot hβ;by_cases hp:pos<b.length
    .have hsz:(⟨⟨b⟩⟩:ByteArray).size=b.length:=rfl
     let w':World:={x.w with heap:=x.w.heap.setIfInBounds bb (.stringIter ⟨⟨b⟩⟩ (pos+(AK b pos).2))}
     have hother:∀b',b'≠bb->w'.heap[b']? =x.w.heap[b']? :=fun b' hb'=>by simp[w',Array.getElem?_setIfInBounds,show ¬bb=b' by omega]
     have hhere:w'.heap[bb]? =some (.stringIter ⟨⟨b⟩⟩ (pos+(AK b pos).2)):=by simp[w',hlt]
     have hsize:w'.heap.size=x.w.heap.size:=by simp[w']
     have hstep:Step x ⟨w',x.I,x.β⟩:=
      ⟨rfl,rfl,rfl,by show _<=w'.heap.size;omega,fun _ h=>h,fun b' hb'=>hother b' (fun e=>hnI (e▸hb')),fun _ _ h=>h,fun b' _ hn=>hother b' (fun e=>hn l _ hβ e.symm),fun _ h=>.inl h,fun _ _ h=>.inl h⟩
     have haf:∀l',lz f ((bd.KQ s).wr J L) ((bd.KQ s).dr Y J m L) l'=oW f l (some (.iter b (pos+(AK b pos).2))) l':=by
      intro l';simp only[lz,bd.wr,hd,dK,bd.dr,hl,hp,decide_true,cond_true,cT,dc,oW];by_cases e:l'=l
      .rw[aC e,aC e,aC e]
      .rw[ar e,ar e]
     refine⟨.tuple #[.bool true,.int .i64 pos,.int .i32 (AK b pos).1],⟨w',x.I,x.β⟩,.inl ?_,hstep, ?_, ?_,fun _ _=>rfl⟩
     .have hobj:(getObj bb).run C.P x.w=.ok (.stringIter ⟨⟨b⟩⟩ pos) x.w:=by simp[getObj,Sem.run,hb1]
      have hset:∀ob:Obj,(setObj bb ob).run C.P x.w=.ok () {x.w with heap:=x.w.heap.setIfInBounds bb ob}:=by intro ob;simp[setObj,Sem.run,hb1]
      simp[execOp,ho,hep,Instr.next,hobj,hsz,hp,hset,goInt,AK,w']
     .simp only[bd.val,hd,hl,hp,decide_true,cond_true];refine .tup _ _ aI (fun i hi=>?_);simp at hi
      match i,hi with
      |0,_=>simpa using RD.bool true
      |1,_=>simpa using RD.int .i64 pos
      |2,_=>simpa using RD.int .i32 (AK b pos).1
     .refine⟨fun l' blk b' base' tot' e1 e2=>?_,fun l1 l2 b' base' tot' base'' tot'' e1 e2 e3 e4=>?_,fun b' hb'=>by show b'<w'.heap.size;rw[hsize];exact hs.imm b' hb',fun l' b' base' tot' e=>by show b'<w'.heap.size;rw[hsize];exact hs.fV l' b' base' tot' e,uC hstep.le hs.gd⟩
      .rw[haf]at e1;by_cases e:l'=l
       .subst e;simp only[oW,ba,bq]at e1;subst e1;have e2':x.β l'=some (b',base',tot'):=e2;rw[hβ]at e2';simp only[bq,eO]at e2';obtain⟨rfl,rfl,rfl⟩:=e2';exact⟨hnI,hhere,GQ⟩
       .simp only[oW,e,aZ]at e1;obtain⟨a1,a2⟩:=hs.own l' blk b' base' tot' e1 e2;refine⟨a1,a2.mono hstep.le (hother b' (fun eb=>?_))⟩;subst eb;exact e (hs.inj l' l b' base' tot' base tot (by rw[e1];simp) (by rw[hfl];simp) e2 hβ)
      .rw[haf]at e1 e2;refine hs.inj l1 l2 b' base' tot' base'' tot'' ?_ ?_ e3 e4
       .by_cases e:l1=l
        .rw[e,hfl];simp
        .simpa[oW,e]using e1
       .by_cases e:l2=l
        .rw[e,hfl];simp
        .simpa[oW,e]using e2
    .have haf:lz f ((bd.KQ s).wr J L) ((bd.KQ s).dr Y J m L)=f:=by
      funext l';simp only[lz,bd.wr,hd,dK,bd.dr,hl,hp,decide_false,cond_false,cT];by_cases e:l'=l
      .rw[aC e,e,hl,hfl]
      .rw[ar e]
     rw[haf];refine bZ hs (v:=.tuple #[.bool false]) ?_ ?_
     .have hsz:(⟨⟨b⟩⟩:ByteArray).size=b.length:=rfl;have hobj:(getObj bb).run C.P x.w=.ok (.stringIter ⟨⟨b⟩⟩ pos) x.w:=by simp[getObj,Sem.run,hb1]
      simp[execOp,ho,hep,Instr.next,hobj,hsz,hp]
     .simp only[bd.val,hd,hl,hp,decide_false,cond_false];refine .tup _ _ aI (fun i hi=>?_);simp at hi;subst hi;simpa using RD.bool false
def BS {k n:Nat}{os':List Operand}(hρ:BI C defs J ev x os')(hk0:k≠0):∀(ps:List (Nat×Operand)) (ss:List (Nat×Src)),(∀p∈ps,p.2∈os')->C.Bm defs ps=some ss->xI J k n ss->
  ∀(cs:Array Value) (es:List D),cs.size=n*k->es.length=n->
   (∀i,i<n->(es.getD i .any).cells.length=k/\∀j,j<k->(cs.getD (i*k+j) undef).oneCell'=true/\RD C.ν x (cs.getD (i*k+j) undef) ((es.getD i .any).cells.getD j .any))->
  ∃cs',Instr.fill (fun i=>some (i*k,k)) cs (ps.map fun(i,o)=>(i,ev o))=some cs'/\cs'.size=n*k/\(pF J es ss).length=n/\
   ∀i,i<n->((pF J es ss).getD i .any).cells.length=k/\∀j,j<k->(cs'.getD (i*k+j) undef).oneCell'=true/\RD C.ν x (cs'.getD (i*k+j) undef) (((pF J es ss).getD i .any).cells.getD j .any)
 |[],ss,_,h,_,cs,es,h1,h2,h3=>by simp[CC.Bm]at h;subst h;exact⟨cs,by simp[Instr.fill],h1,by simpa[pF]using h2,by simpa[pF]using h3⟩
 |(i,o)::r,ss,hm,h,hk,cs,es,h1,h2,h3=>by
  simp only[CC.Bm]at h;split at h
  .rename_i s l g1 g2;simp only[bq]at h;subst h;simp only[xI]at hk;obtain⟨k1,k2,k3,k4⟩:=hk;have hv:=hρ o (hm _ (.head _)) s g1 k2;obtain⟨c1,c2⟩:=hv.cells ae;have hsz:(ev o).cells.size=k:=ae;have hb:i*k+k<=n*k:=by rw[<-Nat.succ_mul];exact fF _ k1
   obtain⟨f1,f2⟩:=E0 (i*k) (ev o).cells.toList 0 cs dk
   let cs1:Array Value:=((ev o).cells.toList.zipIdx 0).foldl (fun cs (c,j)=>cs.setIfInBounds (i*k+j) c) cs
   have hcs1:(ev o).cells.zipIdx.foldl (fun cs (c,j)=>cs.setIfInBounds (i*k+j) c) cs=cs1:=by
    rw[<-Array.foldl_toList];simp[cs1]
   have hget:∀q,cs1.getD q undef=if i*k<=q/\q<i*k+k then(ev o).cells.getD (q-i*k) undef else cs.getD q undef:=by
    intro q;have:=f2 q;rw[<-cS,<-cS cs,<-cS (ev o).cells];simp only[List.getD,Array.getElem?_toList];rw[show cs1[q]? =_ from this];simp only[Array.length_toList,hsz,Nat.add_zero];split
    .simp
    .rfl
   have hel:∀i',i'<n->((es.set i (J s).d).getD i' .any)=if i'=i then(J s).d else es.getD i' .any:=by
    intro i' hi';by_cases e:i'=i
    .subst e;simp[List.getD,List.getElem?_set,show i'<es.length by omega]
    .simp[List.getD,List.getElem?_set,show ¬i=i' by omega,e]
   obtain⟨cs',r1,r2,r3,r4⟩:=BS hρ hk0 r l (fun p hp=>hm p (.tail _ hp)) g2 k4 cs1 (es.set i (J s).d) (f1.trans h1) (by simpa using h2) (fun i' hi'=>by
    rw[hel i' hi'];by_cases e:i'=i
    .subst e;rw[aC rfl];refine⟨k3,fun j hj=>?_⟩;rw[hget,aC ae,show i'*k+j-i'*k=j by omega];exact c2 j ae
    .rw[ar e];refine⟨(h3 i' hi').1,fun j hj=>?_⟩;have hne:¬(i*k<=i'*k+j/\i'*k+j<i*k+k):=by
      rcases iZ i' i with hlt|hge
      .have:(i'+1)*k<=i*k:=fF _ hlt;rw[Nat.succ_mul]at this;omega
      .have:(i+1)*k<=i'*k:=fF _ ae;rw[Nat.succ_mul]at this;omega
     rw[hget,ar hne];exact(h3 i' hi').2 j hj)
   refine⟨cs', ?_,r2,by simpa[pF]using r3,by simpa[pF]using r4⟩;simp only[List.map_cons,Instr.fill];rw[ar (by simp[hsz];omega),hcs1];exact r1
  .cases h
def Ig {z:Value}{d:D}{k n:Nat}(hz:RD C.ν x z d)(hk:d.cells.length=k)(hk0:k≠0):
  ∀i,i<n->((List.replicate n d).getD i .any).cells.length=k/\∀j,j<k->(((Array.range (n*k)).map (z.cells[· %z.cells.size]!)).getD (i*k+j) undef).oneCell'=true/\RD C.ν x (((Array.range (n*k)).map (z.cells[· %z.cells.size]!)).getD (i*k+j) undef) (((List.replicate n d).getD i .any).cells.getD j .any):=by
 intro i hi;obtain⟨_,c2⟩:=hz.cells ae
 grind [Xq]
def aiv {o:Oper}{i:bd}{t:TypeId}{n:Nat}{ps:Array (Nat×Operand)}(hc:C.op defs o=some i)(ho:o.op=.buildSlice t n ps)(hρ:BI C defs J ev x o.op.operands.toList)(hob:i.ff Y J m)(hs:ie C.ν x f)(hL:x.β L=none):
  GN C.ν x (lz f (i.wr J L) (i.dr Y J m L)) L (i.val Y J m L) ((execOp ev o).run C.P x.w):=by
 simp only[CC.op,ho]at hc;split at hc
 .rename_i e hu;split at hc
  .rename_i z l hz h1;split at hc
   .cases hc
   rename_i hce;simp only[bq]at hc;subst hc;obtain⟨k1,k2⟩:=hob;obtain⟨ti,v,hi,hzv,hr⟩:=sy (x:=x) hz;have hce0:C.P.cellsOf e≠0:=fun h=>hce (.inl h)
   have hsz:ti.size=C.P.cellsOf e:=by simp[Program.cellsOf,hi]
   have hsmall:¬n*ti.size>2^24:=fun h=>hce (.inr (by rw[hsz]at h;simpa using h))
   obtain⟨cs',r1,r2,r3,r4⟩:=BS hρ hce0 ps.toList l (fun p hp=>by simp only[ho,Op.operands,eG];exact⟨p,hp,rfl⟩) h1 k2 ((Array.range (n*C.P.cellsOf e)).map (v.cells[· %v.cells.size]!)) (List.replicate n z) aI aI (Ig hr k1 hce0);have hgrow:=dR.alloc x.w (.cells cs' e);have hle:=JB (tot:=n) hs hgrow hL;have he:(bd.bsl (C.P.cellsOf e) z n l).dr Y J m L=ep m L (cr.buf (C.P.cellsOf e) (pF J (List.replicate n z) l)):=rfl;rw[he];have hrun:(Instr.buildSlice t n (ps.map fun(i,x)=>(i,ev x))).run C.P x.w=.ok (.slice (some ⟨x.w.heap.size,0,none⟩) n n) (x.w.alloc (.cells cs' e)):=by
    by_cases hn:n=0
    .subst hn;have hcs0:cs'=#[]:=Array.eq_empty_of_size_eq_zero (by simpa using r2);have hps:ps.toList=[]:=by
      cases hp:ps.toList with
      |nil=>rfl
      |cons q r=>
       rw[hp]at h1;obtain⟨i0,o0⟩:=q;simp only[CC.Bm]at h1;split at h1
       .rename_i s' l' _ _;simp only[bq]at h1;subst h1;simp[xI]at k2
       .cases h1
     have hps':ps=#[]:=by apply Array.ext';simpa using hps
     subst hps';simp[Instr.buildSlice,run_underlying hu,sizeOf,typeInfo,hi,Instr.fill,newRow,hcs0,show Array.range 0=#[]from rfl]
    .refine run_buildSlice x.w t e n _ cs' ti v hu hi hzv hsmall ?_ ?_
     .rw[hsz];intro h0;rcases Nat.mul_eq_zero.1 h0 with h|h
      .exact hn h
      .exact hce0 h
     .rw[hsz,Array.toList_map];exact r1
   refine sW (v:=.slice (some ⟨x.w.heap.size,0,none⟩) n n) (tot:=n) (blk:=cr.buf (C.P.cellsOf e) (pF J (List.replicate n z) l)) hs hL hgrow aI ?_ ?_ ?_ (CI f m L _)
   .exact yN (w':=x.w) (L:=L) _ (cR x.w _) ae ae ae (fun o' _=>aI) (fun i hi=>⟨(r4 i ae).1,fun j hj=>⟨((r4 i ae).2 j hj).1,((r4 i ae).2 j hj).2.mono hle⟩⟩)
   .exact .own L (C.P.cellsOf e) 0 n x.w.heap.size 0 n n ⟨x.w.heap.size,0,none⟩ (by simp[fL]) (fun _=>aI) (aH _) (by have:n*1<=n*C.P.cellsOf e:=Nat.mul_le_mul_left _ ae;have h3:¬n*C.P.cellsOf e>16777216:=fun h=>hce (.inr h);simp only[maxLen];omega) ae
   .simp only[execOp,ho,Sem.run_bind,hrun,Result.andThen_ok,Sem.run_pure]
  .cases hc
 .cases hc
def aiw {o:Oper}{i:bd}{t:TypeId}{p q:Operand}(hc:C.op defs o=some i)(ho:o.op=.makeSlice t p q)(hρ:BI C defs J ev x o.op.operands.toList)(hob:i.ff Y J m)(hs:ie C.ν x f)(hL:x.β L=none):
  GN C.ν x (lz f (i.wr J L) (i.dr Y J m L)) L (i.val Y J m L) ((execOp ev o).run C.P x.w):=by
 simp only[CC.op,ho]at hc;split at hc
 .rename_i e hu;split at hc
  .rename_i z ln cp hz h1 h2;split at hc
   .cases hc
   rename_i hce;simp only[bq]at hc;subst hc;obtain⟨k1,k2,k3,k4⟩:=hob;have hv:=hρ p (by simp[ho,Op.operands,Call.operands]) ln h1 k1;have hw:=hρ q (by simp[ho,Op.operands,Call.operands]) cp h2 k2;cases hd:(J ln).d<;>cases hd2:(J cp).d<;>simp only[hd,hd2]at k4;rename_i kk n kk' c;rw[hd]at hv;rw[hd2]at hw;obtain⟨ti,v,hi,hzv,hr⟩:=sy (x:=x) hz;have hce0:C.P.cellsOf e≠0:=fun h=>hce (.inl h)
   have hsz:ti.size=C.P.cellsOf e:=by simp[Program.cellsOf,hi]
   have hby:ti.bytes<=65536:=by
    have:¬C.P.bytesOf e>65536:=fun h=>hce (.inr h)
    simp[Program.bytesOf,hi]at this;omega
   have hbytes:(ti.bytes:Int)*c<=281474976710656:=by
    have h1:(ti.bytes:Int)*c<=65536*c:=Int.mul_le_mul_of_nonneg_right ae ae;have h2:(65536:Int)*c<=65536*1073741824:=Int.mul_le_mul_of_nonneg_left ae ae;omega
   have hrun:=run_make (P:=C.P) x.w t e ti v hu hi hzv kk kk' n c k4.1 k4.2.1 hbytes ae;rw[hsz]at hrun;have hgrow:=dR.alloc x.w (.cells (madeCells v.cells (c.toNat*C.P.cellsOf e)) e);have hle:=JB (tot:=c.toNat) hs hgrow hL;have hrep:=Ig (n:=c.toNat) hr k3 hce0;have hms:(madeCells v.cells (c.toNat*C.P.cellsOf e)).size=c.toNat*C.P.cellsOf e:=size_madeCells _ _;have he:(bd.mks (C.P.cellsOf e) z ln cp).dr Y J m L=ep m L (.buf (C.P.cellsOf e) (List.replicate n.toNat z)):=by simp[bd.dr,hd,D.nat]
   rw[he];refine sW (v:=.slice (some ⟨x.w.heap.size,0,none⟩) n.toNat c.toNat) (tot:=c.toNat) (blk:=.buf (C.P.cellsOf e) (List.replicate n.toNat z)) hs hL hgrow aI ?_ ?_ ?_ (CI f m L _)
   .refine yN (w':=x.w) (L:=L) _ (cR x.w _) ae dk ae (fun o' _=>aI) (fun i hi=>?_);simp only[List.length_replicate]at hi;have:=hrep i ae;have e1:(List.replicate n.toNat z).getD i .any=(List.replicate c.toNat z).getD i .any:=by simp[List.getD,hi,show i<c.toNat by omega]
    rw[e1];refine⟨this.1,fun j hj=>?_⟩;have h2:=this.2 j hj;have e2:(Array.range (c.toNat*C.P.cellsOf e)).map (v.cells[· %v.cells.size]!)=madeCells v.cells (c.toNat*C.P.cellsOf e):=rfl;rw[e2]at h2;exact⟨h2.1,h2.2.mono hle⟩
   .simp only[bd.val,hd,D.nat];exact .own L _ 0 n.toNat x.w.heap.size 0 c.toNat c.toNat ⟨x.w.heap.size,0,none⟩ (by simp[fL]) (fun _=>aI) ae (by simp only[maxLen];omega) ae
   .simp only[execOp,ho,hv.eH,hw.eH,Sem.run_bind,hrun,Result.andThen_ok,Sem.run_pure]
  .cases hc
 .cases hc
end
end
section
variable [df]
section
variable {x:X} {f:Nat->Option cr} {C:CC} {defs:List (Option Nat)} {J:Src->cA} {ev:Operand->Value} {Y:Ctx} {m:List (Nat×cr)} {L:Nat}
def flat_get (n k:Nat)(g:Nat->Nat->Value)(i j:Nat)(hi:i<n)(hj:j<k):((List.range (n*k)).map fun q=>g (q/k) (q%k)).getD (i*k+j) undef=g i j:=by
 have hlt:=kP hi hj;have h1:(i*k+j) /k=i:=by rw[Nat.mul_comm,Nat.mul_add_div ae,Nat.div_eq_of_lt hj];omega
 have h2:(i*k+j)%k=j:=by rw[Nat.mul_comm,Nat.mul_add_mod];exact Nat.mod_eq_of_lt hj
 simp[List.getD,hlt,h1,h2]
def aiX {u:TypeId}{k:Nat}(hk0:k≠0)(hkind:(∃e',C.P.underlying u=some (.slice e'))\/C.P.underlying u=some .string){v:Value}{d:D}(hv:RD C.ν x v d)(hd:Jo m k d)(hs:ie C.ν x f)(hag:∀l,l∈dK d->f l=look m l):
  ∃news,Go.Src C.P k u v (tH m d).length news x.w/\∀i,i<(tH m d).length->((tH m d).getD i .any).cells.length=k/\∀j,j<k->
   RD C.ν x (news.getD (i*k+j) undef) (((tH m d).getD i .any).cells.getD j .any):=by
 have nothing:∀(a:Option Addr) (c:Nat),Go.Src C.P k u (.slice a 0 c) 0 [] x.w:=by
  intro a c;have hf:∀w':World,(Builtin.firstCells k 0 (.slice a 0 c)).run C.P w'=.ok #[] w':=by
   intro w';cases a<;>simp[Builtin.firstCells,loadCells,loadCellsFrom]
  exact⟨hkind,fun _=>rfl,hf _,hf _,aI,fun _ h=>by cases h⟩
 have some_:∀(b off n cap:Nat) (g:Nat->Nat->Value),(∀i j,i<n->j<k->x.w.cell? ⟨b,off+i*k+j,none⟩=some (g i j)/\(g i j).oneCell'=true)->
   Go.Src C.P k u (.slice (some ⟨b,off,none⟩) n cap) n ((List.range (n*k)).map fun q=>g (q/k) (q%k)) x.w:=by
  intro b off n cap g hg;have hqd:∀q,q<n*k->q/k<n/\q%k<k/\q/k*k+q%k=q:=fun q hq=>
   ⟨Nat.div_lt_of_lt_mul (by rw[Nat.mul_comm];exact hq),Nat.mod_lt _ ae,by rw[Nat.mul_comm];exact Nat.div_add_mod q k⟩
  have hcell:∀j u',((List.range (n*k)).map fun q=>g (q/k) (q%k))[j]? =some u'->x.w.cell? ((⟨b,off,none⟩:Addr).add j)=some u':=by
   intro j u' hj;obtain⟨hj2,rfl⟩:=List.getElem?_eq_some_iff.1 hj;simp at hj2;obtain⟨h1,h2,h3⟩:=hqd j hj2;rw[Addr.Ci];simp only[List.getElem_map,List.getElem_range];rw[<-(hg _ _ h1 h2).1];congr 2;omega
  refine⟨hkind,fun _=>rfl,run_firstCells_some x.w k n _ n cap _ aI hcell,run_firstCells_some x.w.drew k n _ n cap _ aI (by simpa using hcell),aI,fun u' hu'=>?_⟩;obtain⟨q,hq,rfl⟩:=eG.1 hu';obtain⟨h1,h2,_⟩:=hqd q (by simpa using hq);exact(hg _ _ h1 h2).2
 cases d<;>simp only[Jo]at hd
 ·
  rename_i s;obtain⟨rfl,h2⟩:=hv.jU;subst hd;have hsz:(⟨⟨s⟩⟩:ByteArray).size=s.length:=rfl;refine⟨byteCells ⟨⟨s⟩⟩, ?_,fun i hi=>?_⟩
  .have:(tH m (.str s)).length=(⟨⟨s⟩⟩:ByteArray).size:=by simp[tH,hsz]
   rw[this];exact⟨hkind,fun _=>rfl,firstCells_string _ _,firstCells_string _ _,by rw[byteCells_length,Nat.mul_one],fun u' hu'=>by
    obtain⟨_,_,rfl⟩:=eG.1 hu';rfl⟩
  .have hi':i<s.length:=by simpa[tH]using hi
   have e:(tH m (.str s)).getD i .any=.int .u8 (s.getD i 0).toNat:=by simp[tH,List.getD,hi']
   rw[e];refine⟨rfl,fun j hj=>?_⟩;obtain rfl:j=0:=ae;have e2:(byteCells ⟨⟨s⟩⟩).getD (i*1+0) undef=.int .u8 (s.getD i 0).toNat:=by simp[byteCells,List.getD,hi']
   rw[e2];exact .int _ _
 .cases hv;exact⟨[],nothing none 0,fun i hi=>by simp[tH]at hi⟩
 .rename_i k' es;subst hd;cases hv with
  |sl a b off len cap _ _ c hlen ha hcap hm hk hn hcc hone hh=>
   subst hlen;rcases ha with rfl|⟨rfl,hI⟩
   .exact⟨[],by simpa[tH]using nothing a cap,fun i hi=>by simp[tH]at hi⟩
   .refine⟨_,some_ b off es.length cap c (fun i j hi hj=>⟨hcc i j hi hj,hone i j hi hj⟩),fun i hi=>⟨hk i hi,fun j hj=>?_⟩⟩;rw[flat_get es.length k' c i j hi hj];exact hh i j hi hj
 .rename_i l k' i0 n;obtain⟨rfl,hb⟩:=hd;cases hv with
  |own0 _ _ _ a=>exact⟨[],by simpa[tH]using nothing a 0,fun i hi=>by simp[tH]at hi⟩
  |own _ _ _ _ b base tot cap aa hβ ha hcap hm ht=>
   obtain⟨g1,g2,g3⟩:=xw hs (hag l (by simp[dK])) hb;obtain⟨hnI,hk0',ht',c,T,fr,q1,q2,q3,q4⟩:=hs.own l _ b base tot g1 hβ;have hlen:(tH m (.own l k' i0 n)).length=n:=by simp only[tH];exact kv _ _ _ g2
   rw[hlen];by_cases hn0:n=0
   .subst hn0;exact⟨[],nothing _ _,fun i hi=>ae⟩
   .have ha':=ha ae;subst ha';have hg:∀i,i<n->(tH m (.own l k' i0 n)).getD i .any=(bG m l).getD (i0+i) .any:=fun i hi=>by simp only[tH];exact gn _ _ _ _ _ hi
    refine⟨_,some_ b (base+i0*k') n cap (fun i j=>c.getD (base+(i0+i)*k'+j) undef) (fun i j hi hj=>?_),fun i hi=>?_⟩
    .have h1:=kP (tot:=tot) (show i0+i<tot by omega) hj;refine⟨?_,((q4 (i0+i) ae).2 j hj).1⟩;rw[<-cell_of_heap q1 (by omega:base+(i0+i)*k'+j<c.size)];congr 2;rw[Nat.add_mul];omega
    .rw[hg i hi];refine⟨(q4 (i0+i) ae).1,fun j hj=>?_⟩;rw[flat_get n k' (fun i j=>c.getD (base+(i0+i)*k'+j) undef) i j hi hj];exact((q4 (i0+i) ae).2 j hj).2
theorem dN {α:Type}(a b:List α)(i:Nat)(d:α):(a++b).getD i d=if i<a.length then a.getD i d else b.getD (i-a.length) d:=by
 grind
def Wx {k n mm cap:Nat}{T:TypeId}{olds news:List Value}{zs:Array Value}{es1 es2:List D}(x':X)(b:Nat)(hk0:k≠0)
  (hlo:olds.length=n*k) (hln:news.length=mm*k) (h1:es1.length=n) (h2:es2.length=mm) (hcap:n+mm<=cap) (hzs:zs.size=(cap-(n+mm))*k)
  (hx:x'.w.heap[b]? =some (.cells ((olds++news).toArray++zs) T (0,0)))
  (ho:∀i,i<n->(es1.getD i .any).cells.length=k/\∀j,j<k->(olds.getD (i*k+j) undef).oneCell'=true/\RD C.ν x' (olds.getD (i*k+j) undef) ((es1.getD i .any).cells.getD j .any))
  (hn:∀i,i<mm->(es2.getD i .any).cells.length=k/\∀j,j<k->(news.getD (i*k+j) undef).oneCell'=true/\RD C.ν x' (news.getD (i*k+j) undef) ((es2.getD i .any).cells.getD j .any)):
  rq C.ν x' b 0 cap (.buf k (es1++es2)):=by
 have hsz:((olds++news).toArray++zs).size=cap*k:=by
  simp only[Array.size_append,List.size_toArray,bH,hlo,hln,hzs,<-Nat.add_mul];congr 1;omega
 refine yN (w':=x'.w) (L:=0) x' hx ae dk ae (fun o _=>aI) (fun i hi=>?_);simp only[bH,h1,h2]at hi;have hge:∀j,j<k->(((olds++news).toArray++zs).getD (i*k+j) undef)=(olds++news).getD (i*k+j) undef:=by
  intro j hj;have:=kP hi hj;rw[Nat.add_mul]at this;rw[<-cS];simp only[Array.toList_append];rw[dN,aC dk]
 rw[dN];by_cases h:i<n
 .grind [dN,kP]
 .rw[ar ae,h1];refine⟨(hn (i-n) ae).1,fun j hj=>?_⟩;have hnk:n*k<=i*k:=fF _ ae;rw[hge j hj,dN,ar ae,show i*k+j-olds.length=(i-n)*k+j by rw[hlo,Nat.sub_mul];omega];exact(hn (i-n) ae).2 j hj
def aaG {news:List Value}(h:∀u∈news,u.oneCell'=true)(q:Nat)(hq:q<news.length):(news.getD q undef).oneCell'=true:=by
 grind
def ie.less {f f':Nat->Option cr}{ν:List (Nat×Nat)}(h:ie ν x f)(hf:∀l,f' l=f l\/f' l=none\/x.β l=none):ie ν x f':=by
 refine⟨fun l blk b base tot e1 e2=>?_,fun l1 l2 b base tot base' tot' e1 e2 e3 e4=>?_,h.imm,h.fV,h.gd⟩
 .rcases hf l with e|e|e
  .exact h.own l blk b base tot (e▸e1) e2
  .rw[e]at e1;cases e1
  .rw[e]at e2;cases e2
 .refine h.inj l1 l2 b base tot base' tot' ?_ ?_ e3 e4
  .grind
  grind
def Lr {f':Nat->Option cr}{t u ty e:TypeId}{ti:TypeInfo}{z:Value}{k:Nat}{base:Option Addr}{sLen sCap mm:Nat}{olds news:List Value}{xv:Value}{es1 E:List D}
  (hs:ie C.ν x f) (hL:x.β L=none) (ht:C.P.underlying t=some (.slice e)) (hi:C.P.info? e=some ti) (hz:ti.zero=some z) (hzd:z.cells.size=ti.size) (hk:ti.size=k) (hk0:k≠0) (hby:ti.bytes<=65536)
  (hold:(Builtin.firstCells k sLen (.slice base sLen sCap)).run C.P x.w.drew=.ok olds.toArray x.w.drew) (hol:olds.length=sLen*k) (h1:es1.length=sLen) (h2:E.length=mm)
  (ho:∀i,i<sLen->(es1.getD i .any).cells.length=k/\∀j,j<k->(olds.getD (i*k+j) undef).oneCell'=true/\RD C.ν x (olds.getD (i*k+j) undef) ((es1.getD i .any).cells.getD j .any))
  (hsrc:Go.Src C.P k u xv mm news x.w) (hn:∀i,i<mm->(E.getD i .any).cells.length=k/\∀j,j<k->RD C.ν x (news.getD (i*k+j) undef) ((E.getD i .any).cells.getD j .any))
  (hg:sCap<sLen+mm) (hle:sLen+mm<=1073741824) (hf:∀l,l≠L->f' l=f l\/f' l=none) (hfL:f' L=some (.buf k (es1++E)))
  {r:Result Next} (hr:r=((Builtin.append_ #[t,u] ty #[.slice base sLen sCap,xv]).run C.P x.w).andThen fun v w'=>.ok (.value v) w'):
  GN C.ν x f' L (.own L k 0 (sLen+mm)) r:=by
 subst hk;have hfit:=growslice_fits_wide (need:=sLen+mm) (old:=sCap) (bytes:=ti.bytes) hg (by
  have:(sLen+mm+(sLen+mm) /4+192)*ti.bytes<=(sLen+mm+(sLen+mm) /4+192)*65536:=Nat.mul_le_mul_left _ hby;omega)
 have hrun:=run_append_grow_src x.w t u ty e ti z ht hi hz base sLen sCap olds hold xv mm news hsrc hg ae hfit;have hcge:=grownCap_ge x.w (sLen+mm) sCap e;have hcle:=grownCap_le_maxLen x.w (sLen+mm) sCap e (by simp only[maxLen];omega);generalize grownCap x.w (sLen+mm) sCap e=cap at hrun hcge hcle;have hgrow:dR x.w (x.w.drew.alloc (.cells ((olds++news).toArray++Builtin.zeroCells z.cells (cap-(sLen+mm))) e)):=by
  refine⟨rfl,rfl,rfl, ?_,fun b hb=>?_⟩
  .have:=(dR.alloc x.w.drew (.cells ((olds++news).toArray++Builtin.zeroCells z.cells (cap-(sLen+mm))) e)).size;exact this
  .exact dx x.w.drew _ b hb
 have hlex:=JB (tot:=cap) hs hgrow hL;have hs':ie C.ν x (fun l=>if f' l=none then none else f l):=hs.less (fun l=>by
  by_cases h:f' l=none
  .right;left;simp[h]
  .left;simp[h])
 refine sW (f:=fun l=>if f' l=none then none else f l) (v:=.slice (some ⟨x.w.heap.size,0,none⟩) (sLen+mm) cap) (tot:=cap) (blk:=.buf ti.size (es1++E)) hs' hL hgrow ?_ ?_ ?_ ?_ (fun l=>?_)
 .show x.w.heap.size<(x.w.drew.heap.push _).size;rw[Array.size_push];exact Nat.lt_succ_self _
 .exact Wx (n:=sLen) (mm:=mm) (olds:=olds) (news:=news) (T:=e) (zs:=Builtin.zeroCells z.cells (cap-(sLen+mm))) _ _ hk0 hol hsrc.newsLen h1 h2 hcge
   (by rw[size_zeroCells,hzd]) (cR x.w.drew _)
   (fun i hi=>⟨(ho i hi).1,fun j hj=>⟨((ho i hi).2 j hj).1,((ho i hi).2 j hj).2.mono hlex⟩⟩)
   (fun i hi=>⟨(hn i hi).1,fun j hj=>⟨aaG hsrc.one _ (by rw[hsrc.newsLen];exact kP hi hj),((hn i hi).2 j hj).mono hlex⟩⟩)
 .exact .own L _ 0 (sLen+mm) x.w.heap.size 0 cap cap ⟨x.w.heap.size,0,none⟩ (by simp[fL]) (fun _=>aI) hcge hcle ae
 .rw[hr,hrun];rfl
 .by_cases e:l=L
  .subst e;simp[oW,hfL]
  .simp only[oW,e,aZ];rcases hf l e with h|h
   .by_cases h':f' l=none
    .rw[aC h'];exact h'
    .rw[ar h'];exact h
   .rw[aC h];exact h
def BJ {t u ty e:TypeId}{k:Nat}{ti:TypeInfo}{a:Addr}{sLen sCap:Nat}{xv:Value}(ht:C.P.underlying t=some (.slice e))(hi:C.P.info? e=some ti)(hk:ti.size=k)(hsrc:Go.Src C.P k u xv 0 [] x.w)(hc:sLen<=sCap):
  (Builtin.append_ #[t,u] ty #[.slice (some a) sLen sCap,xv]).run C.P x.w=.ok (.slice (some a) sLen sCap) x.w:=by
 subst hk;rcases hsrc.kind with⟨e',hk⟩|hk<;>simp[Builtin.append_,run_underlying ht,run_underlying hk,sizeOf,typeInfo,hi,hsrc.len,hc,hsrc.cells,storeCells]
def Jb {t u ty e:TypeId}{k:Nat}{ti:TypeInfo}{xv:Value}(ht:C.P.underlying t=some (.slice e))(hi:C.P.info? e=some ti)(hk:ti.size=k)(hsrc:Go.Src C.P k u xv 0 [] x.w):
  (Builtin.append_ #[t,u] ty #[.slice none 0 0,xv]).run C.P x.w=.ok (.slice none 0 0) x.w:=by
 subst hk;rcases hsrc.kind with⟨e',hk⟩|hk<;>simp[Builtin.append_,run_underlying ht,run_underlying hk,sizeOf,typeInfo,hi,hsrc.len,hsrc.cells,storeCells]
def ait {o:Oper}{i:bd}{p q:Operand}{t u:TypeId}(hc:C.op defs o=some i)(ho:o.op=.call {callee:=.builtin .append,args:=#[p,q],argTypes:=#[t,u]})(hρ:BI C defs J ev x o.op.operands.toList)(hob:i.ff Y J m)(hs:ie C.ν x f)(hag:KM f m (i.pS J))(hL:x.β L=none):
  GN C.ν x (lz f (i.wr J L) (i.dr Y J m L)) L (i.val Y J m L) ((execOp ev o).run C.P x.w):=by
 have hcc:∃a b e,C.src defs p=some a/\C.src defs q=some b/\C.P.underlying t=some (.slice e)/\((∃e',C.P.underlying u=some (.slice e'))\/C.P.underlying u=some .string)/\
   ¬(C.P.cellsOf e=0\/C.P.bytesOf e>65536\/C.P.bytesOf e=0\/sA C.P e=false)/\i=.app (C.P.cellsOf e) a b:=by
  simp only[CC.op,ho]at hc;split at hc
  .rename_i a b e e' h1 h2 h3 h4;split at hc
   .cases hc
   .rename_i hn;simp only[bq]at hc;exact⟨a,b,e,h1,h2,h3,.inl ⟨_,h4⟩,hn,hc.symm⟩
  .rename_i a b e h1 h2 h3 h4;split at hc
   .cases hc
   .rename_i hn;simp only[bq]at hc;exact⟨a,b,e,h1,h2,h3,.inr h4,hn,hc.symm⟩
  .cases hc
 obtain⟨a,b,e,h1,h2,hu,hu2,hn,rfl⟩:=hcc;have hce:C.P.cellsOf e≠0:=fun h=>hn (.inl h)
 obtain⟨ti,hti,htis⟩:=rA hce;have hby:ti.bytes<=65536:=by
  have:¬C.P.bytesOf e>65536:=fun h=>hn (.inr (.inl h))
  simp[Program.bytesOf,hti]at this;omega
 obtain⟨z,hz,hzl⟩:∃z,vC C.P e=some z/\z.cells.length=C.P.cellsOf e:=by
  have hzf:sA C.P e=true:=by
   cases h:sA C.P e
   .exact absurd (.inr (.inr (.inr h))) hn
   .rfl
  unfold sA at hzf;split at hzf
  .rename_i z hz;exact⟨z,hz,by simpa using hzf⟩
  .cases hzf
 obtain⟨ti',z',hti',hzv,hzr⟩:=sy (x:=x) hz;obtain rfl:ti'=ti:=by rw[hti]at hti';exact(bQ hti').symm
 obtain⟨k1,k2,k3,k4⟩:=hob;have hv:=hρ p (by simp[ho,Op.operands,Call.operands]) a h1 k1;have hw:=hρ q (by simp[ho,Op.operands,Call.operands]) b h2 k2;have hag2:∀l,l∈dK (J b).d->f l=look m l:=fun l hl=>hag l (by simp;exact .inr hl)
 have hag1:∀l,l∈dK (J a).d->f l=look m l:=fun l hl=>hag l (by simp;exact .inl hl)
 obtain⟨news,hsrc,hnews⟩:=aiX (u:=u) hce (hu2.imp (fun⟨e',h⟩=>⟨e',h⟩) id) hw k3 hs hag2;have hsz:z'.cells.size=ti'.size:=by have:=(hzr.cells ae).1;omega
 have hr:(execOp ev o).run C.P x.w=((Builtin.append_ #[t,u] o.type #[ev p,ev q]).run C.P x.w).andThen fun v w'=>.ok (.value v) w':=by
  simp[execOp,ho,resolve,invoke,builtin]
 generalize hels:tH m (J b).d=E at*
 generalize hep:ev p=vp at*

 have nobase:∀(a0:Option Addr) (f':Nat->Option cr),vp=.slice a0 0 0->E.length<=1073741824->(∀l,l≠L->f' l=f l\/f' l=none)->f' L=some (.buf (C.P.cellsOf e) E)->
   GN C.ν x f' L (.own L (C.P.cellsOf e) 0 E.length) ((execOp ev o).run C.P x.w):=by
  intro a0 f' hvp hle hf hfL;subst hvp;by_cases hm0:E.length=0
  .have hn0:news=[]:=nO (by rw[hsrc.newsLen,hm0];simp);rw[hm0]at hsrc⊢;subst hn0;have hap:(Builtin.append_ #[t,u] o.type #[.slice a0 0 0,ev q]).run C.P x.w=.ok (.slice a0 0 0) x.w:=by
    cases a0 with
    |none=>exact Jb hu hti htis hsrc
    |some a=>exact BJ hu hti htis hsrc (aH _)
   rw[hr,hap];refine⟨.slice a0 0 0,x,.inl rfl,.refl x,.own0 L _ 0 a0,hs.less fun l=>?_,fun _ _=>rfl⟩;by_cases e:l=L
   .subst e;exact .inr (.inr hL)
   .rcases hf l e with h|h
    .exact .inl h
    .exact .inr (.inl h)
  .have:=Lr (f':=f') (base:=a0) (sLen:=0) (sCap:=0) (olds:=[]) (es1:=[]) (E:=E) (mm:=E.length) hs hL hu hti hzv hsz htis hce hby
    (by cases a0<;>simp[Builtin.firstCells,loadCells,loadCellsFrom]) aI rfl rfl (fun i hi=>ae) hsrc hnews ae ae hf (by simpa using hfL) hr
   simpa using this
 cases hd:(J a).d<;>simp only[hd]at k4
 ·
  have he:(bd.app (C.P.cellsOf e) a b).dr Y J m L=ep m L (.buf (C.P.cellsOf e) E):=by simp[bd.dr,hd,hels]
  have hva:(bd.app (C.P.cellsOf e) a b).val Y J m L=.own L (C.P.cellsOf e) 0 E.length:=by simp[bd.val,hd,hels]
  have hwr:(bd.app (C.P.cellsOf e) a b).wr J L=[L]:=by simp[bd.wr,hd,dK]
  rw[he,hva,hwr];rw[hd]at hv;cases hv;exact nobase _ _ rfl k4 (fun l hl=>.inl (by simp[lz,hl])) (by simp[lz,dc])
 .rename_i l k' i n;obtain⟨rfl,hbk,hle⟩:=k4;rw[hd]at hv;have he:(bd.app (C.P.cellsOf e) a b).dr Y J m L=ep (cM m l) L (.buf (C.P.cellsOf e) ((((bG m l).drop i).take n)++E)):=by simp[bd.dr,hd,hels]
  have hva:(bd.app (C.P.cellsOf e) a b).val Y J m L=.own L (C.P.cellsOf e) 0 (n+E.length):=by simp[bd.val,hd,hels]
  have hwr:(bd.app (C.P.cellsOf e) a b).wr J L=[L,l]:=by simp[bd.wr,hd,dK]
  rw[he,hva,hwr];have hff:∀l',l'≠L->lz f [L,l] (ep (cM m l) L (.buf (C.P.cellsOf e) ((((bG m l).drop i).take n)++E))) l'=if l'=l then none else f l':=by
   intro l' hl';by_cases e1:l'=l
   .subst e1;simp[lz,dc,gU,hl']
   .simp[lz,hl',e1]
  have hffL:lz f [L,l] (ep (cM m l) L (.buf (C.P.cellsOf e) ((((bG m l).drop i).take n)++E))) L=some (.buf (C.P.cellsOf e) ((((bG m l).drop i).take n)++E)):=by simp[lz,dc]
  have hff':∀l',l'≠L->lz f [L,l] (ep (cM m l) L (.buf (C.P.cellsOf e) ((((bG m l).drop i).take n)++E))) l'=f l'\/lz f [L,l] (ep (cM m l) L (.buf (C.P.cellsOf e) ((((bG m l).drop i).take n)++E))) l'=none:=by
   intro l' hl';rw[hff l' hl'];by_cases e1:l'=l
   .rw[aC e1];exact .inr rfl
   .rw[ar e1];exact .inl rfl
  cases hv with
  |own0=>
   have:=nobase _ (lz f [L,l] (ep (cM m l) L (.buf (C.P.cellsOf e) ((((bG m l).drop i).take 0)++E)))) rfl ae hff' (by simpa using hffL);simpa using this
  |own _ _ _ _ bk base tot cap ad hβ ha hcap hm ht=>
   obtain⟨g1,g2,g3⟩:=xw hs (hag1 l (by simp[hd,dK])) hbk;obtain⟨hnI,hk0',ht',c,T,fr,q1,q2,q3,q4⟩:=hs.own l _ bk base tot g1 hβ;have hlen1:(((bG m l).drop i).take n).length=n:=kv _ _ _ g2;have hgt:∀j,j<n->(((bG m l).drop i).take n).getD j .any=(bG m l).getD (i+j) .any:=fun j hj=>gn _ _ _ _ _ hj
   by_cases hroom:n+E.length<=cap
   ·
    have hcsz:base+i*C.P.cellsOf e+cap*C.P.cellsOf e<=c.size:=by
     have:i*C.P.cellsOf e+cap*C.P.cellsOf e<=tot*C.P.cellsOf e:=by rw[<-Nat.add_mul];exact fF _ ae
     omega
    have hnc:n*C.P.cellsOf e+news.length<=cap*C.P.cellsOf e:=by rw[hsrc.newsLen,<-Nat.add_mul];exact fF _ hroom
    have hrun:(Builtin.append_ #[t,u] o.type #[.slice (some ad) n cap,ev q]).run C.P x.w=.ok (.slice (some ad) (n+E.length) cap) (x.w.setCells bk (base+i*C.P.cellsOf e+n*C.P.cellsOf e) news):=by
     by_cases hc0:cap=0
     .have hm0:E.length=0:=ae;have hn0:news=[]:=nO (by rw[hsrc.newsLen,hm0];simp);subst hn0;rw[hm0]at hsrc⊢;rw[BJ hu hti htis hsrc hcap];rfl
     .have ha':=ha ae;subst ha';have:=run_append_room_src x.w t u o.type e ti' hu hti bk (base+i*C.P.cellsOf e) n cap (ev q) E.length news (by rw[htis];exact hsrc) hroom
       (fun j hj=>by rw[htis,cell_of_heap q1 ae];rfl)
       (fun j hj=>by
         rw[htis];have:=q3 (base+i*C.P.cellsOf e+n*C.P.cellsOf e+j) ae;simp only[World.frozen?,q1];simp only[ef,bC];omega)
      rw[htis]at this;exact this
    obtain⟨c',s1,s2,s3⟩:=nV bk news (base+i*C.P.cellsOf e+n*C.P.cellsOf e) x.w c T fr q1 ae;obtain⟨f1,f2,f3,f4⟩:=mL bk news (base+i*C.P.cellsOf e+n*C.P.cellsOf e) x.w;generalize hw':x.w.setCells bk (base+i*C.P.cellsOf e+n*C.P.cellsOf e) news=w' at*
    have hother:∀b',b'≠bk->w'.heap[b']? =x.w.heap[b']? :=fun b' hb'=>by rw[<-hw'];exact mM bk _ _ _ b' hb'
    have hlL:l≠L:=fun e1=>by subst e1;rw[hβ]at hL;cases hL
    have hstep:Step x ⟨w',x.I,fL x.β L (bk,base+i*C.P.cellsOf e,cap)⟩:=by
     refine⟨f1,f2,f3,by show _<=w'.heap.size;rw[f4];exact aH _,fun _ h=>h,fun b' hb'=>hother b' (fun e1=>hnI (e1▸hb')),fun l' p' hp=>?_,
      fun b' _ hn'=>hother b' (fun e1=>hn' l _ hβ e1.symm),fun _ h=>.inl h,fun l' p' hp=>?_⟩
     .have:l'≠L:=fun e1=>by rw[e1,hL]at hp;cases hp
      simp[fL,this,hp]
     .by_cases e1:l'=L
      .simp only[fL,e1,ba,bq]at hp;exact .inr (.inr ⟨l,_,hβ,by rw[<-hp]⟩)
      .simp only[fL,e1,aZ]at hp;exact .inl hp
    have hle2:=hstep.le;rw[hr,hrun];refine⟨_,⟨w',x.I,fL x.β L (bk,base+i*C.P.cellsOf e,cap)⟩,.inl rfl,hstep,
     .own L _ 0 _ bk (base+i*C.P.cellsOf e) cap cap ad (by simp[fL]) (fun h=>by rw[ha h];simp) hroom hm ae, ?_,fun l' hl'=>by simp[fL,hl']⟩
    have hblk:rq C.ν ⟨w',x.I,fL x.β L (bk,base+i*C.P.cellsOf e,cap)⟩ bk (base+i*C.P.cellsOf e) cap (.buf (C.P.cellsOf e) ((((bG m l).drop i).take n)++E)):=by
     refine⟨hk0',by rw[bH,hlen1];exact hroom,c',T,fr,s1,ae,fun o'' ho''=>q3 o'' ae,fun i' hi'=>?_⟩;rw[bH,hlen1]at hi';rw[dN,hlen1];by_cases hi2:i'<n
     .rw[aC hi2,hgt i' hi2];refine⟨(q4 (i+i') ae).1,fun j hj=>?_⟩;have hlt:=kP hi2 hj;rw[s3,ar ae];have:=(q4 (i+i') ae).2 j hj;rw[show base+(i+i')*C.P.cellsOf e+j=base+i*C.P.cellsOf e+i'*C.P.cellsOf e+j by rw[Nat.add_mul];omega]at this;exact⟨this.1,this.2.mono hle2⟩
     .rw[ar hi2];obtain⟨a1,a2⟩:=hnews (i'-n) ae;refine⟨a1,fun j hj=>?_⟩;have hnk:n*C.P.cellsOf e<=i'*C.P.cellsOf e:=fF _ ae;have hlt:=kP (show i'-n<E.length by omega) hj;rw[<-hsrc.newsLen,Nat.sub_mul]at hlt;rw[s3,aC ae,show base+i*C.P.cellsOf e+i'*C.P.cellsOf e+j-(base+i*C.P.cellsOf e+n*C.P.cellsOf e)=(i'-n)*C.P.cellsOf e+j by rw[Nat.sub_mul];omega];exact⟨aaG hsrc.one _ (by rw[Nat.sub_mul];omega),(a2 j hj).mono hle2⟩
    refine⟨fun l' blk b' base' tot' e1 e2=>?_,fun l1 l2 b' base' tot' base'' tot'' e1 e2 e3 e4=>?_,fun b' hb'=>by show b'<w'.heap.size;rw[f4];exact hs.imm b' hb',fun l' b' base' tot' e1=>?_,uC hstep.le hs.gd⟩
    .by_cases h:l'=L
     .subst h;rw[hffL]at e1;simp only[fL,ba,bq,eO]at e2;obtain⟨rfl,rfl,rfl⟩:=e2;obtain rfl:=bQ e1;exact⟨hnI,hblk⟩
     .rw[hff l' h]at e1;by_cases h2:l'=l
      .rw[aC h2]at e1;cases e1
      .rw[ar h2]at e1;simp only[fL,h,aZ]at e2;obtain⟨a1,a2⟩:=hs.own l' blk b' base' tot' e1 e2;refine⟨a1,a2.mono hle2 (hother b' (fun eb=>?_))⟩;subst eb;exact h2 (hs.inj l' l b' base' tot' base tot (by rw[e1];simp) (by rw[g1];simp) e2 hβ)
    .have key:∀l1 b1 base1 tot1,l1≠L->lz f [L,l] (ep (cM m l) L (.buf (C.P.cellsOf e) ((((bG m l).drop i).take n)++E))) l1≠none->x.β l1=some (b1,base1,tot1)->b1≠bk/\f l1≠none:=by
      intro l1 b1 base1 tot1 h1' h2' h3';rw[hff l1 h1']at h2';by_cases h:l1=l
      .rw[aC h]at h2';exact absurd rfl h2'
      .rw[ar h]at h2';refine⟨fun eb=>?_,h2'⟩;subst eb;exact h (hs.inj l1 l b1 base1 tot1 base tot h2' (by rw[g1];simp) h3' hβ)
     by_cases h1':l1=L<;>by_cases h2':l2=L
     .rw[h1',h2']
     .exfalso;simp only[fL,h1',ba,bq,eO]at e3;simp only[fL,h2',aZ]at e4;exact(key l2 b' _ _ h2' e2 e4).1 e3.1.symm
     .exfalso;simp only[fL,h2',ba,bq,eO]at e4;simp only[fL,h1',aZ]at e3;exact(key l1 b' _ _ h1' e1 e3).1 e4.1.symm
     .simp only[fL,h1',aZ]at e3;simp only[fL,h2',aZ]at e4;exact hs.inj l1 l2 b' base' tot' base'' tot'' (key l1 b' _ _ h1' e1 e3).2 (key l2 b' _ _ h2' e2 e4).2 e3 e4
    .show b'<w'.heap.size;rw[f4];by_cases h:l'=L
     .simp only[fL,h,ba,bq,eO]at e1;obtain⟨rfl,_,_⟩:=e1;exact hs.fV l _ _ _ hβ
     .simp only[fL,h,aZ]at e1;exact hs.fV l' _ _ _ e1
   ·
    have hold:∃olds:List Value,(Builtin.firstCells (C.P.cellsOf e) n (.slice (some ad) n cap)).run C.P x.w.drew=.ok olds.toArray x.w.drew/\olds.length=n*C.P.cellsOf e/\
      ∀j,j<n->∀j',j'<C.P.cellsOf e->(olds.getD (j*C.P.cellsOf e+j') undef).oneCell'=true/\RD C.ν x (olds.getD (j*C.P.cellsOf e+j') undef) (((bG m l).getD (i+j) .any).cells.getD j' .any):=by
     by_cases hn0:n=0
     .subst hn0;exact⟨[],by simp[Builtin.firstCells,loadCells,loadCellsFrom],aI,fun j hj=>ae⟩
     .have ha':=ha ae;subst ha';have hqd:∀q,q<n*C.P.cellsOf e->q/C.P.cellsOf e<n/\q%C.P.cellsOf e<C.P.cellsOf e/\q/C.P.cellsOf e*C.P.cellsOf e+q%C.P.cellsOf e=q:=fun q hq=>
       ⟨Nat.div_lt_of_lt_mul (by rw[Nat.mul_comm];exact hq),Nat.mod_lt _ ae,by rw[Nat.mul_comm];exact Nat.div_add_mod q _⟩
      have hbase:∀q,q<n*C.P.cellsOf e->base+i*C.P.cellsOf e+q<c.size:=fun q hq=>by
       have:i*C.P.cellsOf e+n*C.P.cellsOf e<=tot*C.P.cellsOf e:=by rw[<-Nat.add_mul];exact fF _ ae
       omega
      refine⟨(List.range (n*C.P.cellsOf e)).map fun q=>c.getD (base+i*C.P.cellsOf e+q) undef, ?_,aI,fun j hj j' hj'=>?_⟩
      .refine run_firstCells_some x.w.drew _ n _ n cap _ aI (fun j u' hj=>?_);obtain⟨hj2,rfl⟩:=List.getElem?_eq_some_iff.1 hj;simp at hj2;rw[Addr.Ci];simp only[List.getElem_map,List.getElem_range];exact cell_of_heap (w:=x.w.drew) q1 (hbase j hj2)
      .have hlt:=kP hj hj';have e1:((List.range (n*C.P.cellsOf e)).map fun q=>c.getD (base+i*C.P.cellsOf e+q) undef).getD (j*C.P.cellsOf e+j') undef=c.getD (base+(i+j)*C.P.cellsOf e+j') undef:=by
        simp only[List.getD,List.getElem?_map,List.getElem?_range hlt,Option.map_some,Option.getD_some];congr 1;rw[Nat.add_mul];omega
       rw[e1];exact(q4 (i+j) ae).2 j' hj'
    obtain⟨olds,o1,o2,o3⟩:=hold;refine Lr (base:=some ad) (sLen:=n) (sCap:=cap) (olds:=olds) (es1:=((bG m l).drop i).take n) (E:=E) (mm:=E.length) hs hL hu hti hzv hsz htis hce hby
     o1 o2 hlen1 rfl (fun j hj=>?_) hsrc hnews ae ae hff' hffL hr
    rw[hgt j hj];exact⟨(q4 (i+j) ae).1,o3 j hj⟩
end
end
section
variable [df]
section
variable {ν:List (Nat×Nat)} {x:X} {f:Nat->Option cr} {m:List (Nat×cr)}
def X.qo (x:X)(f:Nat->Option cr):X:=⟨x.w,fun b=>x.I b\/∃l p,x.β l=some p/\p.1=b/\f l≠none,x.β⟩
def te (x:X)(f:Nat->Option cr):Le x (x.qo f):=⟨fun _ h=>.inl h,fun _ _=>rfl,fun _ _ h=>h⟩
theorem D.wo (ds:List D):(D.agg ds).bN=bK ds:=by simp[D.bN]
def EJ {l k n:Nat}(hs:ie ν x f)(hag:∀l,look m l≠none->f l=look m l)(hb:gX m l k n){b base tot:Nat}(hβ:x.β l=some (b,base,tot)):
  f l=some (.buf k (bG m l))/\n<=(bG m l).length/\¬x.I b/\rq ν x b base tot (.buf k (bG m l)):=by
 have hne:look m l≠none:=by
  intro h;simp[gX,h]at hb
 obtain⟨g1,g2,_⟩:=xw hs (hag l hne) hb;exact⟨g1,g2,hs.own l _ b base tot g1 hβ⟩
def M4 {k:Nat}{es:List D}{cs:List Sh}{g:Nat->Nat->Value}(hk0:0<k)
  (hV:∀(e:D) (c:Nat->Value),e.cells.length=k->(∀j,j<k->RD ν x (c j) (e.cells.getD j .any))->kf m cs e->
    (lX m cs e).cells.length=k/\(lX m cs e).bN=true/\∀j,j<k->RD ν (x.qo f) (c j) ((lX m cs e).cells.getD j .any))
  (hes:∀i,i<es.length->(es.getD i .any).cells.length=k/\∀j,j<k->RD ν x (g i j) ((es.getD i .any).cells.getD j .any))
  (ho:∀e∈es,kf m cs e) (i:Nat) (hi:i<es.length):
  ((es.map (lX m cs)).getD i .any).cells.length=k/\((es.map (lX m cs)).getD i .any).bN=true/\∀j,j<k->RD ν (x.qo f) (g i j) (((es.map (lX m cs)).getD i .any).cells.getD j .any):=by
 have e1:(es.map (lX m cs)).getD i .any=lX m cs (es.getD i .any):=by simp[List.getD,hi]
 rw[e1];exact hV _ (g i) (hes i hi).1 (hes i hi).2 (ho _ (by rw[s8 _ _ _ hi];exact List.getElem_mem _))
mutual
theorem yf (hs:ie ν x f)(hag:∀l,look m l≠none->f l=look m l):∀(s:Sh) (v:Value) (d:D),RD ν x v d->oV m s d->
  RD ν (x.qo f) v (sf m s d)/\(sf m s d).bN=true/\(d.cells.length=1->d.isAgg=false->(sf m s d).cells=[sf m s d])
 | .a,v,d,h,ho=>by
  simp only[oV]at ho;have hm:RD ν (x.qo f) v d:=h.mono (te x f);cases d<;>simp only[sf]<;>first
   |exact⟨hm,ho,fun h1 h2=>by simp_all[D.cells,D.isAgg]⟩
   |skip
  cases h;exact⟨.sl none 0 0 0 0 0 [] (fun _ _=>undef) rfl (.inl rfl) (aH _) (by simp[maxLen]) (fun _ h=>ae) (fun _ h=>ae) (fun _ _ h=>ae) (fun _ _ h=>ae) (fun _ _ h=>ae),rfl,fun _ _=>rfl⟩
 | .sl k cs,v,d,h,ho=>by
  have hm:RD ν (x.qo f) v d:=h.mono (te x f);cases d<;>simp only[sf]<;>simp only[oV]at ho<;>first
   |exact⟨hm,ho,fun h1 h2=>by simp_all[D.cells,D.isAgg]⟩
   |skip
  .cases h;exact⟨.sl none 0 0 0 0 k [] (fun _ _=>undef) rfl (.inl rfl) (aH _) (by simp[maxLen]) (fun _ h=>by simp at h) (fun _ h=>by simp at h) (fun _ _ h=>by simp at h) (fun _ _ h=>by simp at h) (fun _ _ h=>by simp at h),rfl,fun _ _=>rfl⟩
  .rename_i l k' i c;obtain⟨hb,hel⟩:=ho;cases h with
   |own0=>
    simp only[List.take_zero,List.map_nil];exact⟨.sl _ 0 0 0 0 k' [] (fun _ _=>undef) rfl (.inl rfl) (aH _) (by simp[maxLen]) (fun _ h=>by simp at h) (fun _ h=>by simp at h) (fun _ _ h=>by simp at h) (fun _ _ h=>by simp at h) (fun _ _ h=>by simp at h),rfl,fun _ _=>rfl⟩
   |own _ _ _ _ b base tot cap a hβ ha hcap hmx ht=>
    obtain⟨g1,g2,hnI,hk0,ht',cc,T,fr,q1,q2,q3,q4⟩:=EJ hs hag hb hβ;have hlen:(((bG m l).drop i).take c).length=c:=kv _ _ _ g2;have hgt:∀j,j<c->(((bG m l).drop i).take c).getD j .any=(bG m l).getD (i+j) .any:=fun j hj=>gn _ _ _ _ _ hj
    have hrow:=M4 (f:=f) (k:=k') (cs:=cs) (es:=((bG m l).drop i).take c) (g:=fun i' j=>cc.getD (base+(i+i')*k'+j) undef) hk0 (FN hs hag cs)
     (fun i' hi'=>by
       rw[hlen]at hi';rw[hgt i' hi'];exact⟨(q4 (i+i') ae).1,fun j hj=>((q4 (i+i') ae).2 j hj).2⟩) hel
    refine⟨.sl (some a) b (base+i*k') c cap k' _ (fun i' j=>cc.getD (base+(i+i')*k'+j) undef) (by rw[bB,hlen]) ?_ hcap hmx (fun i' hi'=>(hrow i' ae).1) (fun i' hi'=>(hrow i' ae).2.1) (fun i' j hi' hj=>?_) (fun i' j hi' hj=>?_) (fun i' j hi' hj=>(hrow i' ae).2.2 j hj),rfl,fun _ _=>rfl⟩
    .by_cases hc0:c=0
     .left;exact nO (by simp[hlen,hc0])
     .right;exact⟨by rw[ha ae],.inr ⟨l,_,hβ,rfl,by rw[g1];simp⟩⟩
    .have h1:=kP (tot:=tot) (show i+i'<tot by omega) hj;show x.w.cell? _=_;rw[<-cell_of_heap q1 (by omega:base+(i+i')*k'+j<cc.size)];congr 2;rw[Nat.add_mul];omega
    .exact((q4 (i+i') ae).2 j hj).1
 | .pt cs,v,d,h,ho=>by
  have hm:RD ν (x.qo f) v d:=h.mono (te x f);cases d<;>simp only[sf]<;>simp only[oV]at ho<;>first
   |exact⟨hm,ho,fun h1 h2=>by simp_all[D.cells,D.isAgg]⟩
   |skip
  rename_i l k' i o;obtain⟨hb,hel⟩:=ho;cases h with
  |ptr _ _ _ _ b base tot at_ hβ hat=>
   obtain⟨g1,g2,hnI,hk0,ht',cc,T,fr,q1,q2,q3,q4⟩:=EJ hs hag hb hβ;have hrow:=M4 (f:=f) (k:=k') (cs:=cs) (es:=bG m l) (g:=fun i' j=>cc.getD (base+i'*k'+j) undef) hk0 (FN hs hag cs)
    (fun i' hi'=>⟨(q4 i' hi').1,fun j hj=>((q4 i' hi').2 j hj).2⟩) hel
   refine⟨.ref b base k' i o at_ _ (fun i' j=>cc.getD (base+i'*k'+j) undef) (.inr ⟨l,_,hβ,rfl,by rw[g1];simp⟩) hat (fun i' hi'=>(hrow i' (by simpa using hi')).1) (fun i' hi'=>(hrow i' (by simpa using hi')).2.1)
    (fun i' j hi' hj=>?_) (fun i' j hi' hj=>((q4 i' (by simpa using hi')).2 j hj).1) (fun i' j hi' hj=>(hrow i' (by simpa using hi')).2.2 j hj),rfl,fun _ _=>rfl⟩
   have h1:=kP (tot:=tot) (show i'<tot by simp at hi';omega) hj;exact cell_of_heap q1 ae
theorem FN (hs:ie ν x f)(hag:∀l,look m l≠none->f l=look m l):∀(cs:List Sh){k:Nat} (e:D) (c:Nat->Value),e.cells.length=k->(∀j,j<k->RD ν x (c j) (e.cells.getD j .any))->kf m cs e->
  (lX m cs e).cells.length=k/\(lX m cs e).bN=true/\∀j,j<k->RD ν (x.qo f) (c j) ((lX m cs e).cells.getD j .any)
 |[],k,e,c,hk,hc,ho=>by
  simp only[lX];simp only[kf]at ho;exact⟨hk,ho,fun j hj=>(hc j hj).mono (te x f)⟩
 |s::r,k,e,c,hk,hc,ho=>by
  cases e<;>simp only[lX]<;>simp only[kf]at ho<;>try
   (obtain⟨h1,h2,h3⟩:=yf hs hag s (c 0) _ (by simp only[D.cells,aM,aX]at hk;exact hc 0 ae) ho
    simp only[D.cells,aM,aX]at hk;rw[h3 rfl rfl];subst hk;exact⟨rfl,h2,fun j hj=>by obtain rfl:j=0:=ae
                                                                                    exact h1⟩)
  .simp only[D.cells,aX]at hk;subst hk;cases s<;>simp only[sf]<;>exact⟨rfl,rfl,fun j hj=>ae⟩
  .rename_i ds;obtain⟨a1,a2,a3⟩:=yg hs hag (s::r) ds c (fun j hj=>hc j (by simpa[D.cells]using hk▸hj)) ho;simp only[D.cells]at hk⊢;exact⟨a1.trans hk,by rw[D.wo];exact a2,fun j hj=>a3 j ae⟩
  .simp only[D.cells,aX]at hk;subst hk;cases s<;>simp only[sf,oV]at ho⊢ <;>exact⟨rfl,ho,fun j hj=>ae⟩
theorem yg (hs:ie ν x f)(hag:∀l,look m l≠none->f l=look m l):∀(cs:List Sh) (ds:List D) (c:Nat->Value),(∀j,j<ds.length->RD ν x (c j) (ds.getD j .any))->pI m cs ds->
  (sg m cs ds).length=ds.length/\bK (sg m cs ds)=true/\∀j,j<ds.length->RD ν (x.qo f) (c j) ((sg m cs ds).getD j .any)
 |[],ds,c,hc,ho=>by
  simp only[pI]at ho;exact⟨by simp[sg],by simpa[sg]using ho,fun j hj=>by simpa only[sg]using(hc j hj).mono (te x f)⟩
 |s::r,[],c,hc,ho=>by
  exact⟨by simp[sg],by simp[sg,bK],fun j hj=>by simp at hj⟩
 |s::r,d::ds,c,hc,ho=>by
  simp only[sg];simp only[pI]at ho;obtain⟨h1,h2,_⟩:=yf hs hag s (c 0) d (by simpa using hc 0 aI) ho.1;obtain⟨a1,a2,a3⟩:=yg hs hag r ds (fun j=>c (j+1)) (fun j hj=>by simpa using hc (j+1) dk) ho.2;refine⟨by simp[a1],by simp[bK,h2,a2],fun j hj=>?_⟩;cases j with
  |zero=>simpa using h1
  |succ j=>simpa using a3 j (by simpa using hj)
end
def yh (hs:ie ν x f)(hag:∀l,look m l≠none->f l=look m l)(sh:List Sh)(v:Value)(d:D)(h:RD ν x v d)(ho:kf m sh d):RD ν (x.qo f) v (lX m sh d)/\(lX m sh d).bN=true:=by
 cases sh with
 |nil=>simp only[lX];simp only[kf]at ho;exact⟨h.mono (te x f),ho⟩
 |cons s r=>
  cases d<;>simp only[lX]<;>simp only[kf]at ho<;>first
   |(obtain⟨h1,h2,_⟩:=yf hs hag s v _ h ho;exact⟨h1,h2⟩)
   |skip
  rename_i ds;cases h with
  |agg cs _ hl h1 h=>
   obtain⟨a1,a2,a3⟩:=yg hs hag (s::r) ds (fun j=>cs.getD j undef) h ho;exact⟨.agg cs _ (by rw[a1,hl]) (fun i hi=>h1 i ae) (fun i hi=>a3 i ae),by rw[D.wo];exact a2⟩
def lD (hs:ie ν x f)(hag:∀l,look m l≠none->f l=look m l):∀(ss:List (List Sh)) (ds:List D) (c:Nat->Value),(∀j,j<ds.length->RD ν x (c j) (ds.getD j .any))->lO m ss ds->
  (jZ m ss ds).length=ds.length/\bK (jZ m ss ds)=true/\∀j,j<ds.length->RD ν (x.qo f) (c j) ((jZ m ss ds).getD j .any)
 |ss,[],c,hc,ho=>⟨by simp[jZ],by simp[jZ,bK],fun j hj=>by simp at hj⟩
 |[],d::r,c,hc,ho=>by
  simp only[lO]at ho;obtain⟨h1,h2⟩:=yh hs hag [.a] (c 0) d (by simpa using hc 0 aI) ho.1;obtain⟨a1,a2,a3⟩:=lD hs hag [] r (fun j=>c (j+1)) (fun j hj=>by simpa using hc (j+1) dk) ho.2
  grind [jZ,bK]
 |s::ss,d::r,c,hc,ho=>by
  simp only[lO]at ho;obtain⟨h1,h2⟩:=yh hs hag s (c 0) d (by simpa using hc 0 aI) ho.1;obtain⟨a1,a2,a3⟩:=lD hs hag ss r (fun j=>c (j+1)) (fun j hj=>by simpa using hc (j+1) dk) ho.2
  grind [jZ,bK]
end
end
section
variable [df]
def iu (P:Program)(x:X)(G:Value->X->Prop)(r:Result Next):Prop:=
 (∃v x',(r=.ok (.value v) x'.w\/r=.ok .skip x'.w/\v=undef)/\G v x')\/
 (∃f args,r=.ok (.enter f args) x.w/\Calls P f args x.w fun
   | .returned v,w'=>∃x',x'.w=w'/\G v x'
   |_,_=>False)
def iu.mono {P:Program}{x:X}{G G':Value->X->Prop}{r:Result Next}(h:iu P x G r)(hg:∀v x',G v x'->G' v x'):iu P x G' r:=by
 rcases h with⟨v,x',h1,h2⟩|⟨f,args,h1,h2⟩
 .exact .inl ⟨v,x',h1,hg _ _ h2⟩
 .refine .inr ⟨f,args,h1,Calls.mono h2 fun e w' he=>?_⟩
  grind
def iu.wp {P:Program}{x:X}{G:Value->X->Prop}{o:Oper}{a:Act}{next:Act->World->Prop}{Q:Exit->Act->World->Prop}
  (h:iu P x G ((execOp a.eval o).run P x.w)) (hn:∀v x',G v x'->next (a.put o.dst v) x'.w):o.wp P a x.w next Q:=by
 unfold Oper.wp;rcases h with⟨v,x',h1|⟨h1,h3⟩,h2⟩|⟨f,args,h1,h2⟩
 .rw[h1];exact hn v x' h2
 .rw[h1];subst h3;exact hn _ x' h2
 .rw[h1,Oper.upon_enter];refine Calls.mono h2 fun e w' he=>?_
  grind
structure gW (x x':X):Prop where
 grow:dR x.w x'.w
 I:∀b,x.I b->x'.I b
 newI:∀b,x'.I b->x.I b\/x.w.heap.size<=b
 imm:∀b,x'.I b->b<x'.w.heap.size
 β:x'.β=x.β
structure ic (st:St)(x:X):Prop where
 β:∀l,st.nx<=l->x.β l=none
 m:∀l,look st.m l≠none->l<st.nx
structure Ok (P:Program)(ν:List (Nat×Nat))(dr:List Nat)(Y:Ctx):Prop where
 small:∀fid n,dI ν fid=some n->n<1000000
 bld:∀t,dr.contains (1000000000+t)=true->t=df.tB
 pure:∀fid n,dI ν fid=some n->∀(x:X) (args:Array Value) (ds:List D),args.size=ds.length->(∀i,i<ds.length->RD ν x (args.getD i undef) (ds.getD i .any))->bK ds=true->
  (∀b,x.I b->b<x.w.heap.size)->df.gd x->Y.pre n ds->iu P x (fun v x'=>gW x x'/\RD ν x' v (Y.val n ds)) ((callFunc fid args).run P x.w)
 effF:∀fid n,dI ν fid=some n->dr.contains (2*n+1)=true->∀(x:X) (f:Nat->Option cr) (args:Array Value) (l k:Nat) (d:D) (ds:List D),args.size=ds.length+1->RD ν x (args.getD 0 undef) (.ptr l k 0 0)->
  (∀i,i<ds.length->RD ν x (args.getD (i+1) undef) (ds.getD i .any))->ie ν x f->f l=some (.buf k [d])->d.bN=true->bK ds=true->Y.fp n d ds->
  iu P x (fun v x'=>Step x x'/\RD ν x' v (Y.fv n d ds)/\ie ν x' (fun l'=>if l'=l then some (.buf k [Y.fs n d ds])else f l')/\x'.β=x.β) ((callFunc fid args).run P x.w)
 dr:∀fid n,dI ν fid=some n->∀(x:X) (args:Array Value) (ds:List D) (st:St) (K:D->St->Prop),args.size=ds.length->(∀i,i<ds.length->RD ν x (args.getD i undef) (ds.getD i .any))->
  ie ν x (look st.m)->ic st x->Y.tr n ds st K->iu P x (fun v x'=>∃d st',K d st'/\Step x x'/\RD ν x' v d/\ie ν x' (look st'.m)/\ic st' x') ((callFunc fid args).run P x.w)
section
variable {x:X} {f:Nat->Option cr} {C:CC} {defs:List (Option Nat)} {J:Src->cA} {ev:Operand->Value} {Y:Ctx} {m:List (Nat×cr)} {L:Nat} {ν:List (Nat×Nat)}
def gW.step {x':X}(h:gW x x')(himm:∀b,x.I b->b<x.w.heap.size):Step x x':=
 ⟨h.grow.os,h.grow.tape,h.grow.output,h.grow.size,h.I,fun b hb=>h.grow.old b (himm b hb),fun l p hp=>by rw[h.β];exact hp,fun b hb _=>h.grow.old b hb,fun b hb=>(h.newI b hb).imp id .inl,fun l p hp=>.inl (by rw[h.β]at hp;exact hp)⟩
def gW.pR {x':X}(h:gW x x')(hs:ie ν x f):ie ν x' f:=by
 have hst:=h.step hs.imm;refine⟨fun l blk b base tot e1 e2=>?_,fun l1 l2 b base tot base' tot' e1 e2 e3 e4=>?_,h.imm,fun l b base tot e=>?_,uC hst.le hs.gd⟩
 .rw[h.β]at e2;obtain⟨a1,a2⟩:=hs.own l blk b base tot e1 e2;have hb:=hs.fV l b base tot e2;refine⟨fun hI=>?_,a2.mono hst.le (h.grow.old b hb)⟩;rcases h.newI b hI with h1|h1
  .exact a1 h1
  .omega
 .rw[h.β]at e3 e4;exact hs.inj l1 l2 b base tot base' tot' e1 e2 e3 e4
 .rw[h.β]at e;exact cz (hs.fV l b base tot e) h.grow.size
mutual
theorem aa3 (m m':List (Nat×cr)):∀(s:Sh) (d:D),d.bN=true->sf m s d=sf m' s d/\oV m s d
 | .a,d,h=>by cases d<;>simp_all[sf,oV,D.bN]
 | .sl k cs,d,h=>by cases d<;>simp_all[sf,oV,D.bN]
 | .pt cs,d,h=>by cases d<;>simp_all[sf,oV,D.bN]
theorem aa4 (m m':List (Nat×cr)):∀(ss:List Sh) (ds:List D),bK ds=true->sg m ss ds=sg m' ss ds/\pI m ss ds
 |[],ds,h=>by simp[sg,pI,h]
 |s::r,[],h=>by simp[sg,pI]
 |s::r,d::ds,h=>by
  simp only[bK,bM]at h;obtain⟨a1,a2⟩:=aa3 m m' s d h.1;obtain⟨b1,b2⟩:=aa4 m m' r ds h.2;simp only[sg,pI,a1,b1];exact⟨trivial,a2,b2⟩
end
def aa5 (m m':List (Nat×cr))(ss:List Sh)(d:D)(h:d.bN=true):lX m ss d=lX m' ss d/\kf m ss d:=by
 cases ss with
 |nil=>simp[lX,kf,h]
 |cons s r=>
  cases d<;>simp only[lX,kf]<;>first
   |exact aa3 m m' s _ h
   |skip
  grind [aa4,D.wo]
def FO (m m':List (Nat×cr)):∀(ss:List (List Sh)) (ds:List D),bK ds=true->jZ m ss ds=jZ m' ss ds/\lO m ss ds
 |ss,[],h=>by simp[jZ,lO]
 |[],d::r,h=>by
  simp only[bK,bM]at h;obtain⟨a1,a2⟩:=aa5 m m' [.a] d h.1;obtain⟨b1,b2⟩:=FO m m' [] r h.2
  grind [jZ,lO]
 |s::ss,d::r,h=>by
  simp only[bK,bM]at h;obtain⟨a1,a2⟩:=aa5 m m' s d h.1;obtain⟨b1,b2⟩:=FO m m' ss r h.2
  grind [jZ,lO]
def Goal (ν:List (Nat×Nat))(x:X)(f:Nat->Option cr)(L:Nat)(d:D)(v:Value)(x':X):Prop:=Step x x'/\RD ν x' v d/\ie ν x' f/\∀l,l≠L->x'.β l=x.β l
def GN.rM {P:Program}{f':Nat->Option cr}{d:D}{r:Result Next}(h:GN ν x f' L d r):iu P x (Goal ν x f' L d) r:=by
 obtain⟨v,x',h1,h2,h3,h4,h5⟩:=h;exact .inl ⟨v,x',h1,h2,h3,h4,h5⟩
def Hw {P:Program}{dr:List Nat}(hΓ:Ok P ν dr Y){fid n:Nat}(hn:dI ν fid=some n){args:Array Value}{ds:List D}{sh:List (List Sh)}(hl:args.size=ds.length)
  (hargs:∀i,i<ds.length->RD ν x (args.getD i undef) (ds.getD i .any)) (hs:ie ν x f) (hag:bK ds=false->∀l,look m l≠none->f l=look m l) (ho:lO m sh ds) (hpre:Y.pre n (jZ m sh ds))
  (hok:xz ds (Y.val n (jZ m sh ds))=true):iu P x (Goal ν x f L (Y.val n (jZ m sh ds))) ((callFunc fid args).run P x.w):=by
 cases hnl:bK ds with
 |true=>
  obtain⟨e1,_⟩:=FO m [] sh ds hnl;obtain⟨_,e2⟩:=FO [] m sh ds hnl;have hs0:ie ν x (fun _=>none):=hs.less fun _=>.inr (.inl rfl)
  obtain⟨a1,a2,a3⟩:=lD (m:=[]) hs0 (fun l h=>by simp[look]at h) sh ds (fun j=>args.getD j undef) hargs e2;rw[<-e1]at a1 a2 a3;have hle:Le (x.qo fun _=>none) x:=⟨fun b hb=>by
   rcases hb with h|⟨_,_,_,_,h⟩
   .exact h
   .exact absurd rfl h,fun _ _=>rfl,fun _ _ h=>h⟩
  refine(hΓ.pure fid n hn x args _ (by rw[a1,hl]) (fun i hi=>(a3 i ae).mono hle) a2 hs.imm hs.gd hpre).mono fun v x' h=>?_
  obtain⟨h1,h2⟩:=h;exact⟨h1.step hs.imm,h2,h1.pR hs,fun l _=>by rw[h1.β]⟩
 |false=>
  obtain⟨a1,a2,a3⟩:=lD hs (hag hnl) sh ds (fun j=>args.getD j undef) hargs ho;have hmf:(Y.val n (jZ m sh ds)).gH=true:=by simpa[xz,hnl]using hok
  have himm:∀b,(x.qo f).I b->b<x.w.heap.size:=by
   intro b hb;rcases hb with h|⟨l,⟨b',base,tot⟩,h1,h2,h3⟩
   .exact hs.imm b h
   .subst h2;exact hs.fV l _ _ _ h1
  have h:=hΓ.pure fid n hn (x.qo f) args _ (by rw[a1,hl]) (fun i hi=>a3 i ae) a2 himm (uC (te x f) hs.gd) hpre;have key:∀v x',(gW (x.qo f) x'/\RD ν x' v (Y.val n (jZ m sh ds)))->Goal ν x f L (Y.val n (jZ m sh ds)) v ⟨x'.w,x.I,x.β⟩:=by
   intro v x' ⟨h1,h2⟩;have hp:gW x ⟨x'.w,x.I,x.β⟩:=⟨h1.grow,fun _ h=>h,fun _ h=>.inl h,fun b hb=>cz (hs.imm b hb) h1.grow.size,rfl⟩;exact⟨hp.step hs.imm,h2.gH hmf,hp.pR hs,fun _ _=>rfl⟩
  rcases h with⟨v,x',h1,h2⟩|⟨f',args',h1,h2⟩
  .exact .inl ⟨v,⟨x'.w,x.I,x.β⟩,h1,key v x' h2⟩
  .refine .inr ⟨f',args',h1,Calls.mono h2 fun e w' he=>?_⟩;cases e with
   |returned v=>obtain⟨x',e1,e2⟩:=he;exact⟨⟨x'.w,x.I,x.β⟩,e1,key v x' e2⟩
   |panicked c=>exact he
   |outgrown=>exact he
end
end
section
variable [df]
section
variable {x:X} {f:Nat->Option cr} {C:CC} {defs:List (Option Nat)} {J:Src->cA} {ev:Operand->Value} {Y:Ctx} {m:List (Nat×cr)} {L:Nat} {ν:List (Nat×Nat)}
def yI {f:Nat->Option cr}{m':List (Nat×cr)}:lz f [] m'=f:=by funext l;simp[lz]
def adL {i:bd}(hp:i.pure=true):i.wr J L=[]:=by cases i<;>simp_all[bd.pure,bd.wr]
def UW {args:List D}{ls:Option (List Nat)}(hls:ls=bif bK args then some []else none)(hag:KM f m ls):bK args=false->∀l,look m l≠none->f l=look m l:=by
 intro h;rw[h]at hls;subst hls;exact hag
theorem aaJ {o:Oper}{fid:Nat}{args:Array Operand}{tys:Array TypeId}{n:Nat}{ss:List Src}{sh:List (List Sh)}(hcst:∀d,J (.c d)=⟨true,d⟩)(hΓ:Ok C.P C.ν C.dr Y)
  (ho:o.op=.call {callee:=.value (.func fid),args,argTypes:=tys}) (h1:dI C.ν fid=some n) (h2:C.yv defs args.toList=some ss) (hρ:BI C defs J ev x o.op.operands.toList) (hob:(bd.call n ss sh).ff Y J m) (hs:ie C.ν x f) (hag:KM f m ((bd.call n ss sh).pS J)):
  iu C.P x (Goal C.ν x (lz f ((bd.call n ss sh).wr J L) ((bd.call n ss sh).dr Y J m L)) L ((bd.call n ss sh).val Y J m L)) ((execOp ev o).run C.P x.w):=by
 obtain⟨k1,k2,k3,k4⟩:=hob;have hv:=hρ (.func fid) (by simp[ho,Op.operands,Call.operands]) (.c (.fn n [])) (by simp[CC.src,h1]) (by rw[hcst]);rw[hcst]at hv;obtain⟨s1,s2,s3⟩:=jt hρ _ _ (fun o' ho'=>by simp only[ho,Op.operands,Call.operands];simp at ho'⊢;exact .inr ho') h2 k1;generalize hep:ev (.func fid)=vf at hv;cases hv with
 |fV=>exact absurd (hΓ.small _ _ h1) ae
 |mp=>exact absurd (hΓ.small _ _ h1) ae
 |bx=>exact absurd (hΓ.small _ _ h1) ae
 |fn fid' _ cs _ hν hl _=>
  have hcs:cs=#[]:=by apply Array.ext';simpa using hl
  subst hcs;have hrun:(execOp ev o).run C.P x.w=(callFunc fid' (args.map ev)).run C.P x.w:=by
   simp[execOp,ho,resolve,Deferred.ofValue,invoke,hep]
  rw[hrun];have hwr:(bd.call n ss sh).wr J L=[]:=rfl;rw[hwr,yI];simp only[bd.val];refine Hw hΓ hν (by simp;simpa using s2.symm) (fun i hi=>?_) hs (UW rfl hag) k2 k3 k4;have:=s3 i hi
  rwa [<-Array.toList_map,cS]at this
theorem pN (a b:Array Value)(i:Nat):(a++b).getD i undef=if i<a.size then a.getD i undef else b.getD (i-a.size) undef:=by
 rw[<-cS,Array.toList_append,dN]
 grind [cS]
def aaK {o:Oper}{t:Nat}{args:Array Operand}{tys:Array TypeId}{s:Src}{ss:List Src}{sh:List (List Sh)}(hΓ:Ok C.P C.ν C.dr Y)
  (ho:o.op=.call {callee:=.value (.tmp t),args,argTypes:=tys}) (h1:C.src defs (.tmp t)=some s) (h2:C.yv defs args.toList=some ss) (hρ:BI C defs J ev x o.op.operands.toList) (hob:(bd.callv s ss sh).ff Y J m) (hs:ie C.ν x f) (hag:KM f m ((bd.callv s ss sh).pS J)):
  iu C.P x (Goal C.ν x (lz f ((bd.callv s ss sh).wr J L) ((bd.callv s ss sh).dr Y J m L)) L ((bd.callv s ss sh).val Y J m L)) ((execOp ev o).run C.P x.w):=by
 obtain⟨k0,k1,k2⟩:=hob;have hv:=hρ (.tmp t) (by simp[ho,Op.operands,Call.operands]) s h1 k0;obtain⟨s1,s2,s3⟩:=jt hρ _ _ (fun o' ho'=>by simp only[ho,Op.operands,Call.operands];simp at ho'⊢;exact .inr ho') h2 k1;cases hd:(J s).d<;>simp only[hd]at k2;rename_i n caps;obtain⟨k1',k2,k3,k4⟩:=k2;rw[hd]at hv;generalize hep:ev (.tmp t)=vf at hv;cases hv with
 |fV _ n'=>exact absurd k1' ae
 |mp=>exact absurd k1' ae
 |bx=>exact absurd k1' ae
 |fn fid' _ cs _ hν hl hcs=>
  have hrun:(execOp ev o).run C.P x.w=(callFunc fid' (args.map ev++cs)).run C.P x.w:=by
   simp[execOp,ho,resolve,Deferred.ofValue,invoke,hep]
  rw[hrun];have hwr:(bd.callv s ss sh).wr J L=[]:=rfl;rw[hwr,yI];have tJ:(bd.callv s ss sh).val Y J m L=Y.val n (jZ m sh (j7 J ss++caps)):=by simp[bd.val,hd]
  rw[tJ];have hsz:args.size=(j7 J ss).length:=by simpa using s2.symm
  refine Hw hΓ hν (by simp[hl,hsz]) (fun i hi=>?_) hs (UW (by simp[bd.pS,hd]) hag) k2 k3 k4;rw[pN,dN];simp only[Array.size_map,hsz];split
  .rename_i hlt;have:=s3 i hlt
   rwa [<-Array.toList_map,cS]at this
  .exact hcs _ (by simp at hi;omega)
theorem W4 {o:Oper}{fid:Nat}{args:Array Operand}{tys:Array TypeId}{n:Nat}{r:Src}{ss:List Src}{sh:List (List Sh)}(hcst:∀d,J (.c d)=⟨true,d⟩)(hΓ:Ok C.P C.ν C.dr Y)(hef:C.dr.contains (2*n+1)=true)
  (ho:o.op=.call {callee:=.value (.func fid),args,argTypes:=tys}) (h1:dI C.ν fid=some n) (h2:C.yv defs args.toList=some (r::ss)) (hρ:BI C defs J ev x o.op.operands.toList) (hob:(bd.callF n r ss sh).ff Y J m) (hs:ie C.ν x f)
  (hag:KM f m ((bd.callF n r ss sh).pS J)):
  iu C.P x (Goal C.ν x (lz f ((bd.callF n r ss sh).wr J L) ((bd.callF n r ss sh).dr Y J m L)) L ((bd.callF n r ss sh).val Y J m L)) ((execOp ev o).run C.P x.w):=by
 obtain⟨k0,k1,k2,k3⟩:=hob;have hv:=hρ (.func fid) (by simp[ho,Op.operands,Call.operands]) (.c (.fn n [])) (by simp[CC.src,h1]) (by rw[hcst]);rw[hcst]at hv;obtain⟨s1,s2,s3⟩:=jt hρ _ _ (fun o' ho'=>by simp only[ho,Op.operands,Call.operands];simp at ho'⊢;exact .inr ho') h2 ⟨k0,k1⟩;cases hd:(J r).d<;>simp only[hd]at k3;rename_i l k i o';obtain⟨rfl,rfl,k4,k5,k6,k7⟩:=k3;generalize hep:ev (.func fid)=vf at hv;cases hv with
 |fV=>exact absurd (hΓ.small _ _ h1) ae
 |mp=>exact absurd (hΓ.small _ _ h1) ae
 |bx=>exact absurd (hΓ.small _ _ h1) ae
 |fn fid' _ cs _ hν hl _=>
  have hcs:cs=#[]:=by apply Array.ext';simpa using hl
  subst hcs;have hrun:(execOp ev o).run C.P x.w=(callFunc fid' (args.map ev)).run C.P x.w:=by
   simp[execOp,ho,resolve,Deferred.ofValue,invoke,hep]
  rw[hrun];have hlk:f l=look m l:=hag l (by simp[hd,dK]);obtain⟨g1,g2,g3⟩:=xw hs hlk k4;have hb1:bG m l=[(bG m l).getD 0 .any]:=by
   match he:bG m l,k5 with
   |[e],_=>rfl
  have hsz:args.size=ss.length+1:=by simpa using s1
  have hdl:(j7 J ss).length=ss.length:=by
   have:=s2;simp only[j7,aM]at this;have h4:=s1;simp only[aM]at h4;omega
  obtain⟨p1,p2⟩:=FO [] [] sh (j7 J ss) k2;have hs0:ie C.ν x (fun _=>none):=hs.less fun _=>.inr (.inl rfl)
  have hget:∀q,(args.map ev).getD q undef=(args.toList.map ev).getD q undef:=fun q=>by rw[<-Array.toList_map,cS]
  obtain⟨a1,a2,a3⟩:=lD (m:=[]) hs0 (fun l h=>by simp[look]at h) sh (j7 J ss) (fun j=>(args.map ev).getD (j+1) undef) (fun j hj=>by
   have:=s3 (j+1) (by simp only[j7,aM];omega);rw[hget];simpa[j7]using this) p2
  have hle:Le (x.qo fun _=>none) x:=⟨fun b hb=>by
   rcases hb with h|⟨_,_,_,_,h⟩
   .exact h
   .exact absurd rfl h,fun _ _=>rfl,fun _ _ h=>h⟩
  have h0:RD C.ν x ((args.map ev).getD 0 undef) (.ptr l k 0 0):=by
   have:=s3 0 (by simp[j7]);rw[hget];simpa[j7,hd]using this
  rw[hb1]at g1;refine(hΓ.effF fid' n hν hef x f _ l k _ (jZ [] sh (j7 J ss)) (by simp[a1,hdl,hsz]) h0 (fun i hi=>(a3 i ae).mono hle) hs g1 k6 a2 k7).mono fun v x' h=>?_
  obtain⟨q1,q2,q3,q4⟩:=h;refine⟨q1,by simpa only[bd.val,hd]using q2,q3.less fun l'=>.inl ?_,fun l' _=>by rw[q4]⟩;simp only[lz,bd.wr,hd,dK,bd.dr,cT,dc];by_cases e:l'=l
  .rw[aC e,aC e,aC e]
  .rw[ar e,ar e]
def FE {o:Oper}{i:bd}(hc:C.op defs o=some i)(hncm:i.dT=false)(hΓ:Ok C.P C.ν C.dr Y)(hρ:BI C defs J ev x o.op.operands.toList)(hcst:∀d,J (.c d)=⟨true,d⟩)(hob:i.ff Y J m)(hs:ie C.ν x f)(hag:KM f m (i.pS J))(hL:x.β L=none):
  iu C.P x (Goal C.ν x (lz f (i.wr J L) (i.dr Y J m L)) L (i.val Y J m L)) ((execOp ev o).run C.P x.w):=by
 by_cases hp:i.pure=true
 .rw[adL hp,yI];exact(adC hcst hΓ.small hc hp hρ hob hs).rM
 .cases ho:o.op with
  |alloc t=>exact(aaH hc (.inl ⟨t,ho⟩) hρ hcst hob hs hL hΓ.bld).rM
  |box t p=>exact(aaH hc (.inr ⟨t,p,ho⟩) hρ hcst hob hs hL hΓ.bld).rM
  |buildSlice t n ps=>exact(aiv hc ho hρ hob hs hL).rM
  |load t p=>exact(adA hΓ.small hc ho hρ hob hs hag).rM
  |store t p q=>exact(aaM hc ho hρ hob hs hag).rM
  |makeSlice t a b=>exact(aiw hc ho hρ hob hs hL).rM
  |range t p=>exact(aaL hc ho hρ hob hs hL).rM
  |next it b=>
   cases b
   .simp[CC.op,ho]at hc
   .exact(adB hc ho hρ hob hs hag).rM
  |convert s d p=>
   have:(∃a,i=.s2b a)\/(∃a,i=.b2s a):=by
    simp only[CC.op,ho]at hc
    (repeat' split at hc)<;>simp only[bq,reduceCtorEq]at hc<;>subst hc<;>first
      |exact .inl ⟨_,rfl⟩
      |exact .inr ⟨_,rfl⟩
      |(exfalso;exact hp rfl)
   rcases this with⟨a,rfl⟩|⟨a,rfl⟩
   .exact(aix (i:=.s2b a) hc ho hρ hob hs hL).rM
   .exact(aiu hc ho hρ hob hs hag).rM
  |call c=>
   obtain⟨callee,args,argTypes⟩:=c;cases callee with
   |builtin bu=>
    cases bu with
    |append=>
     have hx:∃p q t u,args=#[p,q]/\argTypes=#[t,u]:=by
      simp only[CC.op,ho]at hc;split at hc
      .rename_i p q t u hargs htys;exact⟨p,q,t,u,by apply Array.ext';simpa using hargs,by apply Array.ext';simpa using htys⟩
      .cases hc
     obtain⟨p,q,t,u,rfl,rfl⟩:=hx;exact(ait hc ho hρ hob hs hag hL).rM
    |len=>
     exfalso;simp only[CC.op,ho]at hc
     (repeat' split at hc)<;>simp only[bq,reduceCtorEq]at hc<;>subst hc<;>exact hp rfl
    |min=>
     exfalso;simp only[CC.op,ho]at hc
     (repeat' split at hc)<;>simp only[bq,reduceCtorEq]at hc<;>subst hc<;>exact hp rfl
    |_=>simp[CC.op,ho]at hc
   |value fv=>
    cases fv with
    |func fid=>
     grind [CC.op,bd.dT,W4,aaJ]
    |tmp t=>
     simp only[CC.op,ho]at hc;split at hc
     .rename_i s ss h1 h2;split at hc
      .simp only[bq]at hc;subst hc;simp[bd.dT]at hncm
      .simp only[bq]at hc;subst hc;exact aaK hΓ ho h1 h2 hρ hob hs hag
     .cases hc
    |_=>simp[CC.op,ho]at hc
   |invoke r n=>simp[CC.op,ho]at hc
  |move p=>exfalso;simp only[CC.op,ho,eg]at hc;obtain⟨s,h1,rfl⟩:=hc;exact hp rfl
  |assign p=>exfalso;simp only[CC.op,ho,eg]at hc;obtain⟨s,h1,rfl⟩:=hc;exact hp rfl
  |nilCheck p=>exfalso;simp only[CC.op,ho,eg]at hc;obtain⟨s,h1,rfl⟩:=hc;exact hp rfl
  |unOp op t p=>exfalso;simp only[CC.op,ho,eg]at hc;obtain⟨s,h1,rfl⟩:=hc;exact hp rfl
  |extract p n=>exfalso;simp only[CC.op,ho,eg]at hc;obtain⟨s,h1,rfl⟩:=hc;exact hp rfl
  |lookup t p q ok=>
   exfalso;cases ok with
   |true=>simp[CC.op,ho]at hc
   |false=>
    simp only[CC.op,ho]at hc
    (repeat' split at hc)<;>simp only[bq,reduceCtorEq]at hc
    subst hc;exact hp rfl
  |binOp op t p q u=>
   exfalso;simp only[CC.op,ho]at hc
   (repeat' split at hc)<;>simp only[bq,reduceCtorEq]at hc<;>subst hc<;>first
     |exact hp rfl
     |(simp[bd.dT]at hncm;done)
  |makeFunc fn fst caps=>
   exfalso;cases fn<;>simp only[CC.op,ho]at hc<;>try(cases hc;done)
   (repeat' split at hc)<;>(try simp only[bq,reduceCtorEq]at hc)<;>first
     |(subst hc;exact hp rfl)
     |exact hc.elim
     |(simp only[eg]at hc;obtain⟨_,_,rfl⟩:=hc;exact hp rfl)
  |_=>
   exfalso;simp only[CC.op,ho]at hc
   (try cases hc)<;>(repeat' split at hc)<;>(try simp only[bq,reduceCtorEq,eg]at hc)<;>first
     |(subst hc;exact hp rfl)
     |(obtain⟨s,h1,rfl⟩:=hc;exact hp rfl)
     |exact hc.elim
     |cases hc
def iy (l k:Nat)(es:List D):∀ds:List D,(ij l k es ds).length=ds.length
 |[]=>rfl
 |d::r=>by simp[ij,iy l k es r]
def mg (l k:Nat)(es:List D):∀(ds:List D) (i:Nat),(ij l k es ds).getD i .any=ig l k es (ds.getD i .any)
 |[],i=>by simp[ij,ig]
 |d::r,0=>by simp[ij]
 |d::r,i+1=>by simpa[ij]using mg l k es r i
def RD.fz {ν:List (Nat×Nat)}{x x':X}{l k:Nat}{es:List D}(hle:Le x x')(hn:bK es=true)
  (ho:∀b base tot,x.β l=some (b,base,tot)->x'.I b/\(∀i,i<es.length->(es.getD i .any).cells.length=k)/\∃c:Nat->Nat->Value,∀i j,i<es.length->j<k->
    x'.w.cell? ⟨b,base+i*k+j,none⟩=some (c i j)/\(c i j).oneCell'=true/\RD ν x' (c i j) ((es.getD i .any).cells.getD j .any)) {v:Value} {d:D} (h:RD ν x v d):RD ν x' v (ig l k es d):=by
 induction h with
 |any v=>exact .any v
 |bool b=>exact .bool b
 |int k n=>exact .int k n
 |str s h=>exact .str s h
 |agg cs ds hl' h1 _ ih=>exact .agg cs _ (by rw[iy];exact hl') (fun i hi=>h1 i (by rwa [iy]at hi)) fun i hi=>by rw[mg];exact ih i (by rwa [iy]at hi)
 |tup cs ds hl' _ ih=>exact .tup cs _ (by rw[iy];exact hl') fun i hi=>by rw[mg];exact ih i (by rwa [iy]at hi)
 |bg=>exact .bg
 |sl a b off len cap k' es' c hlen ha hcap hm hk hn' hc h1 h _=>exact(RD.sl a b off len cap k' es' c hlen ha hcap hm hk hn' hc h1 h).mono hle
 |ref b off k' i o at_ es' c hI hat hk hn' hc h1 h _=>exact(RD.ref b off k' i o at_ es' c hI hat hk hn' hc h1 h).mono hle
 |ptr l' k' i o b base tot at_ hβ hat=>
  simp only[ig];split
  .rename_i hh;obtain⟨rfl,rfl⟩:=hh;obtain⟨o1,o2,c,o3⟩:=ho b base tot hβ;exact .ref b base k' i o at_ es c o1 hat o2 (fun i _=>dC hn i) (fun i j hi hj=>(o3 i j hi hj).1) (fun i j hi hj=>(o3 i j hi hj).2.1) (fun i j hi hj=>(o3 i j hi hj).2.2)
  .exact .ptr l' k' i o b base tot at_ (hle.β _ _ hβ) hat
 |own l' k' i n b base tot cap a hβ ha hcap hm ht=>
  simp only[ig];split
  .rename_i hh;obtain⟨rfl,rfl,hin⟩:=hh;obtain⟨o1,o2,c,o3⟩:=ho b base tot hβ;have hg:∀q,q<n->((es.drop i).take n).getD q .any=es.getD (i+q) .any:=fun q hq=>by
    simp[List.getD,List.getElem?_take,hq]
   have hlen:((es.drop i).take n).length=n:=dk;refine .sl (some a) b (base+i*k') n cap k' _ (fun q j=>c (i+q) j) hlen.symm ?_ hcap hm (fun q hq=>by rw[hg q hq];exact o2 _ ae) (fun q hq=>by rw[hg q hq];exact dC hn _)
    (fun q j hq hj=>?_) (fun q j hq hj=>(o3 (i+q) j ae hj).2.1) (fun q j hq hj=>by rw[hg q hq];exact(o3 (i+q) j ae hj).2.2)
   .by_cases hc0:0<cap
    .right;rw[ha hc0];exact⟨rfl,o1⟩
    .left;apply nO;omega
   .have:=(o3 (i+q) j ae hj).1;rw[<-this];congr 2;rw[Nat.add_mul];omega
  .exact .own l' k' i n b base tot cap a (hle.β _ _ hβ) ha hcap hm ht
 |own0 l' k' i a=>
  simp only[ig];split
  .rename_i hh;simp only[List.take_zero];exact .sl a 0 0 0 0 k [] (fun _ _=>undef) rfl (.inl rfl) (aH _) (Nat.zero_le _) (fun i hi=>ae) (fun i hi=>ae) (fun i j hi=>ae) (fun i j hi=>ae) (fun i j hi=>ae)
  .exact .own0 l' k' i a
 |nilp=>exact .nilp
 |fn fid n cs ds hν hl' _ ih=>exact .fn fid n cs _ hν (by rw[iy];exact hl') fun i hi=>by rw[mg];exact ih i (by rwa [iy]at hi)
 |mp r es' cl ds hI hh hl' _ ih=>exact .mp r es' cl _ (hle.I _ hI) ((hle.qw _ hI).trans hh) (by rw[iy];exact hl') fun i hi=>by rw[mg];exact ih i (by rwa [iy]at hi)
 |bx b at_ ds v hI hc h1 hl' _ ih=>exact .bx b at_ _ v (hle.I _ hI) (im (hle.qw _ hI) hc) h1 (by rw[iy];exact hl') fun i hi=>by rw[mg];exact ih i (by rwa [iy]at hi)
 |fV fid n cs ds hν hl' _ ih=>exact .fV fid n cs _ hν (by rw[iy];exact hl') fun i hi=>by rw[mg];exact ih i (by rwa [iy]at hi)
 |nilf=>exact .nilf
 |it l b base tot hβ=>exact .it l b base tot (hle.β _ _ hβ)
def EU {J:Src->cA}:∀(ps:List (Nat×Src)) (l:List D),(pF J l ps).length=l.length
 |[],l=>rfl
 |(i,s)::r,l=>by simp only[pF];rw[EU r];simp
def iu.re {P:Program}{x:X}{Q Q':Value->X->Prop}{r:Result Next}(h:iu P x Q r)(hq:∀v x',Q v x'->∃x'',x''.w=x'.w/\Q' v x''):iu P x Q' r:=by
 rcases h with⟨v,x',h1,h2⟩|⟨f',args',h1,h2⟩
 .obtain⟨x'',e,h3⟩:=hq v x' h2;exact .inl ⟨v,x'',by rw[e];exact h1,h3⟩
 .refine .inr ⟨f',args',h1,Calls.mono h2 fun e w' he=>?_⟩
  grind
def Goal.ice {x x':X}{f:Nat->Option cr}{L k n:Nat}{es:List D}{v:Value}(hg:Goal ν x (lz f [L] (ep m L (.buf k es))) L (.own L k 0 n) v x')(hn:bK es=true)(hlen:es.length=n)(hL:x.β L=none)(hfL:f L=none):∃x'',x''.w=x'.w/\Goal ν x f L (.sl k es) v x'':=by
 obtain⟨h1,h2,h3,h4⟩:=hg;have hlk:lz f [L] (ep m L (.buf k es)) L=some (.buf k es):=by simp[lz,dc]
 let x'':X:=⟨x'.w,fun b=>x'.I b\/∃p,x'.β L=some p/\p.1=b,x'.β⟩
 have hle:Le x' x'':=⟨fun _ h=>.inl h,fun _ _=>rfl,fun _ _ h=>h⟩;have ho:∀b base tot,x'.β L=some (b,base,tot)->x''.I b/\(∀i,i<es.length->(es.getD i .any).cells.length=k)/\∃c:Nat->Nat->Value,∀i j,i<es.length->j<k->
   x''.w.cell? ⟨b,base+i*k+j,none⟩=some (c i j)/\(c i j).oneCell'=true/\RD ν x'' (c i j) ((es.getD i .any).cells.getD j .any):=by
  intro b base tot hβ;obtain⟨o1,o2,o3,c,T,fr,o4,o5,o6,o7⟩:=h3.own L _ b base tot hlk hβ;refine⟨.inr ⟨_,hβ,rfl⟩,fun i hi=>(o7 i hi).1,fun i j=>c.getD (base+i*k+j) undef,fun i j hi hj=>⟨?_,((o7 i hi).2 j hj).1,((o7 i hi).2 j hj).2.mono hle⟩⟩;exact cell_of_heap o4 (by have:=kP (tot:=tot) (show i<tot by omega) hj;omega)
 have hrd:RD ν x'' v (.sl k es):=by
  have:=h2.fz (x':=x'') (l:=L) (k:=k) (es:=es) hle hn ho;simpa[ig,hlen,fq]using this
 have hnew:∀b,(∃p,x'.β L=some p/\p.1=b)->x.w.heap.size<=b\/∃l p,x.β l=some p/\p.1=b:=by
  rintro b ⟨p,e1,e2⟩;rcases h1.newβ L p e1 with h|h|⟨l',p',h,h'⟩
  .rw[hL]at h;cases h
  .exact .inl (e2▸h)
  .exact .inr ⟨l',p',h,h'.trans e2⟩
 refine⟨x'',rfl,⟨h1.os,h1.tape,h1.output,h1.size,fun b hb=>.inl (h1.I b hb),h1.qw,h1.β,h1.old,fun b hb=>?_,h1.newβ⟩,hrd,⟨fun l' blk b base tot e1 e2=>?_,fun l1 l2 b base tot base' tot' e1 e2 e3 e4=>?_,fun b hb=>?_,h3.fV,uC hle h3.gd⟩,h4⟩
 .rcases hb with hb|hb
  .exact h1.newI b hb
  .exact .inr (hnew b hb)
 .have hne:l'≠L:=by rintro rfl;rw[hfL]at e1;cases e1
  have e1':lz f [L] (ep m L (.buf k es)) l'=some blk:=by simp[lz,hne,e1]
  obtain⟨o1,o2⟩:=h3.own l' blk b base tot e1' e2;refine⟨?_,o2.mono hle rfl⟩;rintro(hb|⟨⟨b',base',tot'⟩,q1,q2⟩)
  .exact o1 hb
  .simp only at q2;subst q2;exact hne (h3.inj l' L b' base tot base' tot' (by rw[e1'];simp) (by rw[hlk];simp) e2 q1)
 .have hn1:∀l,f l≠none->lz f [L] (ep m L (.buf k es)) l≠none:=fun l hl=>by
   have hne:l≠L:=by rintro rfl;exact hl hfL
   simpa[lz,hne]using hl
  exact h3.inj l1 l2 b base tot base' tot' (hn1 _ e1) (hn1 _ e2) e3 e4
 .rcases hb with hb|⟨⟨b',base',tot'⟩,q1,q2⟩
  .exact h3.imm b hb
  .simp only at q2;subst q2;exact h3.fV L _ _ _ q1
def OpX (C:CC)(defs:List (Option Nat))(o:Oper)(i:bd):Prop:=C.op defs o=some i\/(∃n ag p,i=.ldI n ag p/\C.op defs o=some (.ld n ag p))\/(∃k y,i=.appN k y/\C.op defs o=some (.app k (.c .bg) y))\/(∃k z n ps,i=.bslI k z n ps/\C.op defs o=some (.bsl k z n ps))\/∃n ag p,i=.ldU n ag p/\C.op defs o=some (.ld n ag p)
def JK {o:Oper}{i:bd}(hc:OpX C defs o i)(hncm:i.dT=false)(hΓ:Ok C.P C.ν C.dr Y)(hρ:BI C defs J ev x o.op.operands.toList)(hcst:∀d,J (.c d)=⟨true,d⟩)(hob:i.ff Y J m)(hs:ie C.ν x f)(hag:KM f m (i.pS J))(hL:x.β L=none)(hfL:f L=none):
  iu C.P x (Goal C.ν x (lz f (i.wr J L) (i.dr Y J m L)) L (i.val Y J m L)) ((execOp ev o).run C.P x.w):=by
 rcases hc with hc|⟨n,ag,p,rfl,hc⟩|⟨k,y,rfl,hc⟩|⟨k,z,n,ps,rfl,hc⟩|⟨n,ag,p,rfl,hc⟩
 .exact FE hc hncm hΓ hρ hcst hob hs hag hL
 rotate_left 3
 .obtain⟨k1,k2⟩:=hob;have hob':(bd.ld n ag p).ff Y J m:=by
   simp only[bd.ff];cases hd:(J p).d<;>simp only[hd]at k2<;>simp only[KP]
   .exact⟨k1,k2⟩
   .exact⟨k1,k2.1⟩
  have h:=FE (i:=bd.ld n ag p) (L:=L) hc rfl hΓ hρ hcst hob' hs hag hL;exact h
 rotate_left;rotate_left
 .obtain⟨k1,k2,k3⟩:=hob;have hob':(bd.bsl k z n ps).ff Y J m:=⟨k1,k2⟩;have:=FE (L:=L) hc rfl hΓ hρ hcst hob' hs (by simp[bd.pS,KM]) hL;refine this.re fun v x' hg=>?_
  exact hg.ice k3 (by rw[EU,List.length_replicate]) hL hfL
 rotate_left
 .obtain⟨k1,k2,k3⟩:=hob;have hob':(bd.app k (.c .bg) y).ff Y J m:=by simp only[bd.ff,hcst];exact⟨trivial,k1,k2,k3⟩
  have:=FE (L:=L) hc rfl hΓ hρ hcst hob' hs (by simpa[bd.pS,hcst,dK]using hag) hL;have e1:(bd.appN k y).val Y J m L=(bd.app k (.c .bg) y).val Y J m L:=by simp[bd.val,hcst]
  have e2:(bd.appN k y).wr J L=(bd.app k (.c .bg) y).wr J L:=by simp[bd.wr,hcst,dK]
  have e3:(bd.appN k y).dr Y J m L=(bd.app k (.c .bg) y).dr Y J m L:=by simp[bd.dr,hcst]
  rw[e1,e2,e3];exact this
 .obtain⟨k1,k2⟩:=hob;cases hd:(J p).d<;>simp only[hd]at k2;all_goals
   have hob':(bd.ld n ag p).ff Y J m:=by simp only[bd.ff,hd,KP];exact⟨k1,k2⟩
   have:=FE (L:=L) hc rfl hΓ hρ hcst hob' hs (by simp[bd.pS,hd,dK,KM]) hL;have e1:(bd.ldI n ag p).val Y J m L=(bd.ld n ag p).val Y J m L:=by simp[bd.val,hd,G6]
   rw[e1];exact this
end
end
section
variable [df]
section
variable {C:CC} {Y:Ctx}
def rW:∀(l:List Nat) (t n:Nat),Cv l t=some n->l[n]? =some t
 |[],t,n,h=>by simp[Cv]at h
 |a::r,t,n,h=>by
  simp only[Cv]at h;split at h
  .grind
  .simp only[eg]at h;obtain⟨k,h1,rfl⟩:=h;simpa using rW r t k h1
def Jz:∀(l:List Nat) (t n:Nat),l.Nodup->l[n]? =some t->Cv l t=some n
 |[],t,n,_,h=>by simp at h
 |a::r,t,0,_,h=>by simp at h;simp[Cv,h]
 |a::r,t,n+1,hn,h=>by
  simp only[List.getElem?_cons_succ]at h;rw[List.nodup_cons]at hn;have:a≠t:=fun e=>hn.1 (e▸List.mem_of_getElem? h)
  simp[Cv,this,Jz r t n hn.2 h]
def FL:∀(l:List (Option Nat)) (t p:Nat),posOf t l=some p->l[p]? =some (some t)
 |[],t,n,h=>by simp[posOf]at h
 |a::r,t,n,h=>by
  simp only[posOf]at h;split at h
  .grind
  .simp only[eg]at h;obtain⟨k,h1,rfl⟩:=h;simpa using FL r t k h1
def FK:∀(l:List (Option Nat)) (t:Nat),posOf t l=none->∀p:Nat,l[p]? ≠some (some t)
 |[],t,h,p=>aI
 |a::r,t,h,p=>by
  simp only[posOf]at h;split at h
  .cases h
  .rename_i e;simp only[Option.map_eq_none_iff]at h;cases p with
   |zero=>simpa using e
   |succ p=>simpa using FK r t h p
structure Spec (C:CC)(ops:List Oper)(l:List GI):Prop where
 len:l.length=ops.length
 op:∀(i:Nat) (o:Oper),ops[i]? =some o->∃g,l[i]? =some g/\OpX C ((ops.map (·.dst)).take i) o g.i/\CC.guard ((ops.map (·.dst)).take i) o.guard=some g.g
 dst:∀(i:Nat) (o:Oper) (d:Nat),ops[i]? =some o->o.dst=some d->d<C.ntmps/\∀p:Nat,p<i->(ops.map (·.dst))[p]? ≠some (some d)
def Ml:∀(ops pre:List Oper) (l lp:List GI),Spec C pre lp->C.ops (pre.map (·.dst)) ops=some l->Spec C (pre++ops) (lp++l)
 |[],pre,l,lp,hp,h=>by simp[CC.ops]at h;subst h;simpa using hp
 |o::r,pre,l,lp,hp,h=>by
  simp only[CC.ops]at h;split at h
  .rename_i i g l' h1 h2 h3;split at h
   .rename_i hd;simp only[bq]at h;subst h;have hp':Spec C (pre++[o]) (lp++[⟨i,g⟩]):=by
     have hl:=hp.len;refine⟨by simp[hl],fun j o' ho'=>?_,fun j o' d ho' hd'=>?_⟩
     .rw[List.getElem?_append]at ho';split at ho'
      .rename_i hj;obtain⟨g',a1,a2,a3⟩:=hp.op j o' ho';have e:((pre++[o]).map (·.dst)).take j=(pre.map (·.dst)).take j:=by rw[List.map_append,List.take_append_of_le_length dk]
       rw[e];exact⟨g',by rw[List.getElem?_append_left ae];exact a1,a2,a3⟩
      .rename_i hj;obtain rfl:j=pre.length:=by
        have:=(List.getElem?_eq_some_iff.1 ho').1;simp at this;omega
       simp at ho';subst ho';have e:((pre++[o]).map (·.dst)).take pre.length=pre.map (·.dst):=aI;rw[e];exact⟨⟨i,g⟩,by rw[<-hl];simp,.inl h1,h2⟩
     .rw[List.getElem?_append]at ho';split at ho'
      .rename_i hj;obtain⟨a1,a2⟩:=hp.dst j o' d ho' hd';refine⟨a1,fun p hpj=>?_⟩;rw[List.map_append,List.getElem?_append_left dk];exact a2 p hpj
      .rename_i hj;obtain rfl:j=pre.length:=by
        have:=(List.getElem?_eq_some_iff.1 ho').1;simp at this;omega
       simp at ho';subst ho';simp only[hd',Option.all_some,bM,bh,bE,List.contains_eq_mem,bC]at hd;refine⟨hd.1,fun p hpj=>?_⟩;rw[List.map_append,List.getElem?_append_left dk];exact fun e=>hd.2 (List.mem_of_getElem? e)
    have:=Ml r (pre++[o]) l' (lp++[⟨i,g⟩]) hp' (by simpa using h3);simpa using this
   .cases h
  .cases h
def Spec.start {ops:List Oper}{l:List GI}(h:C.ops [] ops=some l):Spec C ops l:=by
 have:=Ml (C:=C) ops [] l [] ⟨rfl,fun i o h=>by simp at h,fun i o d h=>by simp at h⟩ (by simpa using h);simpa using this
theorem abO (i:bd):i.toN=i\/∃k y,i=.app k (.c .bg) y/\i.toN=.appN k y:=by
 unfold bd.toN
 grind
def Fk (bs:List Nat)(l0:List GI):∀(l:List GI) (p i:Nat) (g:GI),l[i]? =some g->∃g',(pk bs l0 p l)[i]? =some g'/\g'.g=g.g/\(g'.i=g.i\/(∃n ag x,g.i=.ld n ag x/\g'.i=.ldI n ag x)\/(∃k y,g.i=.app k (.c .bg) y/\g'.i=.appN k y)\/(∃k z n ps,g.i=.bsl k z n ps/\g'.i=.bslI k z n ps)\/∃n ag x,g.i=.ld n ag x/\g'.i=.ldU n ag x)
 |[],p,i,g,h=>by simp at h
 |a::r,p,0,g,h=>by
  grind [pk,abO]
 |a::r,p,i+1,g,h=>by
  simp only[pk,List.getElem?_cons_succ]at h⊢;exact Fk bs l0 r (p+1) i g h
def Fl (bs:List Nat)(l0:List GI):∀(l:List GI) (p:Nat),(pk bs l0 p l).length=l.length
 |[],p=>rfl
 |a::r,p=>by simp only[pk,aM,Fl bs l0 r (p+1)]
theorem Spec.pk {ops:List Oper}{l:List GI}(bs:List Nat)(h:Spec C ops l):Spec C ops (pk bs l 0 l):=by
 refine⟨by rw[Fl];exact h.len,fun i o ho=>?_,h.dst⟩;obtain⟨g,h1,h2,h3⟩:=h.op i o ho;obtain⟨g',a1,a2,a3⟩:=Fk bs l l 0 i g h1;refine⟨g',a1, ?_,by rw[a2];exact h3⟩;rcases a3 with e|⟨n,ag,x,e1,e2⟩|⟨k,y,e1,e2⟩|⟨k,z,n,ps,e1,e2⟩|⟨n,ag,x,e1,e2⟩
 .rw[e];exact h2
 .rw[e1]at h2;rcases h2 with h2|⟨n',ag',p',h4,_⟩|⟨k',y',h4,_⟩|⟨_,_,_,_,h4,_⟩|⟨_,_,_,h4,_⟩
  .exact .inr (.inl ⟨n,ag,x,e2,h2⟩)
  all_goals cases h4
 .rw[e1]at h2;rcases h2 with h2|⟨n',ag',p',h4,_⟩|⟨k',y',h4,_⟩|⟨_,_,_,_,h4,_⟩|⟨_,_,_,h4,_⟩
  .exact .inr (.inr (.inl ⟨k,y,e2,h2⟩))
  all_goals cases h4
 .rw[e1]at h2;rcases h2 with h2|⟨n',ag',p',h4,_⟩|⟨k',y',h4,_⟩|⟨_,_,_,_,h4,_⟩|⟨_,_,_,h4,_⟩
  .exact .inr (.inr (.inr (.inl ⟨k,z,n,ps,e2,h2⟩)))
  all_goals cases h4
 .rw[e1]at h2;rcases h2 with h2|⟨n',ag',p',h4,_⟩|⟨k',y',h4,_⟩|⟨_,_,_,_,h4,_⟩|⟨_,_,_,h4,_⟩
  .exact .inr (.inr (.inr (.inr ⟨n,ag,x,e2,h2⟩)))
  all_goals cases h4
def Spec.distinct {ops:List Oper}{l:List GI}(h:Spec C ops l){i p d:Nat}(hi:(ops.map (·.dst))[i]? =some (some d))(hp:(ops.map (·.dst))[p]? =some (some d)):p=i:=by
 rw[List.getElem?_map,eg]at hi hp;obtain⟨oi,hi1,hi2⟩:=hi;obtain⟨op,hp1,hp2⟩:=hp;rcases Nat.lt_trichotomy p i with h1|h1|h1
 .exact absurd (by rw[List.getElem?_map,hp1,Option.map_some,hp2]) ((h.dst i oi d hi1 hi2).2 p h1)
 .exact h1
 .exact absurd (by rw[List.getElem?_map,hi1,Option.map_some,hi2]) ((h.dst p op d hp1 hp2).2 i h1)
structure GP (C:CC)(env:List cA)(DD:List (Option Nat))(VS:List cA)(D:Nat->Prop)(a:Act)(x:X):Prop where
 val:∀p t:Nat,D p->DD[p]? =some (some t)->(VS.getD p .un).ok=true->RD C.ν x (a.tmps.getD t undef) (VS.getD p .un).d
 und:∀p t:Nat,D p->DD[p]? =some (some t)->(VS.getD p .un).ok=false->a.tmps.getD t undef=undef
 old:∀n t:Nat,C.slots[n]? =some t->(∀p,D p->DD[p]? ≠some (some t))->(env.getD n .un).ok=true->RD C.ν x (a.tmps.getD t undef) (env.getD n .un).d
 size:a.tmps.size=C.ntmps
 defers:a.defers=[]
def aa8 (a:Act)(d:Nat)(v:Value)(t:Nat)(h:d<a.tmps.size):(a.put (some d) v).tmps.getD t undef=if t=d then v else a.tmps.getD t undef:=by
 simp only[Act.put,Array.getD_eq_getD_getElem?]
 grind
def GP.put {env:List cA}{DD:List (Option Nat)}{VS:List cA}{D D':Nat->Prop}{a:Act}{x x':X}{i:Nat}{dst:Option Nat}{v:Value}(h:GP C env DD VS D a x)(hle:Le x x')(hd:DD[i]? =some dst)
  (hdst:∀t,dst=some t->t<C.ntmps/\∀p,p≠i->DD[p]? ≠some (some t)) (hv:(VS.getD i .un).ok=true->RD C.ν x' v (VS.getD i .un).d) (hu:(VS.getD i .un).ok=false->v=undef)
  (hD:∀p,D' p↔D p\/p=i):GP C env DD VS D' (a.put dst v) x':=by
 cases dst with
 |none=>
  have hne:∀p t,DD[p]? =some (some t)->p≠i:=fun p t e e'=>by subst e';rw[hd]at e;simp at e
  refine⟨fun p t hp e ho=>?_,fun p t hp e ho=>?_,fun n t hn hp ho=>?_,h.size,h.defers⟩
  .exact(h.val p t (((hD p).1 hp).resolve_right (hne p t e)) e ho).mono hle
  .exact h.und p t (((hD p).1 hp).resolve_right (hne p t e)) e ho
  .exact(h.old n t hn (fun p hp'=>hp p ((hD p).2 (.inl hp'))) ho).mono hle
 |some d=>
  obtain⟨h1,h2⟩:=hdst d rfl;have hg:=aa8 a d v (h:=by rw[h.size];exact h1);refine⟨fun p t hp e ho=>?_,fun p t hp e ho=>?_,fun n t hn hp ho=>?_,by simp[Act.put,h.size],h.defers⟩
  .by_cases hpi:p=i
   .subst hpi;rw[hd]at e;simp only[bq]at e;subst e;rw[hg,aC rfl];exact hv ho
   .have:t≠d:=fun e'=>h2 p hpi (e'▸e)
    rw[hg,ar this];exact(h.val p t (((hD p).1 hp).resolve_right hpi) e ho).mono hle
  .by_cases hpi:p=i
   .subst hpi;rw[hd]at e;simp only[bq]at e;subst e;rw[hg,aC rfl];exact hu ho
   .have:t≠d:=fun e'=>h2 p hpi (e'▸e)
    rw[hg,ar this];exact h.und p t (((hD p).1 hp).resolve_right hpi) e ho
  .have:t≠d:=fun e'=>hp i ((hD i).2 (.inr rfl)) (by rw[hd,e'])
   rw[hg,ar this];exact(h.old n t hn (fun p hp'=>hp p ((hD p).2 (.inl hp'))) ho).mono hle
def getD_take {α:Type}(l:List α)(i p:Nat)(d:α)(h:p<i):(l.take i).getD p d=l.getD p d:=by
 simp[List.getD,List.getElem?_take,h]
def GP.rho {env:List cA}{DD:List (Option Nat)}{VS:List cA}{D:Nat->Prop}{a:Act}{x:X}{i:Nat}{os:List Operand}(h:GP C env DD VS D a x)
  (hr:∀t p,Operand.tmp t∈os->DD[p]? =some (some t)->(p<i->D p)/\(i<=p->¬D p)):BI C (DD.take i) (Src.ev env (VS.take i)) a.eval x os:=by
 intro o ho s hs hok;cases o with
 |tmp t=>
  simp only[CC.src]at hs;split at hs
  .rename_i p hp;simp only[bq]at hs;subst hs;have hp1:=FL _ _ _ hp;rw[List.getElem?_take]at hp1;split at hp1
   .rename_i hpi;simp only[Src.ev]at hok⊢;rw[getD_take _ _ _ _ hpi]at hok⊢;exact h.val p t ((hr t p ho hp1).1 hpi) hp1 hok
   .cases hp1
  .rename_i hp;simp only[eg]at hs;obtain⟨n,h1,rfl⟩:=hs;simp only[Src.ev]at hok⊢;refine h.old n t (rW _ _ _ h1) (fun p hp' e=>?_) hok;by_cases hpi:p<i
   .exact FK _ _ hp p (by rw[List.getElem?_take,aC hpi];exact e)
   .exact(hr t p ho e).2 ae hp'
 |const v=>
  simp only[CC.src,eg]at hs;obtain⟨d,h1,rfl⟩:=hs;exact pK v d h1
 |func f=>
  simp only[CC.src,eg]at hs;obtain⟨n,h1,rfl⟩:=hs;exact .fn f n #[] [] h1 rfl (fun i hi=>by simp at hi)
 |global g=>simp[CC.src]at hs
def agt {vs:List cA}{i:bd}{g:Option (Nat×Bool)}(h:gok vs i g):ze vs g:=by
 cases g with
 |none=>trivial
 |some jw=>exact h.2
def lS {env:List cA}{ops:Array Oper}{VS:List cA}{D:Nat->Prop}{a:Act}{x:X}{i:Nat}{o:Oper}{g:GI}(h:GP C env (ops.toList.map (·.dst)) VS D a x)
  (hg:CC.guard ((ops.toList.map (·.dst)).take i) o.guard=some g.g) (hD:∀j w,o.guard=some (j,w)->j<i->D j) (hgok:ze (VS.take i) g.g):Region.wanted o (yielded ops a.tmps)=flag (VS.take i) g.g:=by
 unfold Region.wanted;cases hog:o.guard with
 |none=>simp only[hog,CC.guard,bq]at hg;simp[<-hg,flag]
 |some jw=>
  obtain⟨j,w⟩:=jw;simp only[hog,CC.guard]at hg;split at hg
  .rename_i t hj;simp only[bq]at hg;rw[<-hg]at hgok⊢;rw[List.getElem?_take]at hj;split at hj
   .rename_i hji;have hDj:=hD j w hog hji;have hy:(ops[j]?).bind (·.dst)=some t:=by
     rw[List.getElem?_map,Array.getElem?_toList]at hj;cases ho:ops[j]? with
     |none=>simp[ho]at hj
     |some oj=>simpa[ho]using hj
    simp only[yielded,hy,Option.bind_some,flag,ze]at hgok⊢;rw[getD_take _ _ _ _ hji]at hgok⊢;cases hok:(VS.getD j .un).ok with
    |false=>
     have:=h.und j t hDj hj hok;simp only[Array.getD_eq_getD_getElem?]at this;cases ht:a.tmps[t]? with
     |none=>simp
     |some v=>simp only[ht,Option.getD_some]at this;subst this;simp[undef]
    |true=>
     have hb:=hgok hok;have hv:=h.val j t hDj hj hok;cases hd:(VS.getD j .un).d<;>simp only[hd,Go.Abs.D.isBool]at hb<;>try cases hb
     rename_i b;rw[hd]at hv;have hv:=hv.kU;simp only[Array.getD_eq_getD_getElem?]at hv;cases ht:a.tmps[t]? with
     |none=>simp[ht,undef]at hv
     |some v=>simp only[ht,Option.getD_some]at hv;subst hv;simp
   .cases hj
  .cases hg
end
end
section
variable [df]
section
variable {C:CC} {Y:Ctx} {J:Src->cA} {m:List (Nat×cr)} {L:Nat}
theorem AO {i:bd}{l:Nat}(h:l∉i.wr J L):look (i.dr Y J m L) l=look m l:=by
 cases i<;>simp only[bd.wr,ca,ek,or_false,not_or]at h<;>simp only[bd.dr]
 case box=>rw[dc,ar h]
 case mkB=>rw[dc,ar h]
 case bsl=>rw[dc,ar h]
 case mks=>rw[dc,ar h]
 case s2b x=>split<;>first|rw[dc,ar h]|rfl
 case appN k y=>rw[dc,ar h]
 case yn x=>split<;>first|rw[dc,ar h]|rfl
 case st n p v=>
  split
  .rename_i hd;rw[hd]at h;rw[dc,ar (by simpa[dK]using h)]
  .rfl
 case app k x y=>
  split
  .rename_i hd;rw[hd]at h;rw[dc,ar h.1,gU,ar (by simpa[dK]using h.2)]
  .rw[dc,ar h.1]
 case KQ x=>
  grind [dc,dK]
 case callF n r args sh=>
  split
  .rename_i hd;rw[hd]at h;rw[dc,ar (by simpa[dK]using h)]
  .rfl
theorem nR {i:bd}(h:i.calm=true){l:Nat}(hl:l∈i.wr J L):l=L:=by
 cases i<;>simp_all[bd.calm,bd.wr]
theorem jj {l k n:Nat}(h:gX m l k n):look m l≠none:=by
 intro e;simp[gX,e]at h
theorem aaE {i:bd}(h:i.ff Y J m){l:Nat}(hl:l∈i.wr J L):l=L\/look m l≠none:=by
 cases i<;>simp only[bd.wr,ca,ek,or_false]at hl<;>first
  |exact .inl hl
  |exact hl.elim
  |skip
 case st n p v=>
  right;obtain⟨_,_,_,h4⟩:=h;cases hd:(J p).d<;>simp only[hd,dK,cT]at h4 hl;subst hl;exact jj h4.1
 case app k x y=>
  rcases hl with hl|hl
  .exact .inl hl
  .right;obtain⟨_,_,_,h4⟩:=h;cases hd:(J x).d<;>simp only[hd,dK,cT,ek]at h4 hl;subst hl;exact jj h4.2.1
 case KQ x=>
  right;obtain⟨_,h4⟩:=h;cases hd:(J x).d<;>simp only[hd,dK,cT,ek]at h4 hl;subst hl;intro e;simp[e]at h4
 case callF n r args sh=>
  right;obtain⟨_,_,_,h4⟩:=h;cases hd:(J r).d<;>simp only[hd,dK,cT,ek]at h4 hl;subst hl;exact jj h4.2.2.1
def yV {i:bd}(h:i.calm=true\/i.ff Y J m){l:Nat}(hl:look (i.dr Y J m L) l≠none):look m l≠none\/l=L:=by
 grind [nR,aaE,AO]
omit [df]in
theorem aa6 {i:bd}(h:i.pure=true):i.dr Y J m L=m:=by
 cases i<;>simp_all[bd.pure,bd.dr]
omit [df]in
theorem Xa {i:bd}(h:i.pure=true):i.calm=true:=by
 cases i<;>simp_all[bd.pure,bd.calm]
def aa7 {i:bd}(h:i.pure=true):i.pS J=some []:=by
 cases i<;>simp_all[bd.pure,bd.pS]
def Wn {i:bd}(h:i.free=true):i.calm=true:=by
 cases i<;>simp_all[bd.free,bd.calm,bd.pure]
def acV {i:bd}(h:i.free=true):i.wr J L=[]:=by
 cases i<;>simp_all[bd.free,bd.wr,bd.pure]
def ZY {i:bd}(h:i.free=true):i.dr Y J m L=m:=by
 cases i<;>simp_all[bd.free,bd.dr,bd.pure]
def Ia {sh:List Sh}(h:sh.all Sh.isA=true):∀{d:D},kf m sh d->d.bN=true:=by
 have hL:∀(sh:List Sh) (ds:List D),sh.all Sh.isA=true->pI m sh ds->bK ds=true:=by
  intro sh;induction sh with
  |nil=>intro ds _ h;simpa[pI]using h
  |cons s r ih=>
   intro ds h ho;cases ds with
   |nil=>rfl
   |cons d ds=>
    grind [pI,Sh.isA,bK,oV]
 intro d ho;cases sh with
 |nil=>simpa[kf]using ho
 |cons s r=>
  have hs:s=.a:=by simp only[List.all_cons,bM]at h;cases s<;>simp_all[Sh.isA]
  cases d<;>simp only[kf]at ho<;>first
   |(subst hs;simpa[oV]using ho)
   |(rw[D.wo];exact hL _ _ h ho)
def Bq:∀{ss:List (List Sh)}{ds:List D},ss.all (fun s=>s.all Sh.isA)=true->lO m ss ds->bK ds=true
 |ss,[],_,_=>by simp[bK]
 |[],d::r,h,ho=>by
  simp only[lO]at ho;simp only[bK,bM];exact⟨Ia (sh:=[.a]) rfl ho.1,Bq (ss:=[]) rfl ho.2⟩
 |s::ss,d::r,h,ho=>by
  simp only[lO]at ho;simp only[List.all_cons,bM]at h;simp only[bK,bM];exact⟨Ia h.1 ho.1,Bq h.2 ho.2⟩
def ZZ {i:bd}(h:i.free=true)(ho:i.ff Y J m):i.pS J=some []:=by
 cases i<;>simp only[bd.free]at h<;>try(exact aa7 h)
 simp only[bd.pS,Bq h ho.2.1,cond_true]
def Fm {i:bd}(h:i.lM=true):i.calm=true:=by
 cases i<;>simp_all[bd.lM,bd.calm]
def WQ {i:bd}(h:i.lM=true):i.pS J=some []:=by
 cases i<;>simp_all[bd.lM,bd.pS]
theorem AP {k:Nat}{d:D}(h:Jo m k d){l:Nat}(hl:l∈dK d):look m l≠none:=by
 cases d<;>simp only[dK,cT,ek,Jo]at h hl;subst hl;exact jj h.2
def JH {i:bd}(h:i.ff Y J m){ls:List Nat}(hls:i.pS J=some ls){l:Nat}(hl:l∈ls):look m l≠none:=by
 cases i<;>simp only[bd.pS,bq,reduceCtorEq]at hls<;>first
  |(subst hls;exact absurd hl ek)
  |skip
 case ldU n ag p=>
  subst hls;obtain⟨_,h4⟩:=h;cases hd:(J p).d<;>simp only[hd,dK,cT,ek]at h4 hl;subst hl;exact jj h4.1.1
 case ld n ag p=>
  subst hls;obtain⟨_,h4⟩:=h;cases hd:(J p).d<;>simp only[hd,dK,cT,ek,KP]at h4 hl;subst hl;exact jj h4.1
 case st n p v=>
  subst hls;obtain⟨_,_,_,h4⟩:=h;cases hd:(J p).d<;>simp only[hd,dK,cT]at h4 hl;subst hl;exact jj h4.1
 case b2s x=>
  subst hls;exact AP h.2.2.1 hl
 case app k x y=>
  subst hls;obtain⟨_,_,h3,h4⟩:=h
  grind [dK,jj,AP]
 case appN k y=>
  subst hls;exact AP h.2.1 hl
 case KQ x=>
  subst hls;obtain⟨_,h4⟩:=h;cases hd:(J x).d<;>simp only[hd,dK,cT,ek]at h4 hl;subst hl;intro e;simp[e]at h4
 case call f args sh=>
  cases hn:bK (j7 J args)<;>simp only[hn,cond_true,cond_false,bq,reduceCtorEq]at hls;subst hls;exact absurd hl aI
 case callv f args sh=>
  grind
 case callF n r args sh=>
  subst hls;obtain⟨_,_,_,h4⟩:=h;cases hd:(J r).d<;>simp only[hd,dK,cT,ek]at h4 hl;subst hl;exact jj h4.2.2.1
omit [df]in
theorem Ie {draw:Bool}{i:bd}{g:Option (Nat×Bool)}{r:List GI}{env vs:List cA}{st:St}{K:List cA->St->Prop}(h:i.dT=false)(hf:i.uv draw g=true):
  iD Y draw (⟨i,g⟩::r) env vs st K=(ze vs g/\(flag vs g=true->i.ff Y (Src.ev env vs) st.m/\
     iD Y draw r env (vs++[⟨true,i.val Y (Src.ev env vs) st.m (st.nx+vs.length)⟩]) {st with m:=i.dr Y (Src.ev env vs) st.m (st.nx+vs.length)} K)/\
    (flag vs g=false->iD Y draw r env (vs++[⟨false,.any⟩]) st K)):=by
 cases i<;>first
  |(simp[bd.dT]at h;done)
  |(simp only[iD];rw[aC hf])
omit [df]in
theorem p7 {draw:Bool}{i:bd}{g:Option (Nat×Bool)}{r:List GI}{env vs:List cA}{st:St}{K:List cA->St->Prop}(h:i.dT=false)(hf:i.uv draw g=false):
  iD Y draw (⟨i,g⟩::r) env vs st K=(gok vs i g/\(flag vs g=true->i.ff Y (Src.ev env vs) st.m)/\
   ((flag vs g=true->i.KN draw (Src.ev env vs))->∃d,(flag vs g=true->i.val Y (Src.ev env vs) st.m (st.nx+vs.length)=d)/\
     iD Y draw r env (vs++[⟨flag vs g,d⟩]) {st with m:=i.dr Y (Src.ev env vs) st.m (st.nx+vs.length)} K)):=by
 cases i<;>first
  |(simp[bd.dT]at h;done)
  |(simp only[iD];rw[ar (by rw[hf];simp)])
def RD.agB {ν:List (Nat×Nat)}{x:X}{v:Value}{d:D}(h:RD ν x v d):(∀k es,d=.sl k es->es.length<=9223372036854775807)/\(∀l k i n,d=.own l k i n->n<=9223372036854775807)/\(∀s,d=.str s->s.length<=9223372036854775807):=by
 cases h<;>refine⟨?_, ?_, ?_⟩<;>intros<;>simp_all[maxLen]<;>omega
def Zv {i:bd}{draw:Bool}(h:∀s,(i=.len s\/i=.lenS s)->(draw=true->s.isS=true)->(J s).ok=true->∃ν x v,RD ν x v (J s).d):i.KN draw J:=by
 cases i<;>simp only[bd.KN]
 case len s=>
  cases hb:(draw&& !s.isS)<;>simp only[cond_true,cond_false];intro hok;obtain⟨ν,x,v,hr⟩:=h s (.inl rfl) (fun hd=>by simpa[hd]using hb) hok;obtain⟨a1,a2,a3⟩:=hr.agB
  grind
 case lenS s=>
  cases hb:(draw&& !s.isS)<;>simp only[cond_true,cond_false];intro hok;obtain⟨ν,x,v,hr⟩:=h s (.inr rfl) (fun hd=>by simpa[hd]using hb) hok;obtain⟨a1,a2,a3⟩:=hr.agB
  grind
def SA {defs:List (Option Nat)}{o:Oper}{s:Src}(hc:C.op defs o=some (.len s)\/C.op defs o=some (.lenS s)):∃p∈o.op.operands.toList,C.src defs p=some s:=by
 cases ho:o.op with
 |call c=>
  obtain⟨callee,args,argTypes⟩:=c;cases callee with
  |builtin bu=>
   cases bu with
   |len=>
    simp only[CC.op,ho]at hc;split at hc
    .rename_i p t hargs htys;refine⟨p,by simp[Op.operands,Call.operands,hargs], ?_⟩;split at hc<;>simp_all
    .simp at hc
   |min=>simp only[CC.op,ho]at hc;(repeat' split at hc)<;>simp_all
   |append=>simp only[CC.op,ho]at hc;(repeat' split at hc)<;>simp_all
   |_=>simp[CC.op,ho]at hc
  |value f=>
   grind [CC.op]
  |invoke r n=>simp[CC.op,ho]at hc
 |makeFunc fn fst caps=>cases fn<;>simp only[CC.op,ho]at hc<;>(repeat' split at hc)<;>simp_all
 |next it b=>cases b<;>simp[CC.op,ho]at hc
 |lookup t p q ok=>
  cases ok with
  |true=>simp[CC.op,ho]at hc
  |false=>simp only[CC.op,ho]at hc;(repeat' split at hc)<;>simp_all
 |_=>
  simp only[CC.op,ho]at hc
  (try(repeat' split at hc))<;>simp at hc
def JL {defs:List (Option Nat)}{o:Oper}{n:Nat}{ss:List Src}(hc:C.op defs o=some (.callM n ss)):
  ∃fid args tys,o.op=.call {callee:=.value (.func fid),args,argTypes:=tys}/\dI C.ν fid=some n/\C.dr.contains (2*n)=true/\C.yv defs args.toList=some ss:=by
 cases ho:o.op with
 |call c=>
  obtain⟨callee,args,argTypes⟩:=c
  grind [CC.op]
 |makeFunc fn fst caps=>cases fn<;>simp only[CC.op,ho]at hc<;>(repeat' split at hc)<;>simp_all
 |next it b=>cases b<;>simp[CC.op,ho]at hc
 |lookup t p q ok=>
  cases ok with
  |true=>simp[CC.op,ho]at hc
  |false=>simp only[CC.op,ho]at hc;(repeat' split at hc)<;>simp_all
 |_=>
  simp only[CC.op,ho]at hc
  (try(repeat' split at hc))<;>simp at hc
def Ha {defs:List (Option Nat)}{o:Oper}{fs:Src}{ss:List Src}(hc:C.op defs o=some (.callvM fs ss)):
  ∃t args tys,o.op=.call {callee:=.value (.tmp t),args,argTypes:=tys}/\C.src defs (.tmp t)=some fs/\C.yv defs args.toList=some ss:=by
 cases ho:o.op with
 |call c=>
  obtain⟨callee,args,argTypes⟩:=c
  grind [CC.op]
 |makeFunc fn fst caps=>cases fn<;>simp only[CC.op,ho]at hc<;>(repeat' split at hc)<;>simp_all
 |next it b=>cases b<;>simp[CC.op,ho]at hc
 |lookup t p q ok=>
  cases ok with
  |true=>simp[CC.op,ho]at hc
  |false=>simp only[CC.op,ho]at hc;(repeat' split at hc)<;>simp_all
 |_=>
  simp only[CC.op,ho]at hc
  (try(repeat' split at hc))<;>simp at hc
def aaI {x:X}{defs:List (Option Nat)}{ev:Operand->Value}{o:Oper}{n:Nat}{ss:List Src}{st:St}{K:D->St->Prop}(hcst:∀d,J (.c d)=⟨true,d⟩)(hΓ:Ok C.P C.ν C.dr Y)
  (hc:C.op defs o=some (.callM n ss)) (hρ:BI C defs J ev x o.op.operands.toList) (hok:Bj J ss) (hs:ie C.ν x (look st.m)) (hfr:ic st x) (htr:Y.tr n (j7 J ss) st K):
  iu C.P x (fun v x'=>∃d st',K d st'/\Step x x'/\RD C.ν x' v d/\ie C.ν x' (look st'.m)/\ic st' x') ((execOp ev o).run C.P x.w):=by
 obtain⟨fid,args,tys,ho,h1,h3,h2⟩:=JL hc;have hv:=hρ (.func fid) (by simp[ho,Op.operands,Call.operands]) (.c (.fn n [])) (by simp[CC.src,h1]) (by rw[hcst]);rw[hcst]at hv;obtain⟨s1,s2,s3⟩:=jt hρ _ _ (fun o' ho'=>by simp only[ho,Op.operands,Call.operands];simp at ho'⊢;exact .inr ho') h2 hok;generalize hep:ev (.func fid)=vf at hv;cases hv with
 |fV=>exact absurd (hΓ.small _ _ h1) ae
 |mp=>exact absurd (hΓ.small _ _ h1) ae
 |bx=>exact absurd (hΓ.small _ _ h1) ae
 |fn fid' _ cs _ hν hl _=>
  have hcs:cs=#[]:=by apply Array.ext';simpa using hl
  subst hcs;have hrun:(execOp ev o).run C.P x.w=(callFunc fid' (args.map ev)).run C.P x.w:=by
   simp[execOp,ho,resolve,Deferred.ofValue,invoke,hep]
  rw[hrun];refine hΓ.dr fid' n hν x _ (j7 J ss) st K (by simp;simpa using s2.symm) (fun i hi=>?_) hs hfr htr;have:=s3 i hi
  rwa [<-Array.toList_map,cS]at this
def adz {x:X}{defs:List (Option Nat)}{ev:Operand->Value}{o:Oper}{s:Src}(hcst:∀d,J (.c d)=⟨true,d⟩)
  (hc:C.op defs o=some (.isNl s)) (hρ:BI C defs J ev x o.op.operands.toList) (hok:(J s).ok=true) (hsl:slB (J s).d):
  ∃b,nlB (J s).d b/\(execOp ev o).run C.P x.w=.ok (.value (.bool b)) x.w:=by
 obtain⟨t,p,q,u,e,ho,h1,h2,hu⟩:∃t p q u e,o.op=.binOp .eql t p q u/\C.src defs p=some s/\C.src defs q=some (.c .bg)/\C.P.underlying t=some (.slice e):=by
  cases ho:o.op with
  |binOp op t p q u=>
   simp only[CC.op,ho]at hc
   (repeat' split at hc)<;>simp only[bq,reduceCtorEq,bd.isNl.injEq]at hc
   subst hc;exact⟨t,p,q,u,_,rfl,by assumption,by assumption,by assumption⟩
  |call c=>
   obtain⟨callee,args,argTypes⟩:=c
   grind [CC.op]
  |makeFunc fn fst caps=>cases fn<;>simp only[CC.op,ho]at hc<;>(repeat' split at hc)<;>simp_all
  |next it b=>cases b<;>simp[CC.op,ho]at hc
  |lookup t p q ok=>
   cases ok with
   |true=>simp[CC.op,ho]at hc
   |false=>simp only[CC.op,ho]at hc;(repeat' split at hc)<;>simp_all
  |_=>
   simp only[CC.op,ho]at hc
   (try(repeat' split at hc))<;>simp at hc
 have hv:=hρ p (by simp[ho,Op.operands]) s h1 hok;have hq:ev q=.slice none 0 0:=by
  have:=hρ q (by simp[ho,Op.operands]) (.c .bg) h2 (by rw[hcst]);rw[hcst]at this;generalize ev q=vq at this;cases this;rfl
 obtain⟨a,n,c,he,hb⟩:∃a n c,ev p=.slice a n c/\nlB (J s).d a.isNone:=by
  generalize (J s).d=d at hv hsl⊢;generalize ev p=vp at hv⊢;cases hv<;>simp only[slB]at hsl
  case bg=>exact⟨_,_,_,rfl,rfl⟩
  case sl ha _ _ _ _ _ _ _=>exact⟨_,_,_,rfl,fun hn=>ha.elim id fun h=>by rw[h.1]at hn;cases hn⟩
  case own=>exact⟨_,_,_,rfl,fun hn=>by cases hn⟩
  case own0=>exact⟨_,_,_,rfl,fun _=>rfl⟩
 exact⟨_,hb,rO (ev:=ev) ho (oM _ _ _ _ (by rw[he];exact⟨aI,aI⟩) _) (by rw[he,hq];exact Lib.run_eql_slice_nil x.w t e a n c 0 0 hu)⟩
def W5 {x:X}{defs:List (Option Nat)}{ev:Operand->Value}{o:Oper}{fs:Src}{n:Nat}{caps:List D}{ss:List Src}{st:St}{K:D->St->Prop}(hΓ:Ok C.P C.ν C.dr Y)
  (hc:C.op defs o=some (.callvM fs ss)) (hρ:BI C defs J ev x o.op.operands.toList) (hfo:(J fs).ok=true) (hd:(J fs).d=.fn n caps) (hn2:n<2000000) (hok:Bj J ss) (hs:ie C.ν x (look st.m)) (hfr:ic st x) (htr:Y.tr (G0 n) (EH n (j7 J ss) caps) st K):
  iu C.P x (fun v x'=>∃d st',K d st'/\Step x x'/\RD C.ν x' v d/\ie C.ν x' (look st'.m)/\ic st' x') ((execOp ev o).run C.P x.w):=by
 obtain⟨t,args,tys,ho,h1,h2⟩:=Ha hc;have hv:=hρ (.tmp t) (by simp[ho,Op.operands,Call.operands]) fs h1 hfo;rw[hd]at hv;obtain⟨s1,s2,s3⟩:=jt hρ _ _ (fun o' ho'=>by simp only[ho,Op.operands,Call.operands];simp at ho'⊢;exact .inr ho') h2 hok;have hsz:args.size=(j7 J ss).length:=by simpa using s2.symm
 generalize hep:ev (.tmp t)=vf at hv;cases hv with
 |mp=>exact absurd hn2 ae
 |bx=>exact absurd hn2 ae
 |fn fid' _ cs _ hν hl hcs=>
  have hn:=hΓ.small _ _ hν;have e1:G0 n=n:=by simp[G0,hn]
  have e2:EH n (j7 J ss) caps=j7 J ss++caps:=by simp[EH,hn]
  rw[e1,e2]at htr;have hrun:(execOp ev o).run C.P x.w=(callFunc fid' (args.map ev++cs)).run C.P x.w:=by
   simp[execOp,ho,resolve,Deferred.ofValue,invoke,hep]
  rw[hrun];refine hΓ.dr fid' n hν x _ (j7 J ss++caps) st K (by simp[hl,hsz]) (fun i hi=>?_) hs hfr htr;rw[pN,dN];simp only[Array.size_map,hsz];split
  .rename_i hlt;have:=s3 i hlt
   rwa [<-Array.toList_map,cS]at this
  .exact hcs _ (by simp at hi;omega)
 |fV fid' n' cs _ hν hl hcs=>
  have e1:G0 (n'+1000000)=n':=by unfold G0;rw[ar ae];omega
  have e2:EH (n'+1000000) (j7 J ss) caps=caps++j7 J ss:=by unfold EH;rw[ar ae]
  rw[e1,e2]at htr;have hrun:(execOp ev o).run C.P x.w=(callFunc fid' (cs++args.map ev)).run C.P x.w:=by
   simp[execOp,ho,resolve,Deferred.ofValue,invoke,hep]
  rw[hrun];refine hΓ.dr fid' n' hν x _ (caps++j7 J ss) st K (by simp[hl,hsz]) (fun i hi=>?_) hs hfr htr;rw[pN,dN];rw[hl];split
  .exact hcs i (by assumption)
  .have:=s3 (i-caps.length) (by simp at hi;omega)
   rwa [<-Array.toList_map,cS]at this
end
end
end Go.Abs
