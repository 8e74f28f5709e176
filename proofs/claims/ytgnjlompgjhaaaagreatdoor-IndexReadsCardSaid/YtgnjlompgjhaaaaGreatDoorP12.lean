/- For every text of at most eight hundred bytes the program's Parse of shelves answers as the reference's. -/
import Derived.Carry
import Derived.ChangeArms
import Derived.ChangeSame
import Derived.Deep.DeepHandedRow
import Derived.Lib.LaidTab
import Derived.OpenShut
import Derived.RowKit
import Derived.Shelf.Strings.Builder2
import Derived.Test.YtgnjlompgjhaaaaGreatDoorCards
import Derived.Test.YtgnjlompgjhaaaaGreatDoorTie
import Derived.WideKeyArgs
import Derived.WideShapes
import Derived.Test.YtgnjlompgjhaaaaGreatDoorP11
set_option linter.all false
set_option maxRecDepth 4000
namespace Go.Abs
section
open Go.Proofs Go.Shelf Go.RowKit
section
variable [dI] {P:Program}
def m4 (U:TypeId)(w:World)(v:Value)(s:List UInt8):Prop:=
 (v=.slice none 0 0/\s=[])\/∃g t c,v=.slice (some ⟨g,0,none⟩) s.length t/\w.heap[g]? =some (.cells c U (0,0))/\c.size=t/\t<=maxLen/\s.length<=t/\∀i,i<s.length->c.getD i undef=.int .u8 (s.getD i 0).toNat
def im (s:List UInt8):List Value:=s.map fun b=>Value.int .u8 b.toNat
def jd (s:List UInt8):(im s).length=s.length:=by simp[im]
theorem sN (s:List UInt8)(i:Nat)(h:i<s.length):(im s).getD i undef=.int .u8 (s.getD i 0).toNat:=by simp[im,List.getD,h]
def yS (s:List UInt8):∀u∈im s,u.oneCell'=true:=by
 intro u hu;obtain⟨b,_,rfl⟩:=gD.1 hu;rfl
def Jm {x y:List UInt8}{zs:Array Value}(i:Nat)(hi:i<(x++y).length):(((im x++im y).toArray++zs).getD i undef)=.int .u8 ((x++y).getD i 0).toNat:=by
 rw[<-cA]
 grind [dx,im,sN]
def Q5 {U t u ty:TypeId}{i:TypeInfo}{w:World}(ht:P.underlying t=some (.slice U))(hi:P.info? U=some i)(hz:i.zero=some (.int .u8 0))(hs:i.size=1)(hby:i.bytes=1){v xv:Value}{s s2:List UInt8}
  (hv:m4 U w v s) (h0:s2≠[]) (hsrc:Go.Src P 1 u xv s2.length (im s2) w) (hle:s.length+s2.length<=1099511627776):
  ∃g' t' w',(Builtin.append_ #[t,u] ty #[v,xv]).run P w=.ok (.slice (some ⟨g',0,none⟩) (s++s2).length t') w'/\m4 U w' (.slice (some ⟨g',0,none⟩) (s++s2).length t') (s++s2)/\w.grownBy w' v.ownBlock/\(v.ownBlock=some g'\/w.heap.size<=g')/\g'<w'.heap.size:=by
 have hp:0<s2.length:=List.length_pos_iff.2 h0;have hm:maxLen=9223372036854775807:=rfl;rw[<-hs]at hsrc;rcases hv with⟨rfl,rfl⟩|⟨g,cap,c,rfl,hg,hcs,hcm,hle2,hc⟩
 .have hr:=run_append_grow_src (P:=P) w t u ty U i _ ht hi hz none 0 0 [] (by simp[Builtin.firstCells,loadCells,loadCellsFrom]) xv s2.length (im s2) hsrc ae (by simp only[aB]at hle;omega) (by rw[hby];exact growslice_fits ae (by simp only[aB]at hle;omega));have hge:=grownCap_ge w (0+s2.length) 0 U;have hcm2:grownCap w (0+s2.length) 0 U<=maxLen:=grownCap_le_maxLen w (0+s2.length) 0 U (by simp only[aB]at hle;omega);simp only[bT,fk]at hr hge hcm2;refine⟨w.heap.size,_,_,hr,.inr ⟨w.heap.size,_,_,rfl,eO w.drew _, ?_,hcm2,hge,fun j hj=>?_⟩,⟨rfl,rfl,rfl, ?_,fun k hk _=>mc w.drew _ k hk⟩,.inr (aQ _), ?_⟩
  .have hz1:(Value.int IntKind.u8 0).cells.size=1:=rfl;simp only[fk,Array.size_append,List.size_toArray,jd,size_zeroCells,hz1];omega
  .exact Jm (x:=[]) j hj
  .show w.heap.size<=(w.drew.heap.push _).size;rw[Array.size_push];exact Nat.le_succ _
  .show w.heap.size<(w.drew.heap.push _).size;rw[Array.size_push];exact Nat.lt_succ_self _
 .by_cases hroom:s.length+s2.length<=cap
  .have hr:=run_append_room_src (P:=P) w t u ty U i ht hi g 0 s.length cap xv s2.length (im s2) hsrc hroom (fun j hj=>by
    rw[hs,cell_of_heap hg (by rw[jd]at hj;omega)];rfl) (fun j hj=>by simp[World.frozen?,hg])
   obtain⟨c',s1,s3,s4⟩:=mg g (im s2) (0+s.length*i.size) w c U (0,0) hg (by rw[jd,hs];omega);obtain⟨f1,f2,f3,f4⟩:=kW g (im s2) (0+s.length*i.size) w;have hlt:g<w.heap.size:=by
    rcases hX g w.heap.size with h|h
    .exact h
    .simp[Array.getElem?_eq_none h]at hg
   refine⟨g,cap,_,by simpa using hr,.inr ⟨g,cap,c',aR,s1,ae,hcm,by rw[cb];exact hroom,fun j hj=>?_⟩,⟨f1,f2,f3,ae,fun k _ hk=>kX g _ _ _ k (fun e=>hk (by simp[Value.ownBlock,e]))⟩,.inl rfl,ae⟩;rw[s4,jd,hs];rw[cb]at hj;by_cases hj2:j<s.length
   .rw[ak ae,hc j hj2,dx,aw hj2]
   .rw[aw ae,sN _ _ ae,dx,ak hj2];congr 4;omega
  .have hold:(Builtin.firstCells i.size s.length (.slice (some ⟨g,0,none⟩) s.length cap)).run P w.drew=.ok (im s).toArray w.drew:=by
    refine run_firstCells_some w.drew i.size s.length _ s.length cap _ (by simp[jd,hs]) (fun j u' hj=>?_);have hj2:j<s.length:=by
     have:=(List.getElem?_eq_some_iff.1 hj).1;rwa [jd]at this
    have hg':w.drew.heap[g]? =some (.cells c U (0,0)):=hg;rw[Addr.wV,cell_of_heap hg' ae,bT,hc j hj2,<-sN s j hj2];simp[List.getD,hj]
   have hr:=run_append_grow_src (P:=P) w t u ty U i _ ht hi hz (some ⟨g,0,none⟩) s.length cap (im s) hold xv s2.length (im s2) hsrc ae ae (by rw[hby];exact growslice_fits ae ae);have hge:=grownCap_ge w (s.length+s2.length) cap U;have hcm2:grownCap w (s.length+s2.length) cap U<=maxLen:=grownCap_le_maxLen w (s.length+s2.length) cap U ae;refine⟨w.heap.size,_,_,by simpa using hr,.inr ⟨w.heap.size,_,_,aR,eO w.drew _, ?_,hcm2,by simpa using hge,fun j hj=>?_⟩,⟨rfl,rfl,rfl, ?_,fun k hk _=>mc w.drew _ k hk⟩,.inr (aQ _), ?_⟩
   .have hz1:(Value.int IntKind.u8 0).cells.size=1:=rfl;simp only[Array.size_append,List.size_toArray,cb,jd,size_zeroCells,hz1];omega
   .exact Jm j hj
   .show w.heap.size<=(w.drew.heap.push _).size;rw[Array.size_push];exact Nat.le_succ _
   .show w.heap.size<(w.drew.heap.push _).size;rw[Array.size_push];exact Nat.lt_succ_self _
def AH {ops:Array Oper}{rest:List Oper}{o:Oper}{a:Act}{Q:Exit->Act->World->Prop}(hgd:o.guard=none)(sl x:Operand)(t u:TypeId)
  (ho:o.op=.call {callee:=.builtin .append,args:=#[sl,x],argTypes:=#[t,u]}) {U:TypeId} {i:TypeInfo} {w:World}
  (ht:P.underlying t=some (.slice U)) (hi:P.info? U=some i) (hz:i.zero=some (.int .u8 0)) (hsz:i.size=1) (hby:i.bytes=1) {v xv:Value} {s s2:List UInt8} (hs:a.eval sl=v) (hx:a.eval x=xv)
  (hv:m4 U w v s) (h0:s2≠[]) (hsrc:Go.Src P 1 u xv s2.length (im s2) w) (hle:s.length+s2.length<=1099511627776)
  (h:∀g' t' w',m4 U w' (.slice (some ⟨g',0,none⟩) (s++s2).length t') (s++s2)->w.grownBy w' v.ownBlock->(v.ownBlock=some g'\/w.heap.size<=g')->g'<w'.heap.size->wpList P ops Q rest (a.put o.dst (.slice (some ⟨g',0,none⟩) (s++s2).length t')) w'):wpList P ops Q (o::rest) a w:=by
 refine wpList_plain hgd fun K hK=>?_
 obtain⟨g',t',w',hr,h2,h3,h4,h5⟩:=Q5 (P:=P) (ty:=o.type) ht hi hz hsz hby hv h0 hsrc hle;unfold Oper.wp execOp;simp only[ho,resolve,invoke,builtin,Sem.run_bind,Sem.run_pure,Result.andThen_ok,List.map_toArray,List.map_cons,List.map_nil,hs,hx,hr];exact hK _ _ (h g' t' w' h2 h3 h4 h5)
def Hc (w:World)(g n:Nat):(w.drew.freeze ⟨g,0,none⟩ n).os=w.os/\(w.drew.freeze ⟨g,0,none⟩ n).tape=w.tape/\(w.drew.freeze ⟨g,0,none⟩ n).output=w.output/\(w.drew.freeze ⟨g,0,none⟩ n).heap.size=w.heap.size/\∀k,k≠g->(w.drew.freeze ⟨g,0,none⟩ n).heap[k]? =w.heap[k]? :=by
 unfold World.freeze;split
 .exact⟨rfl,rfl,rfl,rfl,fun _ _=>rfl⟩
 .refine⟨rfl,rfl,rfl,aR,fun k hk=>?_⟩;simp only[Array.getElem?_modify];rw[ak (fun e=>hk e.symm)];rfl
def sg (b:Nat)(u:Bool)(v:Value)(T:TypeId):Obj:=.cells #[.pointer (if u=true then some ⟨b,0,none⟩else none),v] T (0,0)
variable {J:Ren}
def Bs (L:Lays.n240 P J)(X:Builder.X72 P J){b:Nat}{u:Bool}{v:Value}{w:World}(h:w.heap[b]? =some (sg b u v (J.t 72))):
  Calls P (J.f 240) #[.pointer (some ⟨b,0,none⟩)] w fun e w'=>e=.returned (.tuple #[])/\w'.heap[b]? =some (sg b true v (J.t 72))/\w.grownBy w' (some b):=by
 unfold sg at h;cases u with
 |true=>
  refine(Any.Builder_copyCheck_used L X b w (by rw[Lib.cell_of_heap h];rfl)).mono ?_;rintro e w' ⟨rfl,rfl⟩;exact⟨rfl,h,⟨rfl,rfl,rfl,aQ _,fun _ _ _=>rfl⟩⟩
 |false=>
  refine(Any.Builder_copyCheck_fresh L X b w (by rw[Lib.cell_of_heap h];rfl) (by simp[World.shape?,h]) (Lib.frozen_of_heap h 0)).mono ?_;rintro e w' ⟨rfl,rfl⟩;exact⟨rfl,by simp[World.setCell,Array.getElem?_modify,h,sg],⟨rfl,rfl,rfl,by simp[World.setCell],fun k _ hk=>Below.heap_setCell _ _ _ _ (fun e=>hk (by simp[e]))⟩⟩
def Ef (T U:TypeId)(b:Nat)(g:Option Nat)(s:List UInt8)(w w':World):Prop:=
 ∃g' t',w'.heap[b]? =some (sg b true (.slice (some ⟨g',0,none⟩) s.length t') T)/\m4 U w' (.slice (some ⟨g',0,none⟩) s.length t') s/\(g=some g'\/w.heap.size<=g')/\g'<w'.heap.size/\g'≠b/\
  w'.os=w.os/\w'.tape=w.tape/\w'.output=w.output/\w.heap.size<=w'.heap.size/\∀k,k<w.heap.size->k≠b->some k≠g->w'.heap[k]? =w.heap[k]?
def m4.pX {U:TypeId}{w w':World}{v:Value}{s:List UInt8}(h:m4 U w v s)(hk:∀g,v.ownBlock=some g->w'.heap[g]? =w.heap[g]?):m4 U w' v s:=by
 rcases h with h|⟨g,t,c,rfl,hg,r⟩
 .exact .inl h
 .exact .inr ⟨g,t,c,rfl,(hk g rfl).trans hg,r⟩
def m4.lt {U:TypeId}{w:World}{v:Value}{s:List UInt8}(h:m4 U w v s){g:Nat}(hg:v.ownBlock=some g):g<w.heap.size/\∃c,w.heap[g]? =some (.cells c U (0,0)):=by
 rcases h with⟨rfl,_⟩|⟨g',t,c,rfl,hg',r⟩
 .cases hg
 .simp only[Value.ownBlock,bj]at hg
  grind
set_option maxHeartbeats 2000000 in
set_option maxRecDepth 100000 in
theorem wX (L:Lays.n166 P J)(X:Builder.Extra P J){b:Nat}{u:Bool}{v:Value}{s s2:List UInt8}{w:World}(h:w.heap[b]? =some (sg b u v (J.t 72)))(hv:m4 (J.t 5) w v s)(h0:s2≠[])(hm2:s2.length<=maxLen)(hle:s.length+s2.length<=1099511627776):
  Calls P (J.f 166) #[.pointer (some ⟨b,0,none⟩),.string ⟨⟨s2⟩⟩] w fun e w'=>(∃r,e=.returned r)/\Ef (J.t 72) (J.t 5) b v.ownBlock (s++s2) w w':=by
 obtain⟨i0,hi,hz0,hz1,hz2⟩:=info_parts X.infoByte;have mixed:=L.mixed;have t72:=L.t72;have a72:=L.a72;have z72:=L.z72;have v72:=L.v72;have u72:=run_underlying L.t72;have t70:=L.t70;have a70:=L.a70;have z70:=L.z70;have v70:=L.v70;have u70:=run_underlying L.t70;have t37:=L.t37;have a37:=L.a37;have z37:=L.z37;have v37:=L.v37;have u37:=run_underlying L.t37;have t3:=L.t3;have a3:=L.a3;have z3:=L.z3;have v3:=L.v3;have u3:=run_underlying L.t3;have t9:=L.t9;have a9:=L.a9;have z9:=L.z9;have v9:=L.v9;have u9:=run_underlying L.t9;have t4:=L.t4;have a4:=L.a4;have z4:=L.z4;have v4:=L.v4;have u4:=run_underlying L.t4;have t164:=L.t164;have a164:=L.a164;have z164:=L.z164;have v164:=L.v164;have u164:=run_underlying L.t164;have t5:=X.t5;have a5:=X.a5;have z5:=X.z5;have v5:=X.v5;have u5:=run_underlying X.t5;have e240:∀args w,(callFunc (J.f 240) args).run P w=.ok (.enter (J.f 240) args) w:=enters_of L.f240 ou rfl
 have hne:∀g,v.ownBlock=some g->g≠b:=by
  rintro g hg rfl;obtain⟨_,c,hc⟩:=hv.lt hg;rw[h]at hc;simp only[sg,bj,Obj.cells.injEq]at hc;exact X.neB5 hc.2.1
 go_enter L.f166,Body.n166_ntmps J
 go_wp2_with (go_at_fn (J.f 240);refine(Bs {L with} X.toX72 h).mono ?_)
 rintro e w1 ⟨rfl,h1,hb1⟩;have hv1:m4 (J.t 5) w1 v s:=hv.pX fun g hg=>hb1.block g (hv.lt hg).1 (fun e=>hne g hg (bM e))
 have c0:w1.cell? ⟨b,0,none⟩=some (.pointer (some ⟨b,0,none⟩)):=by rw[Lib.cell_of_heap h1];rfl
 have c1:w1.cell? ⟨b,1,none⟩=some v:=by rw[Lib.cell_of_heap h1];rfl
 have hsrc:Go.Src P 1 (J.t 9) (.string ⟨⟨s2⟩⟩) s2.length (im s2) w1:=⟨.inr L.t9,fun _=>rfl,firstCells_string _ _,firstCells_string _ _,by rw[jd,Nat.mul_one],yS s2⟩;have key:=fun ops rest o a Q hgd ho hs hx h=>AH (P:=P) (ops:=ops) (rest:=rest) (o:=o) (a:=a) (Q:=Q) hgd (.tmp 12) (.tmp 13) (J.t 37) (J.t 9) ho L.t37 hi hz0 hz1 hz2 (v:=v) (xv:=.string ⟨⟨s2⟩⟩) hs hx hv1 h0 hsrc hle h
 go_wp2_with (at_builtin;refine key _ _ _ _ _ rfl rfl rfl rfl ?_)
 clear key;intro g' t' w2 hown' hgrow hg' hlt';have hlt:b<w1.heap.size:=by
  rcases hX b w1.heap.size with h'|h'
  .exact h'
  .simp[Array.getElem?_eq_none h']at h1
 have fA:w2.heap[b]? =some (sg b true v (J.t 72)):=by
  rw[hgrow.block b hlt (fun e=>hne b e.symm rfl)];exact h1
 have hgb:g'≠b:=by
  rcases hg' with h'|h'
  .exact hne g' h'
  .omega
 have d0:w2.cell? ⟨b,0,none⟩=some (.pointer (some ⟨b,0,none⟩)):=by rw[Lib.cell_of_heap fA];rfl
 have d1:w2.cell? ⟨b,1,none⟩=some v:=by rw[Lib.cell_of_heap fA];rfl
 have f1:w2.frozen? ⟨b,1,none⟩=false:=Lib.frozen_of_heap fA 1
 go_wp2
 go_ret2
 have hsz:=hb1.size;refine⟨⟨_,rfl⟩, ?_⟩;unfold Ef;simp only[cb]at hown'⊢;refine⟨g',t',by simp[World.setCell,Array.getElem?_modify,fA,sg],hown'.pX fun g hg=>Below.heap_setCell w2 ⟨b,1,none⟩ _ g (fun e=>hgb ((bM hg).trans e)),hg'.imp id (fun h=>ae),by simpa[World.setCell]using hlt',hgb,hgrow.os.trans hb1.os,hgrow.tape.trans hb1.tape,hgrow.output.trans hb1.output,by have:=hgrow.size;simp[World.setCell];omega,fun k hk h1' h2'=>?_⟩;rw[Below.heap_setCell w2 ⟨b,1,none⟩ _ k h1',hgrow.block k ae h2',hb1.block k hk (fun e=>h1' (bM e))]
set_option maxHeartbeats 2000000 in
set_option maxRecDepth 100000 in
theorem AS (L:Lays.n167 P J)(X:Builder.Extra P J){b:Nat}{u:Bool}{v:Value}{s:List UInt8}{c:UInt8}{w:World}(h:w.heap[b]? =some (sg b u v (J.t 72)))(hv:m4 (J.t 5) w v s)(hle:s.length+1<=1099511627776):
  Calls P (J.f 167) #[.pointer (some ⟨b,0,none⟩),.int .u8 c.toNat] w fun e w'=>(∃r,e=.returned r)/\Ef (J.t 72) (J.t 5) b v.ownBlock (s++[c]) w w':=by
 obtain⟨i0,hi,hz0,hz1,hz2⟩:=info_parts X.infoByte;have mixed:=L.mixed;have t72:=L.t72;have a72:=L.a72;have z72:=L.z72;have v72:=L.v72;have u72:=run_underlying L.t72;have t70:=L.t70;have a70:=L.a70;have z70:=L.z70;have v70:=L.v70;have u70:=run_underlying L.t70;have t37:=L.t37;have a37:=L.a37;have z37:=L.z37;have v37:=L.v37;have u37:=run_underlying L.t37;have t9:=L.t9;have a9:=L.a9;have z9:=L.z9;have v9:=L.v9;have u9:=run_underlying L.t9;have t4:=L.t4;have a4:=L.a4;have z4:=L.z4;have v4:=L.v4;have u4:=run_underlying L.t4;have t164:=L.t164;have a164:=L.a164;have z164:=L.z164;have v164:=L.v164;have u164:=run_underlying L.t164;have t5:=L.t5;have a5:=L.a5;have z5:=L.z5;have v5:=L.v5;have u5:=run_underlying L.t5;have e240:∀args w,(callFunc (J.f 240) args).run P w=.ok (.enter (J.f 240) args) w:=enters_of L.f240 ou rfl
 have hne:∀g,v.ownBlock=some g->g≠b:=by
  rintro g hg rfl;obtain⟨_,c,hc⟩:=hv.lt hg;rw[h]at hc;simp only[sg,bj,Obj.cells.injEq]at hc;exact X.neB5 hc.2.1
 go_enter L.f167,Body.n167_ntmps J
 go_wp2_with (go_at_fn (J.f 240);refine(Bs {L with} X.toX72 h).mono ?_)
 rintro e w1 ⟨rfl,h1,hb1⟩;have hv1:m4 (J.t 5) w1 v s:=hv.pX fun g hg=>hb1.block g (hv.lt hg).1 (fun e=>hne g hg (bM e))
 have c0:w1.cell? ⟨b,0,none⟩=some (.pointer (some ⟨b,0,none⟩)):=by rw[Lib.cell_of_heap h1];rfl
 have c1:w1.cell? ⟨b,1,none⟩=some v:=by rw[Lib.cell_of_heap h1];rfl
 have key:=fun ob ops rest o a Q sl x hgd ho hs hx hv2 hsrc h=>AH (P:=P) (w:=w1.alloc ob) (ops:=ops) (rest:=rest) (o:=o) (a:=a) (Q:=Q) hgd sl x (J.t 37) (J.t 37) ho L.t37 hi hz0 hz1 hz2 (v:=v) (xv:=.slice (some ⟨w1.heap.size,0,none⟩) 1 1) (s:=s) (s2:=[c]) hs hx hv2 (List.cons_ne_nil _ _) hsrc hle h
 go_wp2_with (at_builtin;refine key _ _ _ _ _ _ _ _ rfl rfl rfl rfl (hv1.pX fun g hg=>Lib.alloc_old w1 _ g (hv1.lt hg).1) ?hs ?_)
 case hs=>
  refine Go.Src.ofSlice _ L.t37 ⟨w1.heap.size,0,none⟩ 1 1 _ rfl (fun j u hj=>?_) (yS [c])
  match j,hj with
  |0,hj=>simp[im]at hj;subst hj;simp[Addr.add]
 clear key;intro g' t' w2 hown' hgrow hg' hlt';have hlt:b<w1.heap.size:=by
  rcases hX b w1.heap.size with h'|h'
  .exact h'
  .simp[Array.getElem?_eq_none h']at h1
 have fA:w2.heap[b]? =some (sg b true v (J.t 72)):=by
  rw[hgrow.block b cY (fun e=>hne b e.symm rfl),Lib.alloc_old w1 _ b hlt];exact h1
 have hgb:g'≠b:=by
  rcases hg' with h'|h'
  .exact hne g' h'
  .omega
 have d0:w2.cell? ⟨b,0,none⟩=some (.pointer (some ⟨b,0,none⟩)):=by rw[Lib.cell_of_heap fA];rfl
 have d1:w2.cell? ⟨b,1,none⟩=some v:=by rw[Lib.cell_of_heap fA];rfl
 have f1:w2.frozen? ⟨b,1,none⟩=false:=Lib.frozen_of_heap fA 1
 go_wp2
 go_ret
 have hsz:=hb1.size;refine⟨⟨_,rfl⟩, ?_⟩;unfold Ef;simp only[cb]at hown'⊢;refine⟨g',t',by simp[World.setCell,Array.getElem?_modify,fA,sg],hown'.pX fun g hg=>Below.heap_setCell w2 ⟨b,1,none⟩ _ g (fun e=>hgb ((bM hg).trans e)),hg'.imp id (fun h=>ae),by simpa[World.setCell]using hlt',hgb,hgrow.os.trans hb1.os,hgrow.tape.trans hb1.tape,hgrow.output.trans hb1.output,by have:=hgrow.size;simp at this;simp[World.setCell];omega,fun k hk h1' h2'=>?_⟩;rw[Below.heap_setCell w2 ⟨b,1,none⟩ _ k h1',hgrow.block k cY h2',Lib.alloc_old w1 _ k ae,hb1.block k hk (fun e=>h1' (bM e))]
set_option maxHeartbeats 1000000 in
set_option maxRecDepth 100000 in
theorem G1 (L:Lays.n169 P J)(X:Builder.Extra P J){b g t:Nat}{u:Bool}{s:List UInt8}{w:World}(h:w.heap[b]? =some (sg b u (.slice (some ⟨g,0,none⟩) s.length t) (J.t 72)))(hv:m4 (J.t 5) w (.slice (some ⟨g,0,none⟩) s.length t) s)(h0:s≠[]):
  Calls P (J.f 169) #[.pointer (some ⟨b,0,none⟩)] w fun e w'=>e=.returned (.string ⟨⟨s⟩⟩)/\w'.os=w.os/\w'.tape=w.tape/\w'.output=w.output/\w'.heap.size=w.heap.size/\∀k,k≠g->w'.heap[k]? =w.heap[k]? :=by
 have hl0:s.length≠0:=by simpa using h0
 obtain⟨c,hg,hcs,hcm,hle,hc⟩:∃c,w.heap[g]? =some (.cells c (J.t 5) (0,0))/\c.size=t/\t<=maxLen/\s.length<=t/\∀i,i<s.length->c.getD i undef=.int .u8 (s.getD i 0).toNat:=by
  rcases hv with⟨h1,_⟩|⟨g',t',c,h1,r⟩
  .cases h1
  .simp only[Value.slice.injEq,bj,Addr.mk.injEq]at h1;obtain⟨⟨rfl,_⟩,_,rfl⟩:=h1;exact⟨c,r⟩
 have c1:w.drew.cell? ⟨b,1,none⟩=some (.slice (some ⟨g,0,none⟩) s.length t):=by
  have:w.drew.heap[b]? =some (sg b u (.slice (some ⟨g,0,none⟩) s.length t) (J.t 72)):=h;rw[Lib.cell_of_heap this];rfl
 have hSD:(Builtin.unsafeSliceData_ #[(J.t 37)] (J.t 127) #[.slice (some ⟨g,0,none⟩) s.length t]).run P w.drew=.ok (.pointer (some ⟨g,0,none⟩)) w.drew:=
  Lib.run_unsafeSliceData_row _ _ _ _ _ _ ae
 have hUS:(Builtin.unsafeString_ #[(J.t 127),(J.t 3)] (J.t 9) #[.pointer (some ⟨g,0,none⟩),.int .i64 s.length]).run P w.drew=.ok (.string ⟨s.toArray⟩) (w.drew.freeze ⟨g,0,none⟩ s.length):=by
  refine Lib.run_unsafeString_row w.drew (J.t 127) (J.t 3) (J.t 9) (J.t 5) L.t127 X.cellsByte g c.size (by have hg':w.drew.heap[g]? =some (.cells c (J.t 5) (0,0)):=hg;simp[World.shape?,hg']) s h0 ae (by unfold maxLen at hcm;omega) ?_;intro j x hx;have hj:=(List.getElem?_eq_some_iff.1 hx).1;have hg':w.drew.heap[g]? =some (.cells c (J.t 5) (0,0)):=hg;rw[Addr.wV,cell_of_heap hg' ae,bT,hc j hj];simp[List.getD,hx]
 have mixed:=L.mixed;have t72:=L.t72;have a72:=L.a72;have z72:=L.z72;have v72:=L.v72;have u72:=run_underlying L.t72;have t70:=L.t70;have a70:=L.a70;have z70:=L.z70;have v70:=L.v70;have u70:=run_underlying L.t70;have t37:=L.t37;have a37:=L.a37;have z37:=L.z37;have v37:=L.v37;have u37:=run_underlying L.t37;have t127:=L.t127;have a127:=L.a127;have z127:=L.z127;have v127:=L.v127;have u127:=run_underlying L.t127;have t3:=L.t3;have a3:=L.a3;have z3:=L.z3;have v3:=L.v3;have u3:=run_underlying L.t3;have t9:=L.t9;have a9:=L.a9;have z9:=L.z9;have v9:=L.v9;have u9:=run_underlying L.t9;have t5:=X.t5;have a5:=X.a5;have z5:=X.z5;have v5:=X.v5;have u5:=run_underlying X.t5
 go_enter L.f169,Body.n169_ntmps J
 go_wp2
 go_region_o
 all_goals (go_wp2;go_ret;exact⟨rfl,Hc _ _ _⟩)
end
end
section
open Go.Proofs Go.Shelf Go.RowKit
section
variable [dI] {P:Program} {ν:List (Nat×Nat)} {cU:List Nat} {Y:Ctx} {x:X}
def G0 {m:List (Nat×b7)}{l:Nat}{t:List UInt8}{v:Value}(hs:gw ν x (look m))(hb:sx m l t)(hv:RD ν x v (.ptr l 2 0 0)):
  ∃b tot u w,v=.pointer (some ⟨b,0,none⟩)/\x.β l=some (b,0,tot)/\¬x.I b/\x.w.heap[b]? =some (sg b u w dI.tB)/\m4 dI.tU x.w w t/\
   (w.ownBlock=none/\gA m l=m\/∃l2 g t2,w=.slice (some ⟨g,0,none⟩) t.length t2/\x.β l2=some (g,0,t2)/\¬x.I g/\look m l2=some (.row t)/\l2≠l/\gA m l=cL m l2):=by
 cases hv with
 |ptr _ _ _ _ b base tot at_ hβ hat=>
  rcases hb with⟨u,h1,rfl⟩|⟨l2,u,h1,h2⟩
  .obtain⟨o1,rfl,w,o2,_,rfl⟩:=hs.own l _ b base tot h1 hβ;simp only[Nat.zero_mul,Nat.add_zero]at hat;subst hat;exact⟨b,tot,u,_,rfl,hβ,o1,o2,.inl ⟨rfl,rfl⟩,.inl ⟨rfl,by simp only[gA,h1]⟩⟩
  .obtain⟨o1,rfl,w,o2,g,t2,rfl,o3,o4⟩:=hs.own l _ b base tot h1 hβ;simp only[Nat.zero_mul,Nat.add_zero]at hat;subst hat;obtain⟨p1,_,c,p2,p3,p4,p5,p6⟩:=hs.own l2 _ g 0 t2 h2 o4;have hne:l2≠l:=by rintro rfl;rw[h1]at h2;cases h2
   exact⟨b,tot,u,_,rfl,hβ,o1,o2,.inr ⟨g,t2,c,rfl,p2,p3,p4,p5,p6⟩,.inr ⟨l2,g,t2,rfl,o4,p1,h2,hne,by simp only[gA,h1]⟩⟩
def CD {st:St}{l:Nat}{t s:List UInt8}{b tot:Nat}{w:Value}{w':World}(hs:gw ν x (look st.m))(hf:gu st x)(hlive:look st.m l≠none)(hl:l<st.nx)
  (hβ:x.β l=some (b,0,tot)) (hI:¬x.I b)
  (hrow:w.ownBlock=none/\gA st.m l=st.m\/∃l2 g t2,w=.slice (some ⟨g,0,none⟩) t.length t2/\x.β l2=some (g,0,t2)/\¬x.I g/\look st.m l2=some (.row t)/\l2≠l/\gA st.m l=cL st.m l2)
  (hw:Ef dI.tB dI.tU b w.ownBlock s x.w w'):
  ∃x':X,x'.w=w'/\Step x x'/\gw ν x' (look (qF st.m l st.nx s))/\gu ⟨st.nx+1,qF st.m l st.nx s⟩ x':=by
 obtain⟨g',t',h1,h2,h3,h4,h5,k1,k2,k3,k4,k5⟩:=hw;have hn:=hf.β st.nx (aQ _)

 have hg:∀g,w.ownBlock=some g->∃l2 t2,x.β l2=some (g,0,t2)/\¬x.I g/\look st.m l2=some (.row t)/\l2≠l/\gA st.m l=cL st.m l2:=by
  intro g hg;rcases hrow with⟨h,_⟩|⟨l2,g0,t2,rfl,q⟩
  .rw[h]at hg;cases hg
  .obtain rfl:=bM hg;exact⟨l2,t2,q⟩
 have hlook:∀l' blk,l'≠l->look (gA st.m l) l'=some blk->look st.m l'=some blk/\∀g,w.ownBlock=some g->∀p,x.β l'=some p->p.1≠g:=by
  intro l' blk hl' hk;rcases hrow with⟨h,e⟩|⟨l2,g0,t2,rfl,q1,q2,q3,q4,e⟩
  .rw[e]at hk;exact⟨hk,fun g hg=>by rw[h]at hg;cases hg⟩
  .rw[e,fL]at hk;split at hk
   .cases hk
   .rename_i hne;refine⟨hk,fun g hg p hp e=>?_⟩;obtain rfl:=bM hg;obtain⟨b',base',tot'⟩:=p;simp only at e;subst e;exact hne (hs.inj l' l2 _ _ _ _ _ (by rw[hk];simp) (by rw[q3];simp) hp q1)
 have hbg:∀l' p,x.β l'=some p->p.1<x.w.heap.size:=fun l' ⟨b',base',tot'⟩ hp=>hs.eZ l' b' base' tot' hp
 have hkeep:∀k,k<x.w.heap.size->k≠b->some k≠w.ownBlock->w'.heap[k]? =x.w.heap[k]? :=k5
 let x':X:=⟨w',x.I,eN x.β st.nx (g',0,t')⟩
 have hst:Step x x':=by
  refine⟨k1,k2,k3,k4,fun _ h=>h,fun k hk=>hkeep k (hs.imm k hk) (fun e=>hI (e▸hk)) (fun e=>?_),fun l' p hp=>?_,fun k hk hn'=>hkeep k hk (fun e=>hn' l _ hβ e.symm) (fun e=>?_),fun _ h=>.inl h,fun l' p hp=>?_⟩
  .obtain⟨l2,t2,q1,q2,_⟩:=hg k e.symm;exact q2 hk
  .have:l'≠st.nx:=fun e=>by rw[e,hn]at hp;cases hp
   simp[x',eN,this,hp]
  .obtain⟨l2,t2,q1,_⟩:=hg k e.symm;exact hn' l2 _ q1 rfl
  .by_cases e1:l'=st.nx
   .simp only[x',eN,e1,a7,bj]at hp;subst hp;rcases h3 with h3|h3
    .obtain⟨l2,t2,q1,_⟩:=hg g' h3;exact .inr (.inr ⟨l2,_,q1,rfl⟩)
    .exact .inr (.inl h3)
   .simp only[x',eN,e1,a8]at hp;exact .inl hp
 have hle:=hst.le;have hlm:∀l',look (qF st.m l st.nx s) l'=if l'=st.nx then some (.row s)else if l'=l then some (.bld (some st.nx) s.length true)else look (gA st.m l) l':=by
  intro l';simp only[qF,look];by_cases e:l'=st.nx
  .rw[aw e.symm,aw e]
  .rw[ak (fun h=>e h.symm),ak e,cH]
 have hfr:∀l' p,l'≠st.nx->x.β l'=some p->l'≠l->look (gA st.m l) l'≠none->p.1≠g':=by
  intro l' p hl' hp hne hk e;cases hq:look (gA st.m l) l' with
  |none=>exact hk hq
  |some blk=>
   rcases h3 with h3|h3
   .exact(hlook l' blk hne hq).2 g' h3 p hp e
   .have:=hbg l' p hp;omega
 refine⟨x',rfl,hst,⟨fun l' blk b' base' tot' e1 e2=>?_,fun l1 l2 b' base1 tot1 base2 tot2 e1 e2 e3 e4=>?_,fun k hk=>fj (hs.imm k hk) k4,fun l' b' base' tot' e=>?_,qR hle hs.gd⟩,⟨fun l' hl'=>?_,fun l' hl'=>?_⟩⟩
 .rw[hlm]at e1;by_cases c1:l'=st.nx
  .rw[aw c1]at e1;simp only[x',eN,aw c1,bj,ez]at e2;obtain⟨rfl,rfl,rfl⟩:=e2;obtain rfl:=bM e1;refine⟨fun h=>?_,rfl, ?_⟩
   .rcases h3 with h3|h3
    .obtain⟨l2,t2,_,q2,_⟩:=hg g' h3;exact q2 h
    .have:=hs.imm g' h;omega
   .rcases h2 with⟨h2,_⟩|⟨g2,t2,c,h2,r⟩
    .cases h2
    .simp only[Value.slice.injEq,bj,Addr.mk.injEq]at h2;obtain⟨⟨rfl,_⟩,_,rfl⟩:=h2;exact⟨c,r⟩
  .rw[ak c1]at e1;simp only[x',eN,ak c1]at e2;by_cases c2:l'=l
   .subst c2;rw[aw rfl]at e1;rw[hβ]at e2;simp only[bj,ez]at e2;obtain⟨rfl,rfl,rfl⟩:=e2;obtain rfl:=bM e1;refine⟨hI,rfl,_,h1,g',t',rfl, ?_,by simp[x',eN]⟩;rcases h2 with⟨h2,_⟩|⟨g2,t2,c,h2,_,_,_,r,_⟩
    .cases h2
    .simp only[Value.slice.injEq]at h2;obtain⟨_,_,rfl⟩:=h2;exact r
   .rw[ak c2]at e1;obtain⟨q1,q2⟩:=hlook l' blk c2 e1;obtain⟨o1,o2⟩:=hs.own l' blk b' base' tot' q1 e2;refine⟨o1,o2.mono hle (hkeep b' (hs.eZ _ _ _ _ e2) (fun e=>?_) (fun e=>q2 b' e.symm _ e2 rfl))⟩;subst e;exact c2 (hs.inj l' l _ _ _ _ _ (by rw[q1];simp) hlive e2 hβ)
 .rw[hlm]at e1 e2;by_cases c1:l1=st.nx
  .by_cases c2:l2=st.nx
   .rw[c1,c2]
   .exfalso;rw[ak c2]at e2;simp only[x',eN,aw c1,bj,ez]at e3;simp only[x',eN,ak c2]at e4;obtain⟨rfl,_⟩:=e3;by_cases c3:l2=l
    .subst c3;rw[hβ]at e4;simp only[bj,ez]at e4;exact h5 e4.1.symm
    .rw[ak c3]at e2;exact hfr l2 _ c2 e4 c3 e2 rfl
  .rw[ak c1]at e1;simp only[x',eN,ak c1]at e3;by_cases c2:l2=st.nx
   .exfalso;simp only[x',eN,aw c2,bj,ez]at e4;obtain⟨rfl,_⟩:=e4;by_cases c3:l1=l
    .subst c3;rw[hβ]at e3;simp only[bj,ez]at e3;exact h5 e3.1.symm
    .rw[ak c3]at e1;exact hfr l1 _ c1 e3 c3 e1 rfl
   .rw[ak c2]at e2;simp only[x',eN,ak c2]at e4;have live:∀l',(if l'=l then some (b7.bld (some st.nx) s.length true)else look (gA st.m l) l')≠none->look st.m l'≠none:=by
     intro l' h;by_cases c:l'=l
     .rw[c];exact hlive
     .rw[ak c]at h;cases hq:look (gA st.m l) l' with
      |none=>exact absurd hq h
      |some blk=>rw[(hlook l' blk c hq).1];simp
    exact hs.inj l1 l2 b' base1 tot1 base2 tot2 (live l1 e1) (live l2 e2) e3 e4
 .by_cases c1:l'=st.nx
  .simp only[x',eN,aw c1,bj,ez]at e;obtain⟨rfl,_⟩:=e;exact h4
  .simp only[x',eN,ak c1]at e;exact fj (hs.eZ _ _ _ _ e) k4
 .have hl':st.nx+1<=l':=hl';simp only[x',eN,ak (show ¬l'=st.nx by omega)];exact hf.β l' ae
 .show l'<st.nx+1;simp only[hlm]at hl';by_cases c1:l'=st.nx
  .omega
  .rw[ak c1]at hl';by_cases c2:l'=l
   .omega
   .rw[ak c2]at hl';cases hq:look (gA st.m l) l' with
    |none=>exact absurd hq hl'
    |some blk=>have:=hf.m l' (by rw[(hlook l' blk c2 hq).1];simp);omega
def sx.live {m:List (Nat×b7)}{l:Nat}{t:List UInt8}(h:sx m l t):look m l≠none:=by
 rcases h with⟨u,h,_⟩|⟨l2,u,h,_⟩<;>rw[h]<;>simp
variable {J:Ren}
def NK {args:Array Value}(h:args.size=2):args=#[args.getD 0 undef,args.getD 1 undef]:=by
 apply Array.ext
 .simpa using h
 .intro i h1 h2
  match i,h1 with
  |0,h1=>simp[Array.getD,h1]
  |1,h1=>simp[Array.getD,h1]
  |i+2,h1=>omega
def Uz {args:Array Value}(h:args.size=1):args=#[args.getD 0 undef]:=by
 apply Array.ext
 .simpa using h
 .intro i h1 h2
  match i,h1 with
  |0,h1=>simp[Array.getD,h1]
  |i+1,h1=>omega
def Rv (hB:dI.tB=J.t 72)(hU:dI.tU=J.t 5)(L:Lays.n166 P J)(X':Builder.Extra P J)(hen:∀args w,(callFunc (J.f 166) args).run P w=.ok (.enter (J.f 166) args) w):ND P ν Y cU ZW (J.f 166):=by
 rintro ds st K ⟨s,l,t,rfl,hb,hl,h0,hle,hK⟩ hok x args hl2 hargs hs hf;obtain⟨b,tot,u,w,e0,hβ,hI,hh,hv,hrow⟩:=G0 hs hb (hargs 0 aR);have h1:=hargs 1 aR;simp only[List.getD_cons_succ,kf]at h1;obtain⟨e1,hm⟩:=h1.jU;rw[hB]at hh;rw[hU]at hv;refine .inr ⟨J.f 166,args,hen args x.w, ?_⟩;rw[NK (args:=args) (by simpa using hl2),e0,e1];refine(wX L X' hh hv h0 hm hle).mono ?_;rintro e w' ⟨⟨r,rfl⟩,hw⟩;rw[<-hB,<-hU]at hw;obtain⟨x',q1,q2,q3,q4⟩:=CD hs hf hb.live hl hβ hI hrow hw;exact⟨x',q1,.any,_,hK,q2,.any _,q3,q4⟩
def Ru (hB:dI.tB=J.t 72)(hU:dI.tU=J.t 5)(L:Lays.n167 P J)(X':Builder.Extra P J)(hen:∀args w,(callFunc (J.f 167) args).run P w=.ok (.enter (J.f 167) args) w):ND P ν Y cU ZV (J.f 167):=by
 rintro ds st K ⟨c,l,t,rfl,hb,hl,h0,hle,hK⟩ hok x args hl2 hargs hs hf;obtain⟨b,tot,u,w,e0,hβ,hI,hh,hv,hrow⟩:=G0 hs hb (hargs 0 aR);have h1:=hargs 1 aR;simp only[List.getD_cons_succ,kf]at h1;have e1:=h1.dT;rw[hB]at hh;rw[hU]at hv;refine .inr ⟨J.f 167,args,hen args x.w, ?_⟩;rw[NK (args:=args) (by simpa using hl2),e0,e1];refine(AS L X' hh hv hle).mono ?_;rintro e w' ⟨⟨r,rfl⟩,hw⟩;rw[<-hB,<-hU]at hw;obtain⟨x',q1,q2,q3,q4⟩:=CD hs hf hb.live hl hβ hI hrow hw;exact⟨x',q1,.any,_,hK,q2,.any _,q3,q4⟩
def Rt (hB:dI.tB=J.t 72)(hU:dI.tU=J.t 5)(L:Lays.n169 P J)(X':Builder.Extra P J)(hen:∀args w,(callFunc (J.f 169) args).run P w=.ok (.enter (J.f 169) args) w):ND P ν Y cU ZU (J.f 169):=by
 rintro ds st K ⟨l,t,rfl,hb,h0,hK⟩ hok x args hl2 hargs hs hf;obtain⟨b,tot,u,w,e0,hβ,hI,hh,hv,hrow⟩:=G0 hs hb (hargs 0 aR);rcases hrow with⟨hn,_⟩|⟨l2,g,t2,rfl,q1,q2,q3,q4,q5⟩
 .exfalso;rcases hv with⟨_,h⟩|⟨g,t',c,rfl,_⟩
  .exact h0 h
  .cases hn
 rw[hB]at hh;rw[hU]at hv;have htm:t.length<=maxLen:=by
  rcases hv with⟨_,rfl⟩|⟨g',t',c,h1,_,_,h4,h5,_⟩
  .exact absurd rfl h0
  .omega
 refine .inr ⟨J.f 169,args,hen args x.w, ?_⟩;rw[Uz (args:=args) (by simpa using hl2),e0];refine(G1 L X' hh hv h0).mono ?_;rintro e w' ⟨rfl,k1,k2,k3,k4,k5⟩;have hkeep:∀k,(∀l' p,look (cL (gA st.m l) l) l'≠none->x.β l'=some p->p.1=k->False)->True:=fun _ _=>trivial
 have hst:Step x ⟨w',x.I,x.β⟩:=⟨k1,k2,k3,Nat.le_of_eq k4.symm,fun _ h=>h,fun k hk=>k5 k (fun e=>q2 (e▸hk)),fun _ _ h=>h,fun k hk hn=>k5 k (fun e=>hn l2 _ q1 e.symm),fun _ h=>.inl h,fun _ _ h=>.inl h⟩;have hlm:∀l',look (cL (gA st.m l) l) l'=if l'=l then none else if l'=l2 then none else look st.m l':=fun l'=>by rw[fL,q5,fL]
 refine⟨⟨w',x.I,x.β⟩,rfl,.str t,_,hK,hst,.str t htm,⟨fun l' blk b' base' tot' e1 e2=>?_,fun l1 l3 b' base1 tot1 base2 tot2 e1 e2 e3 e4=>?_,fun k hk=>by show k<w'.heap.size;rw[k4];exact hs.imm k hk,fun l' b' base' tot' e=>by show b'<w'.heap.size;rw[k4];exact hs.eZ _ _ _ _ e,qR hst.le hs.gd⟩,⟨hf.β,fun l' hl'=>?_⟩⟩
 .rw[hlm]at e1;split at e1
  .cases e1
  split at e1
  .cases e1
  rename_i c1 c2;obtain⟨o1,o2⟩:=hs.own l' blk b' base' tot' e1 e2;refine⟨o1,o2.mono hst.le (k5 b' (fun e=>c2 ?_))⟩;subst e;exact hs.inj l' l2 _ _ _ _ _ (by rw[e1];simp) (by rw[q3];simp) e2 q1
 .have live:∀l',look (cL (gA st.m l) l) l'≠none->look st.m l'≠none:=by
   intro l' h;rw[hlm]at h;split at h
   .exact absurd rfl h
   split at h
   .exact absurd rfl h
   .exact h
  exact hs.inj l1 l3 b' base1 tot1 base2 tot2 (live l1 e1) (live l3 e2) e3 e4
 .simp only[hlm]at hl';split at hl'
  .exact absurd rfl hl'
  split at hl'
  .exact absurd rfl hl'
  .exact hf.m l' hl'
end
end
section
open Go.Proofs
def Pk:Nat:=3
def wJ:Tryz.prog.globalNamed "internal/strconv.uint64pow10" =some Pk:=ou
instance ZT:dI where
 tB:=60
 tU:=5
 gd x:=(x.I 0/\∃m,x.w.cell? ⟨0,0,none⟩=some (.int .i64 m))/\x.I Pk/\Lib.TabIs Tryz.prog x.w "internal/strconv.uint64pow10" .u64 Lib.pow10Tab
 le x x' hI hk h:=by
  obtain⟨⟨h1,m,h2⟩,h3,h4⟩:=h;refine⟨⟨hI _ h1,m,oZ (hk _ h1) h2⟩,hI _ h3, ?_⟩;unfold Lib.TabIs World.var? at h4⊢;rw[wJ]at h4⊢;simp only[Option.bind_some]at h4⊢;rw[hk _ h3];exact h4
def rQ {fid:Nat}{x:X}{args:Array Value}{d:D}(hn:(Tryz.prog.funcs[fid]?).map (fun f=>f.name== "runtime.NumGoroutine" ||!f.body.isSome)=some false)
  (himm:∀b,x.I b->b<x.w.heap.size)
  (hc:Calls Tryz.prog fid args x.w fun e w'=>∃v,e=.returned v/\gV x.w w'/\∃I:Nat->Prop,(∀b,x.I b->I b)/\(∀b,I b->x.I b\/x.w.heap.size<=b/\b<w'.heap.size)/\RD xe ⟨w',I,x.β⟩ v d):
  jV Tryz.prog x (fun v x'=>nO x x'/\RD xe x' v d) ((callFunc fid args).run Tryz.prog x.w):=by
 cases h:Tryz.prog.funcs[fid]? with
 |none=>rw[h]at hn;cases hn
 |some fn=>
  rw[h]at hn;have h2:(fn.name== "runtime.NumGoroutine" ||!fn.body.isSome)=false:=bM hn;rw[dh,bN]at h2;refine .inr ⟨fid,args,je h h2.1 h2.2 args x.w,Calls.mono hc fun e w' he=>?_⟩;obtain⟨v,rfl,hg,I,h3,h4,hr⟩:=he;refine⟨⟨w',I,x.β⟩,rfl,⟨hg,h3,fun b hb=>(h4 b hb).imp id And.left,fun b hb=>?_,rfl⟩,hr⟩;rcases h4 b hb with h5|h5
  .exact fj (himm b h5) hg.size
  .exact h5.2
def Hf (w:World):∀n,gV w (w.drewN n)
 |n=>⟨rfl,rfl,rfl,aQ _,fun _ _=>rfl⟩
def kj {fid:Nat}{x:X}{args:Array Value}{d:D}{v:Value}(hn:(Tryz.prog.funcs[fid]?).map (fun f=>f.name== "runtime.NumGoroutine" ||!f.body.isSome)=some false)
  (himm:∀b,x.I b->b<x.w.heap.size) (hc:Calls Tryz.prog fid args x.w fun e w'=>e=.returned v/\gV x.w w') (hr:∀x',RD xe x' v d):
  jV Tryz.prog x (fun v x'=>nO x x'/\RD xe x' v d) ((callFunc fid args).run Tryz.prog x.w):=
 rQ hn himm (Calls.mono hc fun e w' ⟨h1,h2⟩=>⟨v,h1,h2,x.I,fun _ h=>h,fun _ h=>.inl h,hr _⟩)
def fD {x:X}{v:Value}{s:au}(h:RD xe x v (.str s)):v=.string ⟨⟨s⟩⟩/\s.length<=maxLen:=by
 cases h with
 |str s h=>exact⟨rfl,h⟩
def xD {x:X}{v:Value}{k:IntKind}{n:Int}(h:RD xe x v (.int k n)):v=.int k n:=by
 cases h with
 |int k n=>rfl
def yI {args:Array Value}(h:args.size=2):args=#[args.getD 0 undef,args.getD 1 undef]:=by
 obtain⟨l⟩:=args
 match l,h with
 |[a,b],_=>rfl
def Zf {args:Array Value}(h:args.size=3):args=#[args.getD 0 undef,args.getD 1 undef,args.getD 2 undef]:=by
 obtain⟨l⟩:=args
 match l,h with
 |[a,b,c],_=>rfl
def SV {args:Array Value}(h:args.size=1):args=#[args.getD 0 undef]:=by
 obtain⟨l⟩:=args
 match l,h with
 |[a],_=>rfl
def JB {x:X}{a b:Value}{d e:D}(h1:RD xe x a d)(h2:RD xe x b e):RD xe x (.tuple #[a,b]) (.tup [d,e]):=by
 refine .tup _ _ rfl fun i hi=>?_
 match i,hi with
 |0,_=>exact h1
 |1,_=>exact h2
def Sa {x:X}{a b c:Value}{d e f:D}(h1:RD xe x a d)(h2:RD xe x b e)(h3:RD xe x c f):RD xe x (.tuple #[a,b,c]) (.tup [d,e,f]):=by
 refine .tup _ _ rfl fun i hi=>?_
 match i,hi with
 |0,_=>exact h1
 |1,_=>exact h2
 |2,_=>exact h3
def tq {x:X}(s:au)(h:s.length<=4294967296):RD xe x (.string ⟨s.toArray⟩) (.str s):=.str s (by simp only[maxLen];omega)
def LF (s:au)(b:UInt8):(ir s b).2.1.length<=s.length:=by
 unfold ir;split<;>simp
def E487:Ow 69 487:=by
 refine bC rfl ?_;rintro s b hp hok x args hl hargs hnl himm ⟨⟨_,m,hm⟩,_⟩;obtain⟨h0,hs⟩:=fD (hargs 0 aR);obtain⟨h1,_⟩:=fD (hargs 1 aR);rw[yI hl,h0,h1];refine kj ou himm (Calls.mono (Tryz.strings_Cut ⟨⟨s⟩⟩ ⟨⟨[b]⟩⟩ m x.w (by show s.length<_;omega) hm) fun e w' ⟨h1,n,h2⟩=>⟨h1,h2▸Hf _ n⟩) (fun x'=>?_);have hc:Lib.cut (⟨⟨s⟩⟩:ByteArray).data.toList (⟨⟨[b]⟩⟩:ByteArray).data.toList=ir s b:=UH s b;rw[hc];have:=(NZ s b).1;have:=LF s b;exact Sa (tq _ ae) (tq _ ae) (.bool _)
def E254:Ow 30 254:=by
 refine bC rfl ?_;rintro s p hp hp2 hok x args hl hargs hnl himm _;obtain⟨h0,hs⟩:=fD (hargs 0 aR);obtain⟨h1,_⟩:=fD (hargs 1 aR);rw[yI hl,h0,h1];refine kj ou himm (Calls.mono (Tryz.strings_CutPrefix ⟨⟨s⟩⟩ ⟨⟨p⟩⟩ x.w) fun e w' ⟨h1,h2⟩=>⟨h1,h2▸gV.refl _⟩) (fun x'=>?_);have hc:(Lib.trimPrefix s p,Lib.hasPrefix s p)=cO s p:=LH s p;have:=G5 s p;rw[<-hc]at this⊢;have h9:(Lib.trimPrefix s p).length<=s.length:=this;exact JB (tq (Lib.trimPrefix s p) ae) (.bool _)
def E336:Ow 183 336:=by
 refine bC rfl ?_;rintro n hp hok x args hl hargs hnl himm ⟨_,_,ht⟩;have h0:=xD (hargs 0 aR);rw[SV hl,h0];refine kj ou himm (Calls.mono (Tryz.strconv_Itoa n ae ae x.w ht) fun e w' ⟨h1,k,os,h2⟩=>⟨h1, ?_⟩) (fun x'=>?_)
 .subst h2;refine⟨rfl,rfl,rfl,by simp[Sort.grow],fun b hb=>?_⟩;show(x.w.heap++os)[b]? =x.w.heap[b]?;rw[Array.getElem?_append,aw hb]
 .rw[RJ hp.1];have:=eP 4 n.toNat ae ae;exact tq _ ae
def qe {fid:Nat}{x:X}{args:Array Value}{ts:List ByteArray}{cap:Nat}{ty:TypeId}{L:List au}(hn:(Tryz.prog.funcs[fid]?).map (fun f=>f.name== "runtime.NumGoroutine" ||!f.body.isSome)=some false)(himm:∀b,x.I b->b<x.w.heap.size)
  (hL:ts.map (fun t=>t.data.toList)=L) (hcap:ts.length<=cap) (hm:cap<=maxLen) (hs:∀t∈L,t.length<=maxLen)
  (hc:Calls Tryz.prog fid args x.w fun e w'=>e=.returned (.slice (some ⟨x.w.heap.size,0,none⟩) ts.length cap)/\w'=x.w.alloc (.cells (Lib.cellsOf ts cap) ty)):
  jV Tryz.prog x (fun v x'=>nO x x'/\RD xe x' v (.sl 1 (L.map D.str))) ((callFunc fid args).run Tryz.prog x.w):=by
 refine rQ hn himm (Calls.mono hc fun e w' ⟨h1,h2⟩=>?_);subst h2;refine⟨_,h1,gV.alloc _ _,fun q=>x.I q\/q=x.w.heap.size,fun _ h=>.inl h,fun q hq=>hq.imp id fun h=>⟨ae,by rw[h];show _<(x.w.heap.push _).size;simp⟩, ?_⟩;have hsl:L.length=ts.length:=by rw[<-hL];simp
 have hget:∀i,i<ts.length->(L.map D.str).getD i .any=.str (ts.getD i default).data.toList:=fun i hi=>by
  rw[<-hL];simp[hi]
 refine .sl _ x.w.heap.size 0 ts.length cap 1 _ (fun i _=>.string (ts.getD i default)) (by simp[hsl]) (.inr ⟨rfl,.inr rfl⟩) hcap hm (fun i hi=>by rw[hget i hi];rfl) (fun i hi=>by rw[hget i hi];rfl) (fun i j hi hj=>?_) (fun i j hi hj=>rfl) (fun i j hi hj=>?_)
 .obtain rfl:j=0:=ae;have:=eO x.w (.cells (Lib.cellsOf ts cap) ty);refine(cell_of_heap (c:=Lib.cellsOf ts cap) (T:=ty) (fr:=(0,0)) this (by rw[Lib.cellsOf_size hcap];omega)).trans ?_;have hi2:i<(ts.map Value.string).length:=by simpa using hi
  simp only[Lib.cellsOf];simp[hi,List.getElem?_append_left hi2]
 .obtain rfl:j=0:=ae;rw[hget i hi];show RD xe _ (.string (ts.getD i default)) (.str (ts.getD i default).data.toList);generalize hq:ts.getD i default=q;have hmem:q.data.toList∈L:=by
   rw[<-hL];refine gD.2 ⟨q, ?_,rfl⟩;rw[<-hq];simp[hi]
  have:=hs _ hmem;obtain⟨⟨ql⟩⟩:=q;exact .str ql this
def Cm {x:X}{s p:au}{m:Int}{L:List au}(hL:∀ts,ts=Lib.splitB ⟨⟨p⟩⟩ 0 (Lib.countB ⟨⟨s⟩⟩ ⟨⟨p⟩⟩) ⟨⟨s⟩⟩->ts.map (fun t=>t.data.toList)=L)(himm:∀b,x.I b->b<x.w.heap.size)(h1:1<=p.length)(hs:s.length<=1048576)(hl:L.length<=1048577)(hb:∀t∈L,t.length<=1048576)
  (hm:x.w.cell? ⟨0,0,none⟩=some (.int .i64 m)):jV Tryz.prog x (fun v x'=>nO x x'/\RD xe x' v (.sl 1 (L.map D.str))) ((callFunc 67 #[.string ⟨⟨s⟩⟩,.string ⟨⟨p⟩⟩]).run Tryz.prog x.w):=by
 have h2:1<=(⟨⟨p⟩⟩:ByteArray).size:=h1;have hlen:=Lib.splitB_all ⟨⟨p⟩⟩ h2 0 _ (⟨⟨s⟩⟩:ByteArray) rfl;have hc:=Tryz.strings_Split ⟨⟨s⟩⟩ ⟨⟨p⟩⟩ m x.w (by show s.length<_;omega) hm h2;rw[<-hlen,<-Lib.cellsOf_full]at hc;have hL2:=hL _ rfl;have hle:(Lib.splitB ⟨⟨p⟩⟩ 0 (Lib.countB ⟨⟨s⟩⟩ ⟨⟨p⟩⟩) ⟨⟨s⟩⟩).length<=maxLen:=by
  have:L.length=(Lib.splitB ⟨⟨p⟩⟩ 0 (Lib.countB ⟨⟨s⟩⟩ ⟨⟨p⟩⟩) ⟨⟨s⟩⟩).length:=by rw[<-hL2];simp
  simp only[maxLen];omega
 exact qe ou himm hL2 (aQ _) hle (fun t ht=>by have:=hb t ht;simp only[maxLen];omega) hc
def vW:∀(s cur:au),(aO s cur).length<=s.length+1/\∀t∈aO s cur,t.length<=cur.length+s.length
 |[],cur=>by simp[aO]
 |[c],cur=>by simp[aO]
 |c::d::r,cur=>by
  unfold aO;split
  .obtain⟨h1,h2⟩:=vW r [];refine⟨by simp only[ax];omega,fun t ht=>?_⟩;rcases dp.1 ht with rfl|ht
   .omega
   .have:=h2 t ht;simp only[ax,aB]at this⊢;omega
  .obtain⟨h1,h2⟩:=vW (d::r) (cur++[c]);refine⟨by simp only[ax]at h1⊢;omega,fun t ht=>?_⟩;have:=h2 t ht;simp only[cb,ax,aB]at this⊢;omega
def E124:Ow 67 124:=by
 refine bC rfl ⟨?_, ?_⟩
 .rintro s b hp hok x args hl hargs hnl himm ⟨⟨_,m,hm⟩,_⟩;obtain⟨h0,hs⟩:=fD (hargs 0 aR);obtain⟨h1,_⟩:=fD (hargs 1 aR);rw[yI hl,h0,h1];have:=dd s b.toNat;exact Cm (fun ts e=>by rw[e];exact Ch b _ (⟨⟨s⟩⟩:ByteArray) rfl) himm (aQ 1) hp ae (fun t ht=>dD (dK s b.toNat ht) hp) hm
 .rintro s hp hok x args hl hargs hnl himm ⟨⟨_,m,hm⟩,_⟩;obtain⟨h0,hs⟩:=fD (hargs 0 aR);obtain⟨h1,_⟩:=fD (hargs 1 aR);rw[yI hl,h0,h1];obtain⟨q1,q2⟩:=vW s [];exact Cm (fun ts e=>by rw[e];exact MS _ (⟨⟨s⟩⟩:ByteArray) rfl) himm aM hp ae (fun t ht=>by have:=q2 t ht;simp only[aB]at this;omega) hm
def Rd (n:Nat)(h:1<=n)(s:au):(si n (ai s 32)).length<=s.length+1/\∀t∈si n (ai s 32),t.length<=s.length:=by
 have hl:=dd s 32;have hj:aV [32] (ai s 32)=s:=by
  have:=kK 32 s [];simpa[ai]using this
 unfold si;split
 .exact⟨hl,fun t ht=>dK s 32 ht⟩
 .rename_i hn;refine⟨by simp only[cb,fX,ax,aB];omega,fun t ht=>?_⟩;rcases List.mem_append.1 ht with ht|ht
  .exact dK s 32 (lf ht)
  .rw[dw.1 ht];have h2:(aV [32] (ai s 32)).length=s.length:=by rw[hj]
   have h3:∀(l:List au) (k:Nat),(aV [32] (l.drop k)).length<=(aV [32] l).length:=by
    intro l;induction l with
    |nil=>simp
    |cons a l ih=>
     intro k;cases k with
     |zero=>simp
     |succ k=>
      refine dD (ih k) ?_;cases l with
      |nil=>simp[aV]
      |cons b l=>rw[gM [32] a (b::l) aR];simp only[cb];omega
   have:=h3 (ai s 32) (n-1);omega
def E245:Ow 159 245:=by
 refine bC rfl ?_;rintro s n hp hn hok x args hl hargs hnl himm ⟨⟨_,m,hm⟩,_⟩;obtain⟨h0,hs⟩:=fD (hargs 0 aR);obtain⟨h1,_⟩:=fD (hargs 1 aR);have h2:=xD (hargs 2 aR);rw[Zf hl,h0,h1,h2];rcases hn with rfl|⟨hn1,hn2⟩
 .have hc:=Im Tryz.lays147 ou ⟨⟨s⟩⟩ ⟨⟨[32]⟩⟩ m x.w (by show s.length<_;omega) hm (aQ 1);have hlen:=Lib.splitB_all ⟨⟨[32]⟩⟩ (aQ 1) 0 _ (⟨⟨s⟩⟩:ByteArray) rfl;have hL:(Lib.splitB ⟨⟨[32]⟩⟩ 0 (Lib.countB ⟨⟨s⟩⟩ ⟨⟨[32]⟩⟩) ⟨⟨s⟩⟩).map (fun t=>t.data.toList)=lX (-1) s:=Ch 32 _ (⟨⟨s⟩⟩:ByteArray) rfl;have hsl:=dd s 32;have hll:(lX (-1) s).length=(Lib.splitB ⟨⟨[32]⟩⟩ 0 (Lib.countB ⟨⟨s⟩⟩ ⟨⟨[32]⟩⟩) ⟨⟨s⟩⟩).length:=by rw[<-hL];simp
  have hw:lX (-1) s=ai s 32:=rfl;rw[hw]at hll;exact qe ou himm hL ae (by simp only[maxLen];omega) (fun t ht=>by have:=dK s 32 ht;simp only[maxLen];omega) hc
 .obtain⟨k,rfl⟩:∃k:Nat,n=k:=⟨n.toNat,ae⟩
  have hc:=Tryz.strings_SplitN ⟨⟨s⟩⟩ ⟨⟨[32]⟩⟩ k m x.w (by show s.length<_;omega) hm (aQ 1) ae ae;have hle:=Lib.splitB_length_le ⟨⟨[32]⟩⟩ 0 (min k ((⟨⟨s⟩⟩:ByteArray).size+1) -1) ⟨⟨s⟩⟩;have hsz:(⟨⟨s⟩⟩:ByteArray).size=s.length:=rfl;obtain⟨q1,q2⟩:=Rd k ae s;refine qe ou himm (L:=lX (k:Int) s) ?_ ae (by simp only[maxLen];omega) (fun t ht=>?_) hc
  .rw[Lib.splitB_data];exact Iw k ae s
  .have:lX (k:Int) s=si k (ai s 32):=by unfold lX;rw[ak ae,Int.toNat_natCast]
   rw[this]at ht;have:=q2 t ht;simp only[maxLen];omega
def Zg {args:Array Value}(h:args.size=4):args=#[args.getD 0 undef,args.getD 1 undef,args.getD 2 undef,args.getD 3 undef]:=by
 obtain⟨l⟩:=args
 match l,h with
 |[a,b,c,d],_=>rfl
def E331:Ow 110 331:=by
 refine bC rfl ?_;rintro s hp hok x args hl hargs hnl himm ⟨⟨_,m,hm⟩,_⟩;obtain⟨h0,hs⟩:=fD (hargs 0 aR);obtain⟨h1,_⟩:=fD (hargs 1 aR);have h2:=xD (hargs 2 aR);have h3:=xD (hargs 3 aR);rw[Zg hl,h0,h1,h2,h3];have hle:=Lib.countB_le ⟨⟨[10]⟩⟩ (aQ 1) (⟨⟨s⟩⟩:ByteArray).size ⟨⟨s⟩⟩ (aQ _);have hlen:=Lib.splitB_all ⟨⟨[10]⟩⟩ (aQ 1) 1 _ (⟨⟨s⟩⟩:ByteArray) rfl;have hc:=Any.strings_genSplit Tryz.lays221 ou ⟨⟨s⟩⟩ ⟨⟨[10]⟩⟩ 1 (-1) (Lib.countB ⟨⟨s⟩⟩ ⟨⟨[10]⟩⟩+1) m x.w (by show s.length<_;omega) hm (aQ 1) (aQ 1) aM aM (by rw[aw aM];omega);rw[Nat.add_sub_cancel]at hc;obtain⟨q1,q2⟩:=R4 s;have hL:=NH _ (⟨⟨s⟩⟩:ByteArray) rfl;have hsz:(⟨⟨s⟩⟩:ByteArray).size=s.length:=rfl;exact qe ou himm hL ae (by simp only[maxLen];omega) (fun t ht=>by have:=q2 t ht;simp only[maxLen];omega) hc
def E244:Ow 65 244:=by
 refine bC rfl ?_;rintro s hp hok x args hl hargs hnl himm _;obtain⟨h0,hs⟩:=fD (hargs 0 aR);obtain⟨h1,_⟩:=fD (hargs 1 aR);rw[yI hl,h0,h1];refine kj ou himm (Calls.mono (Tryz.strings_CutSuffix ⟨⟨s⟩⟩ ⟨⟨[10]⟩⟩ x.w (by show s.length<=_;omega)) fun e w' ⟨h1,h2⟩=>⟨h1,h2▸gV.refl _⟩) (fun x'=>?_);have hc:(Lib.trimSuffix s [10],Lib.hasSuffix s [10])=bS s:=MW s;have:=qh s;rw[<-hc]at this⊢;have h9:(Lib.trimSuffix s [10]).length<=s.length:=this;exact JB (tq (Lib.trimSuffix s [10]) ae) (.bool _)
def E683:Ow 208 683:=by
 refine bC rfl ?_;rintro s b rfl hp hok x args hl hargs hnl himm _;obtain⟨h0,hs⟩:=fD (hargs 0 aR);obtain⟨h1,_⟩:=fD (hargs 1 aR);rw[yI hl,h0,h1];refine kj ou himm (Calls.mono (Tryz.strings_Trim_one ⟨⟨s⟩⟩ 32 aM x.w (by show s.length<=_;omega)) fun e w' ⟨h1,h2⟩=>⟨h1, ?_⟩) (fun x'=>?_)
 .rcases h2 with rfl|rfl
  .exact gV.refl _
  .exact⟨rfl,rfl,rfl,aQ _,fun _ _=>rfl⟩
 .have:Lib.trimB (⟨⟨s⟩⟩:ByteArray).data.toList 32=eH s:=NQ s;rw[this];have hb:(eH s).length<=s.length:=by
   unfold eH;have h1:=rJ s;have h2:=rJ (kE s).reverse;simp only[List.length_reverse]at h2⊢;omega
  exact tq _ ae
def E469:Ow 86 469:=by
 refine bC rfl ?_;rintro l hp hok x args hl hargs hnl himm _;have h0:=hargs 0 aR;rw[SV hl];simp only[kf]at h0;generalize args.getD 0 undef=v0 at h0⊢;cases h0 with
 |sl a b off len cap k es c hlen ha hcap hm hk hn hc h1 h=>
  simp only[bQ]at hlen;subst hlen;have fin:∀(e:Ending) (w':World) v' ty,e=.returned v'->w'.ownsRow x.w.heap.size ty 1 v' l.length (l.map fun t=>Value.string ⟨⟨t⟩⟩)->Go.RowKit.Below x.w.heap.size x.w w'->
    ∃v,e=.returned v/\gV x.w w'/\∃I:Nat->Prop,(∀b,x.I b->I b)/\(∀b,I b->x.I b\/x.w.heap.size<=b/\b<w'.heap.size)/\RD xe ⟨w',I,x.β⟩ v (.sl 1 (l.map D.str)):=by
   rintro e w' v' ty rfl ⟨hxl,ho⟩ hB;refine⟨v',rfl,⟨hB.os,hB.tape,hB.output,hB.size,hB.block⟩, ?_⟩;rcases ho with⟨rfl,hl0⟩|⟨g,cap',cur,rfl,hg,hh,hle,hml,hcs,htk⟩
   .have:l=[]:=qj.1 hl0;subst this;exact⟨x.I,fun _ h=>h,fun _ h=>.inl h,.sl none 0 0 0 0 1 [] (fun _ _=>.nilIface) rfl (.inl rfl) (aQ _) (by simp[maxLen]) (fun i hi=>ae) (fun i hi=>ae) (fun i j hi=>ae) (fun i j hi=>ae) (fun i j hi=>ae)⟩
   .have hgl:g<w'.heap.size:=(Array.getElem?_eq_some_iff.1 hh).1;have hgt:∀i (hi:i<l.length),((l.map D.str).getD i .any)=.str l[i]:=fun i hi=>by simp[hi]
    refine⟨fun q=>x.I q\/q=g,fun _ h=>.inl h,fun q hq=>hq.imp id fun h=>by subst h;exact⟨hg,hgl⟩, ?_⟩;refine .sl _ g 0 l.length cap' 1 _ (fun i _=>.string ⟨⟨l.getD i []⟩⟩) aR (.inr ⟨rfl,.inr rfl⟩) hle hml (fun i hi=>by rw[hgt i hi];rfl) (fun i hi=>by rw[hgt i hi];rfl) (fun i j hi hj=>?_) (fun _ _ _ _=>rfl) (fun i j hi hj=>?_)
    .obtain rfl:j=0:=ae;refine(cell_of_heap (c:=cur) (T:=ty) (fr:=(0,0)) hh ae).trans ?_;have e1:cur.toList[i]? =some (.string ⟨⟨l.getD i []⟩⟩):=by
      have e2:(cur.toList.take (l.length*1))[i]? =(l.map fun t=>Value.string ⟨⟨t⟩⟩)[i]? :=by rw[htk]
      rw[List.getElem?_take,aw ae]at e2;rw[e2];simp[hi]
     have e3:cur[i]? =some (.string ⟨⟨l.getD i []⟩⟩):=by rw[<-e1];simp
     rw[show(0+i*1+0:Nat)=i by omega,Array.getD_eq_getD_getElem?,e3];rfl
    .obtain rfl:j=0:=ae;rw[hgt i hi];have q2:=h i 0 hi ae;rw[hgt i hi]at q2;obtain⟨_,q3⟩:=fD q2;have:l.getD i []=l[i]:=by simp[hi]
     rw[this];exact .str _ q3
  rcases ha with he|⟨rfl,hI⟩
  .have hnil:l=[]:=by simpa using he
   subst hnil;cases a with
   |none=>exact kj ou himm (Calls.mono (Tryz.slices_Clone_string_nil 0 cap x.w) fun e w' ⟨h1,h2⟩=>⟨h1,h2▸gV.refl _⟩) (fun x'=>.sl none 0 0 0 0 1 [] (fun _ _=>.nilIface) rfl (.inl rfl) (aQ _) (by simp[maxLen]) (fun i hi=>ae) (fun i hi=>ae) (fun i j hi=>ae) (fun i j hi=>ae) (fun i j hi=>ae))
   |some a=>exact rQ ou himm (Calls.mono (Tryz.slices_Clone_string_zero a cap x.w) fun e w' ⟨v',h1,h2,_,h3⟩=>fin e w' v' _ h1 h2 h3)
  .have hcell:∀i,(hi:i<l.length)->x.w.cell? ⟨b,off+i,none⟩=some (.string ⟨⟨l[i]⟩⟩):=fun i hi=>by
    have q1:=hc i 0 hi ae;have q2:=h i 0 hi ae;have e:((l.map D.str).getD i .any).cells.getD 0 .any=.str l[i]:=by simp[hi,D.cells]
    rw[e]at q2;rw[(fD q2).1]at q1;simpa using q1
   refine rQ ou himm (Calls.mono (Tryz.slices_Clone_string b off l.length cap (l.map fun t=>⟨⟨t⟩⟩) x.w aR ae (fun j hj=>?_)) fun e w' ⟨v',h1,h2,_,h3⟩=>?_)
   .rw[bQ]at hj;rw[hcell j hj];simp[hj]
   .have:((l.map fun t=>(⟨⟨t⟩⟩:ByteArray)).take l.length).map Value.string=l.map fun t=>Value.string ⟨⟨t⟩⟩:=by
     rw[ey aR,List.map_map];rfl
    rw[this]at h2;exact fin e w' v' _ h1 h2 h3
def E489:Ow 21 489:=mW rfl fun ds st K h hok=>Rv rfl rfl Tryz.IH Tryz.UE (Go.Proofs.enters_of Tryz.IH.f166 ou rfl) ds st K h hok
def E664:Ow 144 664:=mW rfl fun ds st K h hok=>Ru rfl rfl Tryz.II Tryz.UE (Go.Proofs.enters_of Tryz.II.f167 ou rfl) ds st K h hok
def E452:Ow 24 452:=mW rfl fun ds st K h hok=>Rt rfl rfl Tryz.IJ Tryz.UE (Go.Proofs.enters_of Tryz.IJ.f169 ou rfl) ds st K h hok
def zl (sep:au)(B:Nat):∀l:List au,(∀t∈l,t.length<=B)->(aV sep l).length<=l.length*(B+sep.length)
 |[],_=>by simp[aV]
 |[t],h=>by have:=h t (.head _);simp only[aV,ax,aB];omega
 |t::u::r,h=>by
  have h1:=h t (.head _);have h2:=zl sep B (u::r) fun x hx=>h x (.tail _ hx)
  rw[gM _ _ _ aR];rw[ax,Nat.succ_mul];simp only[cb];omega
def E242:Ow 35 242:=by
 refine bC rfl ?_;rintro l sep hp1 hp2 hp3 hok x args hl hargs hnl himm _;have h0:=hargs 0 aR;obtain⟨h1,_⟩:=fD (hargs 1 aR);rw[yI hl,h1];have hj:=zl sep 2097200 l hp3;have hj2:=fh (2097200+sep.length) hp1;have hj3:1048600*(2097200+sep.length)<=140737488355328:=by
  have:=Nat.mul_le_mul_left 1048600 (show 2097200+sep.length<=2097204 by omega);omega
 have hjm:(aV sep l).length<=140737488355328:=ae;simp only[kf]at h0;generalize args.getD 0 undef=v0 at h0⊢;cases h0 with
 |sl a b off len cap k es c hlen ha hcap hm hk hn hc h1 h=>
  simp only[bQ]at hlen;subst hlen;rcases ha with he|⟨rfl,hI⟩
  .have hnil:l=[]:=by simpa using he
   subst hnil;refine kj ou himm (Calls.mono (Tryz.strings_Join_none a cap ⟨⟨sep⟩⟩ x.w) fun e w' ⟨h1,h2⟩=>⟨h1,h2▸gV.refl _⟩) (fun x'=>?_);exact tq [] aR
  .have hcell:∀i,(hi:i<l.length)->x.w.cell? ⟨b,off+i,none⟩=some (.string ⟨⟨l[i]⟩⟩):=fun i hi=>by
    have q1:=hc i 0 hi ae;have q2:=h i 0 hi ae;have e:((l.map D.str).getD i .any).cells.getD 0 .any=.str l[i]:=by simp[hi,D.cells]
    rw[e]at q2;rw[(fD q2).1]at q1;simpa using q1
   have e2:(l.map fun t=>(⟨⟨t⟩⟩:ByteArray)).map (fun t=>t.data.toList)=l:=by rw[List.map_map];exact List.map_id l
   have hjl:Lib.join ((l.map fun t=>(⟨⟨t⟩⟩:ByteArray)).map (fun t=>t.data.toList)) (⟨⟨sep⟩⟩:ByteArray).data.toList=aV sep l:=by rw[e2];exact(EY sep l).symm
   have key:=Tryz.strings_Join b off cap (l.map fun t=>⟨⟨t⟩⟩) ⟨⟨sep⟩⟩ x.w (fun j y hy=>by
    rw[List.getElem?_map,dZ]at hy;obtain⟨t,ht,rfl⟩:=hy;obtain⟨hlt,rfl⟩:=List.getElem?_eq_some_iff.1 ht;exact hcell j hlt) (himm b hI) cY (by simpa using hcap) (by rw[hjl];exact hjm)
   rw[hjl,bQ]at key;refine kj ou himm (Calls.mono key fun e w' ⟨h1,h2⟩=>⟨h1,h2.os,h2.tape,h2.output,h2.size,h2.block⟩) (fun x'=>?_);exact .str _ (by simp only[maxLen];omega)
end
section
section
variable [dI]
def H15:Ow 4 15:=bC rfl fun s=>aW bn ck rfl (w15 bo G85 G86 G87 G88 s)
def H75:Ow 60 75:=bC rfl fun r hp0=>aW bn ck rfl (w75 bo G73 G221 r hp0)
def H87:Ow 14 87:=bC rfl fun s hp0=>aW bn ck rfl (w87 bo Yc G258 G259 G260 G261 G262 s hp0)
def H212:Ow 97 212:=bC rfl fun s=>aW bn ck rfl (w212 bo G445 G446 s)
def H218:Ow 106 218:=bC rfl fun r hp0=>aW bn ck rfl (w218 bo G457 G458 G459 G460 r hp0)
def H224:Ow 125 224:=mW rfl fun x t hp0 hp1 hp2 nx j0 j1 j2 j3 j4 m K h1 h2 h3 hK=>rj rfl bn ck rfl h1 h2 h3 hK (w224 bo t x.r.name x.r.v x.r.needs x.r.bars x.r.feats x.st tH G471 G472 G473 Yp Uk G476 hp2 hp0.1 hp0.2.1 hp0.2.2 (by unfold jc.sz at hp1;omega))
def H251:Ow 11 251:=bC rfl fun s hp0=>aW bn ck rfl (w251 bo G72 G353 Yl Ys G497 s hp0)
def H258:Ow 38 258:=bC rfl fun t hp0=>aW bn ck rfl (w258 bo NA tH t hp0)
def H295:Ow 72 295:=bC rfl fun a b hp0=>aW bn ck rfl (w295 bo Lk G530 G531 Yt NC G534 a b hp0)
def H440:Ow 133 440:=bC rfl fun n=>aW bn ck rfl (w440 bo n)
def H446:Ow 140 446:=bC rfl fun m=>aW bn ck rfl (w446 bo Yx Yy m)
def H453:Ow 102 453:=bC rfl fun c=>aW bn ck rfl (w453 bo c)
def H459:Ow 151 459:=bC rfl fun l hp0=>aW bn ck rfl (w459 bo Ln G671 l hp0)
def H465:Ow 114 465:=ZD rfl XR (fun r w n op hp0 hp1 hp2=>EK 2 bn ck rfl rfl (w465 bo Ye Yf r w n op hp0 hp1 hp2)) fun r w n op l nx m K hp0 hp1 hp2 hl hK=>Rs (EK 2 bn ck rfl rfl (w465 bo Ye Yf r w n op hp0 hp1 hp2)) hl rfl rfl hK
def H472:Ow 168 472:=mW rfl fun x t hp0 hp1 hp2 hp3 nx j0 j1 j2 j3 j4 m K h1 h2 h3 hK=>rj rfl bn ck rfl h1 h2 h3 hK (w472 bo t x.r.name x.r.v x.r.needs x.r.bars x.r.feats x.st tH Uk hp0 hp1 hp2 hp3)
def H482:Ow 91 482:=bC rfl fun c hp0=>aW bn ck rfl (w482 bo NB YD G677 YE c hp0)
def H500:Ow 74 500:=bC rfl fun s=>aW bn ck rfl (w500 bo G688 s)
def H532:Ow 121 532:=bC rfl fun a b=>aW bn ck rfl (w532 bo G714 a b)
def H630:Ow 173 630:=bC rfl fun a b=>aW bn ck rfl (w630 bo a b)
def H662:Ow 181 662:=bC rfl fun l hp0=>aW bn ck rfl (w662 bo G811 l hp0)
def H669:Ow 187 669:=bC rfl fun r w al hp0=>aW bn ck rfl (w669 bo NA Yu G812 r w al hp0)
def H675:Ow 161 675:=bC rfl fun s b=>aW bn ck rfl (w675 bo s b)
def H685:Ow 210 685:=bC rfl fun r hp0=>aW bn ck rfl (w685 bo Um r hp0)
def H704:Ow 203 704:=bC rfl fun x=>aW bn ck rfl (w704 bo x)
def H745:Ow 220 745:=bC rfl fun r hp0=>aW bn ck rfl (w745 bo Uo G901 r hp0)
def H812:Ow 216 812:=bC rfl fun l al=>aW bn ck rfl (w812 bo Ln YH l al)
def H827:Ow 237 827:=bC rfl fun c hp0=>aW bn ck rfl (w827 bo Lk c hp0)
def H899:Ow 252 899:=bC rfl fun r hp0=>aW bn ck rfl (w899 bo YD r hp0)
def H948:Ow 241 948:=mW rfl fun x w nd b hp0 nx lp ln m K h1 h2 h3 h4 hK=>gE rh aM rfl (fun _=>rfl) bn ck rfl h1 h2 h3 h4 hK (w948 bo x w nd b hp0)
def H954:Ow 248 954:=bC rfl fun l hp0=>aW bn ck rfl (w954 bo X2 l hp0)
def YV:Ow 273 1008:=bC rfl fun l=>aW bn ck rfl (Z1 bo QX l)
def Y1:Ow 270 1036:=bC rfl fun l i hp0=>aW bn ck rfl (Z7 bo SM X5 l i (Uh (aQ _)) hp0)
def Y7:Ow 290 1126:=mW rfl fun W w nd hp0 hp1 nx lp ln m K h1 h2 h3 h4 hK=>gE (tp _) aM rfl (fun _=>rfl) bn ck rfl h1 h2 h3 h4 hK (w1126 bo W w nd Ln IA SM X7 hp0 hp1)
end
end
section
section
variable [dI]
def H70:Ow 56 70:=bC rfl fun r hp0=>aW bn ck rfl (w70 bo Nz Lk G210 X8 X9 G213 G214 Ya r hp0)
def H76:Ow 34 76:=bC rfl fun s=>aW bn ck rfl (w76 bo G70 Ny G222 s)
def H88:Ow 15 88:=bC rfl fun a b=>aW bn ck rfl (w88 bo G263 a b)
def H213:Ow 98 213:=bC rfl fun l hp0=>aW bn ck rfl (w213 bo Lm G447 Yj G449 l hp0)
def H219:Ow 63 219:=bC rfl fun r hp0=>aW bn ck rfl (w219 bo NB G316 G461 G462 r hp0)
def H225:Ow 127 225:=bC rfl fun a b=>aW bn ck rfl (w225 bo G477 a b)
def H252:Ow 28 252:=bC rfl fun s hp0=>aW bn ck rfl (w252 bo G239 s hp0)
def H259:Ow 39 259:=bC rfl fun t hp0=>aW bn ck rfl (w259 bo tH G500 t hp0)
def H316:Ow 107 316:=bC rfl fun v hp0=>aW bn ck rfl (w316 bo Ll G554 v hp0)
def H441:Ow 134 441:=bC rfl fun s hp0=>aW bn ck rfl (w441 bo Yi NC QW Yv s hp0)
def H447:Ow 141 447:=bC rfl fun l=>aW bn ck rfl (w447 bo l)
def H454:Ow 103 454:=bC rfl fun c=>aW bn ck rfl (w454 bo c)
def H460:Ow 152 460:=bC rfl fun r of hp0=>aW bn ck rfl (w460 bo YC G673 G674 r of hp0)
def H466:Ow 115 466:=bC rfl fun s hp0=>aW bn ck rfl (w466 bo Lk Yk NC QW G675 s hp0)
def H473:Ow 169 473:=mW rfl fun x t hp0 hp1 hp2 hp3 hp4 nx j0 j1 j2 j3 j4 m K h1 h2 h3 hK=>rj rfl bn ck rfl h1 h2 h3 hK (w473 bo t x.r.name x.r.v x.r.needs x.r.bars x.r.feats x.st Uk hp0 hp1 hp2 hp3 hp4)
def H494:Ow 202 494:=bC rfl fun l x=>aW bn ck rfl (w494 bo l x)
def H501:Ow 76 501:=bC rfl fun a b hp0=>aW bn ck rfl (w501 bo Ll G424 a b hp0)
def H533:Ow 122 533:=bC rfl fun s b hp0=>aW bn ck rfl (w533 bo s b hp0)
def H631:Ow 174 631:=bC rfl fun a b hp0=>aW bn ck rfl (w631 bo tH Ul G783 a b hp0)
def H663:Ow 182 663:=bC rfl fun l nm=>aW bn ck rfl (w663 bo l nm)
def H670:Ow 188 670:=bC rfl fun s=>aW bn ck rfl (w670 bo G813 G814 s)
def H676:Ow 130 676:=bC rfl fun c hp0=>aW bn ck rfl (w676 bo Ll c hp0)
def H686:Ow 58 686:=bC rfl fun k hp0=>aW bn ck rfl (w686 bo k hp0)
def H714:Ow 164 714:=bC rfl fun x=>aW bn ck rfl (w714 bo x)
def H783:Ow 205 783:=bC rfl fun a b=>aW bn ck rfl (w783 bo Ul QX YA G927 a b)
def H813:Ow 217 813:=bC rfl fun s=>aW bn ck rfl (w813 bo tH G952 YQ s)
def H828:Ow 238 828:=bC rfl fun c hp0=>aW bn ck rfl (w828 bo Yz Un YS c hp0)
def H900:Ow 253 900:=bC rfl fun r hp0=>aW bn ck rfl (w900 bo Yq r hp0)
def H949:Ow 242 949:=mW rfl fun w nd hp0 nx lp ln m K h1 h2 h3 h4 hK=>gE rh aM rfl (fun _=>rfl) bn ck rfl h1 h2 h3 h4 hK (w949 bo w nd (Yw (Nat.le_of_eq (nZ (c:=fun _=>0) h1).symm)) QY QZ (SP (Nat.le_of_eq (nZ (c:=fun _=>0) h1).symm)) X0 hp0)
def H955:Ow 255 955:=bC rfl fun l nm=>aW bn ck rfl (w955 bo l nm)
def YW:Ow 261 1031:=mW rfl fun k w nd b hp0 nx lp ln m K h1 h2 h3 h4 hK=>gE rh aM rfl (fun _=>rfl) bn ck rfl h1 h2 h3 h4 hK (Z2 bo k w nd b Lm QY QZ YN hp0)
def Y2:Ow 285 1079:=bC rfl fun s w=>aW bn ck rfl (Z8 bo s w)
def Y8:Ow 291 1141:=mW rfl fun W w nd b hp0 nx lp ln m K h1 h2 h3 h4 hK=>vM (tp _) aM rfl (fun _=>rfl) bn ck rfl h1 h2 h3 h4 hK (w1141 bo W w nd b hp0)
end
end
section
section
variable [dI]
def H71:Ow 62 71:=bC rfl fun r hp0=>aW bn ck rfl (w71 bo NA Ll G218 Yb r hp0)
def H77:Ow 75 77:=bC rfl fun s=>aW bn ck rfl (w77 bo G71 Yc G224 s)
def H208:Ow 31 208:=bC rfl fun s=>aW bn ck rfl (w208 bo s)
def H214:Ow 99 214:=bC rfl fun r s hp0=>aW bn ck rfl (w214 bo Yj r s hp0)
def H220:Ow 80 220:=bC rfl fun s=>aW bn ck rfl (w220 bo G463 s)
def H226:Ow 128 226:=bC rfl fun a b=>aW bn ck rfl (w226 bo a b)
def H253:Ow 29 253:=bC rfl fun s hp0=>aW bn ck rfl (w253 bo G244 s hp0)
def H260:Ow 40 260:=bC rfl fun t hp0=>aW bn ck rfl (w260 bo tH t hp0)
def H349:Ow 137 349:=bC rfl fun s=>aW bn ck rfl (w349 bo s)
def H442:Ow 135 442:=bC rfl fun s hp0=>aW bn ck rfl (w442 bo NC s hp0)
def H448:Ow 142 448:=bC rfl fun s hp0=>aW bn ck rfl (w448 bo Nz Yg Lm Yr s hp0)
def H455:Ow 147 455:=bC rfl fun n=>aW bn ck rfl (w455 bo n)
def H461:Ow 108 461:=bC rfl fun w hp0=>aW bn ck rfl (w461 bo NB w hp0)
def H467:Ow 116 467:=Vh rfl XS fun r hp0=>EK 2 bn ck rfl rfl (w467 bo Ny Yn Yo r hp0)
def H474:Ow 170 474:=bC rfl fun l n=>aW bn ck rfl (w474 bo l n)
def H495:Ow 177 495:=bC rfl fun s hp0=>aW bn ck rfl (w495 bo Ny G682 G683 Um G685 YL s hp0)
def H511:Ow 47 511:=bC rfl fun l nm v hp0=>aW bn ck rfl (w511 bo G699 l nm v hp0)
def H534:Ow 123 534:=bC rfl fun a b=>aW bn ck rfl (w534 bo G516 Yt QW Yv a b)
def H658:Ow 162 658:=bC rfl fun s=>aW bn ck rfl (w658 bo s)
def H665:Ow 145 665:=bC rfl fun n hp0=>aW bn ck rfl (w665 bo G336 n hp0)
def H671:Ow 191 671:=bC rfl fun l of hp0=>aW bn ck rfl (w671 bo YC YH G816 l of hp0)
def H677:Ow 131 677:=mW rfl fun c hp0 nx m K hK=>M0 rfl rfl bn ck rfl rfl hK (w677 bo c YF hp0)
def H688:Ow 124 688:=bC rfl fun c hp0=>aW bn ck rfl (w688 bo c hp0)
def H734:Ow 176 734:=bC rfl fun n hp0=>aW bn ck rfl (w734 bo G882 n hp0)
def H808:Ow 211 808:=mW rfl ⟨fun w nd hp0 nx lp ln m K h1 h2 h3 h4 hK=>gE rh aM rfl (fun _=>rfl) bn ck rfl h1 h2 h3 h4 hK (w808 bo kH 809 qA 4 w nd Up QY QZ hp0 yQ aM aM (fun w2 nd2 hl hp=>YG (aQ _) w2 nd2 hp (by rw[nZ h1];exact(show 6*w2.length+2<6*w.length+3 by omega)))),fun w nd hp0 nx lp ln m K h1 h2 h3 h4 hK=>gE rh aM rfl (fun _=>rfl) bn ck rfl h1 h2 h3 h4 hK (w808 bo jY 949 lz 3 w nd Up QY QZ hp0 vj aM aM (fun w2 nd2 hl hp=>SP (aQ _) w2 nd2 hp (by rw[nZ h1];exact(show 6*w2.length+0<6*w.length+1 by omega))))⟩
def H814:Ow 218 814:=bC rfl fun m=>aW bn ck rfl (w814 bo YQ YR m)
def H882:Ow 206 882:=bC rfl fun n hp0=>aW bn ck rfl (w882 bo n hp0)
def H901:Ow 254 901:=bC rfl fun r hp0=>aW bn ck rfl (w901 bo YJ Uo r hp0)
def H950:Ow 243 950:=bC rfl (aW bn ck rfl (w950 bo))
def H956:Ow 256 956:=bC rfl fun s w=>aW bn ck rfl (w956 bo s w)
def YX:Ow 266 1032:=mW rfl fun W w nd hp0 hp1 nx lp ln m K h1 h2 h3 h4 hK=>gE (tp _) aM rfl (fun _=>rfl) bn ck rfl h1 h2 h3 h4 hK (Z3 bo W w nd Nw IA (Nx (Nat.le_of_eq (tg (c:=fun _=>1) hp0.1 h1).symm)) hp0 hp1)
def Y3:Ow 281 1097:=mW rfl fun W w nd hp0 hp1 nx lp ln m K h1 h2 h3 h4 hK=>gE (tp _) aM rfl (fun _=>rfl) bn ck rfl h1 h2 h3 h4 hK (Z9 bo W w nd (YP (Nat.le_of_eq (tg (c:=fun _=>0) hp0.1 h1).symm)) Nw IA (Nx (Nat.le_of_eq (tg (c:=fun _=>0) hp0.1 h1).symm)) X6 hp0 hp1)
end
end
section
section
variable [dI]
def H72:Ow 22 72:=bC rfl fun r hp0=>aW bn ck rfl (w72 bo G70 Ya r hp0)
def H78:Ow 78 78:=bC rfl fun a b=>aW bn ck rfl (w78 bo G225 Yd a b)
def H209:Ow 94 209:=bC rfl fun v hp0=>aW bn ck rfl (w209 bo G440 G441 Yi v hp0)
def H215:Ow 57 215:=bC rfl fun r hp0=>aW bn ck rfl (w215 bo QV G450 Yk Yl r hp0)
def H221:Ow 104 221:=bC rfl fun s=>aW bn ck rfl (w221 bo G464 s)
def H239:Ow 64 239:=bC rfl fun s hp0=>aW bn ck rfl (w239 bo G331 s hp0)
def H255:Ow 32 255:=bC rfl fun s hp0=>aW bn ck rfl (w255 bo Ny Ui G499 s hp0)
def H261:Ow 41 261:=mW rfl fun nm es y t hp0 nx lp ln m K h1 h2 h3 h4 hK1 hK2=>NG bn ck rfl h1 h2 h3 h4 hK1 hK2 (w261 bo nm es y t G75 G77 G501 hp0)
def H353:Ow 20 353:=bC rfl fun s hp0=>aW bn ck rfl (w353 bo G74 Nz G511 s hp0)
def H443:Ow 136 443:=bC rfl fun r w al hp0=>aW bn ck rfl (w443 bo X8 Lm r w al hp0)
def H449:Ow 143 449:=bC rfl fun l nm=>aW bn ck rfl (w449 bo G663 l nm)
def H456:Ow 148 456:=bC rfl fun s p hp0=>aW bn ck rfl (w456 bo tH G666 QX YA s p hp0)
def H462:Ow 109 462:=bC rfl fun s hp0=>aW bn ck rfl (w462 bo s hp0)
def H468:Ow 117 468:=Vh rfl XT fun r hp0=>EK 2 bn ck rfl rfl (w468 bo Yn r hp0)
def H475:Ow 171 475:=bC rfl fun s n hp0 hp1=>aW bn ck rfl (w475 bo NB tH s n hp0 hp1)
def H496:Ow 178 496:=bC rfl fun r hp0=>aW bn ck rfl (w496 bo Um r hp0)
def H516:Ow 166 516:=bC rfl fun a b=>aW bn ck rfl (w516 bo G704 a b)
def H554:Ow 153 554:=bC rfl fun v hp0=>aW bn ck rfl (w554 bo YF v hp0)
def H659:Ow 165 659:=bC rfl fun t=>aW bn ck rfl (w659 bo t)
def H666:Ow 184 666:=bC rfl fun t=>aW bn ck rfl (w666 bo t)
def H672:Ow 192 672:=bC rfl fun s hp0=>aW bn ck rfl (w672 bo NA Ln tH s hp0)
def H678:Ow 132 678:=bC rfl fun op=>aW bn ck rfl (w678 bo op)
def H699:Ow 81 699:=bC rfl fun l nm v hp0=>aW bn ck rfl (w699 bo G700 l nm v hp0)
def H741:Ow 226 741:=bC rfl fun s b=>aW bn ck rfl (w741 bo s b)
def H809:Ow 212 809:=mW rfl fun w nd hp0 nx lp ln m K h1 h2 h3 h4 hK=>gE rh aM rfl (fun _=>rfl) bn ck rfl h1 h2 h3 h4 hK (w809 bo w nd (SN (Nat.le_of_eq (nZ (c:=fun _=>2) h1).symm)) hp0)
def H815:Ow 221 815:=bC rfl fun l=>aW bn ck rfl (w815 bo l)
def H896:Ow 249 896:=bC rfl fun s hp0=>aW bn ck rfl (w896 bo s hp0)
def H927:Ow 228 927:=bC rfl fun a b=>aW bn ck rfl (w927 bo a b)
def H951:Ow 244 951:=bC rfl fun l i b hp0=>aW bn ck rfl (w951 bo l i b (SO (aQ _)) hp0)
def H957:Ow 257 957:=bC rfl fun op=>aW bn ck rfl (w957 bo op)
def YY:Ow 267 1033:=mW rfl fun s W w nd b hp0 nx lp ln m K h1 h2 h3 h4 hK=>vM (tp _) aM rfl (fun _=>rfl) bn ck rfl h1 h2 h3 h4 hK (Z4 bo s W w nd b hp0)
def Y4:Ow 282 1098:=bC rfl fun n=>aW bn ck rfl (w1098 bo Ln n)
end
end
section
section
variable [dI]
def H73:Ow 26 73:=bC rfl fun r hp0=>aW bn ck rfl (w73 bo G71 Yb r hp0)
def H85:Ow 10 85:=bC rfl (aW bn ck rfl (w85 bo G251 YK))
def H210:Ow 95 210:=bC rfl fun r n hp0=>aW bn ck rfl (w210 bo X9 Lm G443 r n hp0)
def H216:Ow 59 216:=bC rfl fun s=>aW bn ck rfl (w216 bo Ym Uj s)
def H222:Ow 70 222:=Vh rfl XQ fun r hp0=>EK 2 bn ck rfl rfl (w222 bo G466 G467 Yo G469 YM r hp0)
def H246:Ow 160 246:=bC rfl fun l x=>aW bn ck rfl (w246 bo G494 l x)
def H256:Ow 33 256:=bC rfl fun s hp0=>aW bn ck rfl (w256 bo Ui Yr s hp0)
def H262:Ow 42 262:=bC rfl fun l en hp0=>aW bn ck rfl (w262 bo NB l en hp0)
def H357:Ow 189 357:=bC rfl fun s=>aW bn ck rfl (w357 bo Ym Uj s)
def H444:Ow 138 444:=bC rfl fun s hp0=>aW bn ck rfl (w444 bo G495 G496 s hp0)
def H450:Ow 100 450:=mW rfl fun ws t l lw nx m K h1 h2 h3 h4 hp2 hK=>L1 bn ck rfl h1 h2 h3 h4 hK fun m0 hp0 hp1=>w450 bo ws t m0 QV Ys G664 hp0 hp1 hp2
def H457:Ow 149 457:=bC rfl fun r n hp0=>aW bn ck rfl (w457 bo Ln G669 YB r n hp0)
def H463:Ow 129 463:=bC rfl fun h k hp0=>aW bn ck rfl (w463 bo h k hp0)
def H470:Ow 73 470:=bC rfl fun s b hp0=>aW bn ck rfl (w470 bo s b hp0)
def H476:Ow 172 476:=mW rfl fun x l hp0 hp1 nx j0 j1 j2 j3 j4 m K h1 h2 h3 hK=>rj (by simp only[bE,D.bK,m3]) bn ck rfl h1 h2 h3 hK (w476 bo l x.r.name x.r.v x.r.needs x.r.bars x.r.feats x.st Yp hp0 hp1)
def H497:Ow 23 497:=bC rfl fun n=>aW bn ck rfl (w497 bo G686 n)
def H530:Ow 119 530:=bC rfl fun v=>aW bn ck rfl (w530 bo v)
def H568:Ow 204 568:=bC rfl fun s hp0=>aW bn ck rfl (w568 bo Ll tH G741 G742 s hp0)
def H660:Ow 179 660:=mW rfl fun w nd hp0 nx lp ln m K h1 h2 h3 h4 hK=>gE rh aM rfl (fun _=>rfl) bn ck rfl h1 h2 h3 h4 hK (w660 bo w nd (SN (Nat.le_of_eq (nZ (c:=fun _=>4) h1).symm)) hp0)
def H667:Ow 185 667:=bC rfl fun s=>aW bn ck rfl (w667 bo Uj s)
def H673:Ow 193 673:=bC rfl fun r x=>aW bn ck rfl (w673 bo r x)
def H682:Ow 207 682:=bC rfl fun s hp0=>aW bn ck rfl (w682 bo G819 s hp0)
def H700:Ow 82 700:=bC rfl fun x nm v hp0=>aW bn ck rfl (w700 bo G701 x nm v hp0)
def H742:Ow 227 742:=bC rfl fun l=>aW bn ck rfl (w742 bo QX l)
def H810:Ow 213 810:=bC rfl fun l=>aW bn ck rfl (w810 bo Lm l)
def H816:Ow 222 816:=bC rfl fun l nm=>aW bn ck rfl (w816 bo G955 l nm)
def H897:Ow 250 897:=bC rfl fun s hp0=>aW bn ck rfl (w897 bo tH Yq XX XY XZ s hp0)
def H946:Ow 239 946:=bC rfl fun w es b=>aW bn ck rfl (w946 bo w es b)
def H952:Ow 246 952:=mW rfl fun W w nd hp0 hp1 nx lp ln m K h1 h2 h3 h4 hK=>gE (tp _) aM rfl (fun _=>rfl) bn ck rfl h1 h2 h3 h4 hK (w952 bo W w nd (Ug (Nat.le_of_eq (tg (c:=fun _=>2) hp0.1 h1).symm)) Nw IA hp0 hp1)
def YT:Ow 271 1006:=bC rfl fun s=>aW bn ck rfl (ZZ bo YE X3 s)
def YZ:Ow 268 1034:=mW rfl fun x W w nd b hp0 nx lp ln m K h1 h2 h3 h4 hK=>gE (tp _) aM rfl (fun _=>rfl) bn ck rfl h1 h2 h3 h4 hK (Z5 bo x W w nd b hp0)
def Y5:Ow 283 1099:=bC rfl fun k hp0=>aW bn ck rfl (w1099 bo k hp0)
end
end
section
section
variable [dI]
def H74:Ow 46 74:=bC rfl fun r hp0=>aW bn ck rfl (w74 bo G72 G220 r hp0)
def H86:Ow 13 86:=bC rfl fun s hp0=>aW bn ck rfl (w86 bo G76 Nz QV G252 Ui Yg G255 G256 G257 s hp0)
def H211:Ow 96 211:=bC rfl fun r name uB hp0=>aW bn ck rfl (w211 bo Nz G444 r name uB hp0)
def H217:Ow 105 217:=bC rfl fun v hp0=>aW bn ck rfl (w217 bo G455 G456 v hp0)
def H223:Ow 37 223:=bC rfl fun s hp0=>aW bn ck rfl (w223 bo tH s hp0)
def H249:Ow 77 249:=bC rfl fun l x hp0=>aW bn ck rfl (w249 bo l x hp0)
def H257:Ow 36 257:=bC rfl fun s r n hp0=>aW bn ck rfl (w257 bo G74 Yh s r n hp0)
def H263:Ow 43 263:=bC rfl fun a b=>aW bn ck rfl (w263 bo G78 a b)
def H424:Ow 126 424:=bC rfl fun a b hp0=>aW bn ck rfl (w424 bo Ll Ul G631 a b hp0)
def H445:Ow 139 445:=bC rfl fun s=>aW bn ck rfl (w445 bo Ny G660 Yx s)
def H451:Ow 101 451:=bC rfl fun v hp0=>aW bn ck rfl (w451 bo Lk Yz v hp0)
def H458:Ow 150 458:=bC rfl fun r b hp0=>aW bn ck rfl (w458 bo NA Yu YB r b hp0)
def H464:Ow 146 464:=bC rfl fun h n hp0=>aW bn ck rfl (w464 bo h n hp0)
def H471:Ow 167 471:=mW rfl fun x l hp0 nx j0 j1 j2 j3 j4 m K h1 h2 h3 hK=>rj (by simp only[bE,D.bK,m3]) bn ck rfl h1 h2 h3 hK (w471 bo l x.r.name x.r.v x.r.needs x.r.bars x.r.feats x.st G568 hp0)
def H477:Ow 175 477:=bC rfl fun a b=>aW bn ck rfl (w477 bo Yd a b)
def H499:Ow 68 499:=bC rfl fun s=>aW bn ck rfl (w499 bo s)
def H531:Ow 120 531:=bC rfl fun l=>aW bn ck rfl (w531 bo l)
def H572:Ow 190 572:=bC rfl fun s hp0=>aW bn ck rfl (w572 bo G744 G745 s hp0)
def H661:Ow 180 661:=bC rfl fun m=>aW bn ck rfl (w661 bo Yy G810 m)
def H668:Ow 186 668:=bC rfl fun t=>aW bn ck rfl (w668 bo t)
def H674:Ow 194 674:=bC rfl fun r x=>aW bn ck rfl (w674 bo r x)
def H684:Ow 209 684:=bC rfl fun r hp0=>aW bn ck rfl (w684 bo QV Un YI r hp0)
def H701:Ow 83 701:=bC rfl fun a b hp0=>aW bn ck rfl (w701 bo Lk Yh a b hp0)
def H744:Ow 219 744:=bC rfl fun s hp0=>aW bn ck rfl (w744 bo tH G896 G897 G898 YJ Uo s hp0)
def H811:Ow 214 811:=bC rfl fun l i hp0=>aW bn ck rfl (w811 bo YN l i (SO (aQ _)) (YO (aQ _)) hp0)
def H819:Ow 229 819:=bC rfl fun s hp0=>aW bn ck rfl (w819 bo NC QW Un YI G956 YS s hp0)
def H898:Ow 251 898:=bC rfl fun s=>aW bn ck rfl (w898 bo s)
def H947:Ow 240 947:=mW rfl fun w nd b nx lp ln m K h1 h2 h3 h4 hK=>vM rh aM rfl (fun _=>rfl) bn ck rfl h1 h2 h3 h4 hK (w947 bo w nd b Up)
def H953:Ow 247 953:=bC rfl fun m=>aW bn ck rfl (w953 bo YR X1 m)
def YU:Ow 272 1007:=bC rfl fun s=>aW bn ck rfl (Z0 bo s)
def Y0:Ow 269 1035:=bC rfl fun l hp0=>aW bn ck rfl (Z6 bo X4 l hp0)
def Y6:Ow 284 1100:=bC rfl fun s b hp0=>aW bn ck rfl (w1100 bo s b hp0)
end
end
def QJ:List (Nat×Nat)->Prop
 |[]=>True
 |p::r=>Ow p.1 p.2/\QJ r
def QJ.mem:∀{l:List (Nat×Nat)},QJ l->∀p∈l,Ow p.1 p.2
 |p::r,h,q,hq=>by
  rcases dp.1 hq with rfl|hq
  .exact h.1
  .exact h.2.mem q hq
def allY:QJ xe:=⟨H15,H85,H251,H86,H87,H88,H353,E489,H72,H497,E452,H73,H252,H253,E254,H208,H255,H256,H76,E242,H257,H223,H258,H259,H260,H261,H262,H263,H74,H511,H70,H215,H686,H216,H75,H71,H219,H239,E244,E124,H499,E487,H222,H295,H470,H500,H77,H501,H249,H78,H220,H699,H700,H701,E469,H482,H209,H210,H211,H212,H213,H214,H450,H451,H453,H454,H221,H217,H218,H316,H461,H462,E331,H465,H466,H467,H468,H530,H531,H532,H533,H534,H688,H224,H424,H225,H226,H463,H676,H677,H678,H440,H441,H442,H443,H349,H444,H445,H446,H447,H448,H449,E664,H665,H464,H455,H456,H457,H458,H459,H460,H554,E245,H246,H675,H658,H714,H659,H516,H471,H472,H473,H474,H475,H476,H630,H631,H477,H734,H495,H496,H660,H661,H662,H663,E336,H666,H667,H668,H669,H670,H357,H572,H671,H672,H673,H674,H494,H704,H568,H783,H882,H682,E683,H684,H685,H808,H809,H810,H811,H812,H813,H814,H744,H745,H815,H816,H741,H742,H927,H819,H827,H828,H946,H947,H948,H949,H950,H951,H952,H953,H954,H896,H897,H898,H899,H900,H901,H955,H956,H957,YW,YX,YY,YZ,Y0,Y1,YT,YU,YV,Y3,Y4,Y5,Y6,Y2,Y7,Y8,trivial⟩
def uV:∀{l:List (Nat×Nat)}{a b:Nat},fJ l a=some b->(a,b)∈l
 |[],_,_,h=>by simp[fJ]at h
 |(c,d)::r,a,b,h=>by
  simp only[fJ]at h;split at h
  .rename_i e;simp_all
  .exact .tail _ (uV h)
def okY:Ok (Go.Proofs.Tryz.prog) xe N5 (AX bc):=okA (fun fid n hn=>(show ∀p∈xe,p.2<1000000 by decide+kernel) _ (uV hn)) (fun t ht=>by simp[N5]at ht;show t=60;omega) fun fid n hn=>allY.mem (fid,n) (uV hn)
section
open Go.RowKit Go.ChangeShapes
def gV.below {w w':World}(h:gV w w'):Below w.heap.size w w':=⟨h.os,h.tape,h.output,h.size,h.old⟩
section
variable {H:Type} {enc:TypeId×Value->H} {P:Program}
def Bb {f:Func}{s:ChangeSpec}{apart fresh handsOn again:Bool}{W W':World}{args:Array Value}{v:Value}{ds gs:List (DataW H)}{before pa pv:List MemPlace}
  (hW:DataW.Whole enc P f.params.toList s.vars apart W args.toList ds gs before)
  (hres:∀(b:Nat) (sp:Nat->Bool) (hd:Bool),DataW.TrodAll enc P W' b sp hd f.resultTypes.toList (v.resultList f.resultTypes.size) (s.fn H (ds++gs)).results [])
  (hargs:∀sp:Nat->Bool,(∀p∈before,sp p.block=true)->DataW.TrodAll enc P W' 0 sp true f.params.toList args.toList (s.fn H (ds++gs)).args pa)
  (hvars:∀sp:Nat->Bool,(∀p∈before,sp p.block=true)->DataW.TrodVars enc P W' sp s.vars (s.fn H (ds++gs)).vars pv)
  (hps:before=pa++pv) (hb:Below W.heap.size W W')
  (hok:∀(j:Nat) (t:TypeId) (r:Value),f.resultTypes[j]? =some t->(v.resultList f.resultTypes.size)[j]? =some r->Value.okWide P W' .any 0 t r):
  s.post enc P f apart fresh handsOn again W args v W':=by
 have hold:∀p∈before,(fun b=>decide (b<W.heap.size)) p.block=true:=fun p hp=>by simpa using hW.lt p hp
 refine⟨ds,gs,before,[],pa,pv,hW,hres _ _ _,hargs _ hold,hvars _ hold,World.keptBut_mono (fun p hp=>⟨hp, ?_⟩) (hb.frame (· ∈before)),fun _=>?_⟩
 .rw[hps,List.mem_append]at hp;exact Or.inr hp
 .have hlt:=hW.lt;obtain⟨_,_,_,_,_,hz,hn⟩:=hW;refine⟨hok,_,_,([]++pa)++pv,⟨[]++pa,pv,trodAll_append (hargs _ (fun _ _=>rfl)) (hres _ _ _),hvars _ (fun _ _=>rfl),rfl, ?_, ?_⟩, ?_⟩
  .intro b off hp;have hmem:MemPlace.cell b off∈before:=by rw[hps];simpa using hp
   have hq:=hz b off hmem;have hl:b<W.heap.size:=hlt _ hmem;simpa only[World.frozen?,hb.block b hl]using hq
  .grind
  .intro p hp _;rw[hps];simpa using hp
end
end
section
inductive Lf
 |str
 |int (k:IntKind)
 |bool
 |sl (ag:Bool) (k:Nat) (cs:List Lf)
mutual
def fit:Lf->D->Nat->Prop
 | .str,d,n=>∃s,d=.str s/\s.length+1<=n
 | .int k,d,n=>(∃m,d=.int k m/\(Lit.int k m).wf=true)/\1<=n
 | .bool,d,n=>(∃b,d=.bool b)/\1<=n
 | .sl ag k cs,d,n=>∃es,d=.sl k es/\∃ns:List Nat,ns.length=es.length/\ns.sum+1<=n/\∀i,i<es.length->∃ds,es.getD i .any=(bif ag then .agg ds else ds.getD 0 .any)/\mO cs ds (ns.getD i 0)
def mO:List Lf->List D->Nat->Prop
 |[],ds,_=>ds=[]
 |c::r,ds,n=>∃d ds' n1 n2,ds=d::ds'/\n1+n2<=n/\fit c d n1/\mO r ds' n2
end
def ue:∀{cs:List Lf}{ds:List D}{n:Nat},mO cs ds n->ds.length=cs.length
 |[],ds,n,h=>by simp only[mO]at h;simp[h]
 |c::r,ds,n,h=>by
  simp only[mO]at h;obtain⟨d,ds',n1,n2,rfl,_,_,h2⟩:=h;simp[ue h2]
def wA:∀{a b:List Lf}{da db:List D}{n m:Nat},mO a da n->mO b db m->mO (a++b) (da++db) (n+m)
 |[],b,da,db,n,m,h1,h2=>by
  simp only[mO]at h1;subst h1;simp only[fk];exact fitL_mono h2 ae
 |c::r,b,da,db,n,m,h1,h2=>by
  simp only[mO]at h1;obtain⟨d,ds',n1,n2,rfl,h3,h4,h5⟩:=h1;simp only[fY,mO];exact⟨d,ds'++db,n1,n2+m,rfl,ae,h4,wA h5 h2⟩
where
 fitL_mono:∀{cs:List Lf} {ds:List D} {n m:Nat},mO cs ds n->n<=m->mO cs ds m
 |[],_,_,_,h,_=>h
 |c::r,ds,n,m,h,hm=>by
  simp only[mO]at h⊢;obtain⟨d,ds',n1,n2,rfl,h3,h4,h5⟩:=h;exact⟨d,ds',n1,n2,rfl,ae,h4,h5⟩
def IV {c:Lf}{d:D}{n:Nat}(h:fit c d n):d.cells=[d]/\d.bK=true:=by
 cases c<;>simp only[fit]at h
 .obtain⟨s,rfl,_⟩:=h;exact⟨rfl,rfl⟩
 .obtain⟨⟨m,rfl,_⟩,_⟩:=h;exact⟨rfl,rfl⟩
 .obtain⟨⟨b,rfl⟩,_⟩:=h;exact⟨rfl,rfl⟩
 .obtain⟨es,rfl,_⟩:=h;exact⟨rfl,rfl⟩
def sV:∀{cs:List Lf}{ds:List D}{n:Nat},mO cs ds n->bE ds=true
 |[],ds,n,h=>by simp only[mO]at h;subst h;rfl
 |c::r,ds,n,h=>by
  simp only[mO]at h;obtain⟨d,ds',n1,n2,rfl,_,h1,h2⟩:=h;simp only[bE,(IV h1).2,sV h2,Bool.and_self]
def Lq (b o m j:Nat):((⟨b,o,none⟩:Addr).add m).add j=⟨b,o+m+j,none⟩:=by
 unfold Addr.add;split<;>split<;>simp_all
section
variable {H:Type}
mutual
def dB:DataW H->Nat
 | .lit (.string s)=>s.length+1
 | .slice es _=>Re es+1
 | .agg ps=>Re ps
 |_=>1
def Re:List (DataW H)->Nat
 |[]=>0
 |d::r=>dB d+Re r
end
def IK:∀ds:List (DataW H),Re ds=(ds.map dB).sum
 |[]=>rfl
 |d::r=>by simp only[Re,List.map_cons,List.sum_cons,IK r]
end
def vu (P:Program)(t:TypeId):Bool:=match P.underlying t with
 |some (.struct _)=>true
 |some (.array _ _)=>true
 |_=>false
def VZ (P:Program)(F:TypeId->Option (List Lf)):List Field->Nat->Option (List Lf)
 |[],_=>some []
 |f::r,off=>match F f.type,VZ P F r (off+P.cellsOf f.type)with
  |some a,some b=>if f.offset=off/\a.length=P.cellsOf f.type then some (a++b)else none
  |_,_=>none
def arrF (e:TypeId)(off:Nat):Field:={(default:Field)with type:=e,offset:=off}
def A8 (P:Program):Nat->TypeId->Option (List Lf)
 |0,_=>none
 |n+1,t=>match P.underlying t with
  |some .bool=>some [.bool]
  |some (.int k)=>some [.int k]
  |some .string=>some [.str]
  |some (.slice e)=>match A8 P n e with
   |some cs=>if cs.length=P.cellsOf e/\0<cs.length/\(vu P e=true\/cs.length=1)then some [.sl (vu P e) (P.cellsOf e) cs]else none
   |none=>none
  |some (.struct fs)=>match VZ P (A8 P n) fs.toList 0 with
   |some a=>if a.length=P.cellsOf t then some a else none
   |none=>none
  |some (.array k e)=>match VZ P (A8 P n) ((List.range k).map fun i=>arrF e (i*P.cellsOf e)) 0 with
   |some a=>if a.length=P.cellsOf t then some a else none
   |none=>none
  |_=>none
section
variable {H:Type} {enc:TypeId×Value->H} {P:Program} {ν:List (Nat×Nat)}
def xm (W:World):X:=⟨W,fun b=>b<W.heap.size,fun _=>none⟩
def Rds (ν:List (Nat×Nat))(W:World)(cs:List Value)(a:List Lf)(n:Nat):Prop:=
 cs.length=a.length/\∃ds:List D,mO a ds n/\∀i,i<cs.length->RD ν (xm W) (cs.getD i undef) (ds.getD i .any)/\(cs.getD i undef).oneCell'=true
def Rds.one {W:World}{v:Value}{c:Lf}{d:D}{n:Nat}(hf:fit c d n)(hr:RD ν (xm W) v d)(h1:v.oneCell'=true):Rds ν W [v] [c] n:=
 ⟨rfl,[d],by simp only[mO];exact⟨d,[],n,0,rfl,ae,hf,rfl⟩,fun i hi=>by
  obtain rfl:i=0:=by simpa using hi
  exact⟨hr,h1⟩⟩
def Hr {W:World}{F:TypeId->Option (List Lf)}{m:Nat}{sp:Nat->Bool}{held:Bool}{cs:List Value}
  (hF:∀t a cs (x:DataW H×List MemPlace),F t=some a->DataW.trod enc P W 0 sp held m t cs=some x->Rds ν W cs a (dB x.1)):
  ∀(r:List Field) (off:Nat) (a:List Lf) (xs:List (DataW H×List MemPlace)),VZ P F r off=some a->xs.length=r.length->
   (∀(i:Nat) (f:Field),r[i]? =some f->DataW.trod enc P W 0 sp held m f.type ((cs.drop f.offset).take (P.cellsOf f.type))=xs[i]?)->off+a.length<=cs.length->
   ∃ds:List D,mO a ds (Re (xs.map (·.1)))/\∀i,i<a.length->RD ν (xm W) (cs.getD (off+i) undef) (ds.getD i .any)/\(cs.getD (off+i) undef).oneCell'=true
 |[],off,a,xs,h,hl,_,_=>by
  simp only[VZ,bj]at h;subst h;exact⟨[],rfl,fun i hi=>by simp at hi⟩
 |f::r,off,a,xs,h,hl,hx,hoff=>by
  simp only[VZ]at h;split at h
  .rename_i a1 a2 h1 h2;split at h
   .rename_i hc;simp only[bj]at h;subst h
    match xs,hl with
    |x::xs,hl=>
    have q:=hx 0 f rfl;simp only[List.getElem?_cons_zero]at q;obtain⟨l1,ds1,g1,g2⟩:=hF _ _ _ _ h1 q;simp only[cb]at hoff;have hlen:((cs.drop f.offset).take (P.cellsOf f.type)).length=a1.length:=by rw[<-l1]
    obtain⟨ds2,g3,g4⟩:=Hr hF r _ a2 xs h2 (by simpa using hl) (fun i f' hf=>by simpa using hx (i+1) f' (by simpa using hf)) ae;have hd1:=ue g1;refine⟨ds1++ds2,by simp only[List.map_cons,Re];exact wA g1 g3,fun i hi=>?_⟩;simp only[cb]at hi;by_cases hi1:i<a1.length
    .have:=g2 i ae;have e1:(ds1++ds2).getD i .any=ds1.getD i .any:=by simp[List.getD,List.getElem?_append,hd1,hi1]
     have e2:((cs.drop f.offset).take (P.cellsOf f.type)).getD i undef=cs.getD (off+i) undef:=by
      simp only[List.getD,List.getElem?_take,List.getElem?_drop,hc.1];rw[aw ae]
     rw[e1,<-e2];exact this
    .have:=g4 (i-a1.length) ae;have e1:(ds1++ds2).getD i .any=ds2.getD (i-a1.length) .any:=by simp[List.getD,List.getElem?_append,hd1,hi1]
     rw[e1,show off+i=off+P.cellsOf f.type+(i-a1.length)by omega];exact this
   .cases h
  .cases h
def xQ {W:World}{sp:Nat->Bool}{held:Bool}:∀(fl:Nat) (t:TypeId) (a:List Lf) (fuel:Nat) (cs:List Value) (x:DataW H×List MemPlace),
  A8 P fl t=some a->DataW.trod enc P W 0 sp held fuel t cs=some x->Rds ν W cs a (dB x.1)
 |0,t,a,fuel,cs,x,h,_=>by simp[A8]at h
 |n+1,t,a,fuel,cs,x,h,hx=>by
  unfold A8 at h;split at h
  .rename_i ht;simp only[bj]at h;subst h;obtain⟨b,rfl,rfl⟩:=DataW.trod_bool ht hx;exact .one (by simp only[fit];exact⟨⟨b,rfl⟩,by simp[dB]⟩) (.bool b) rfl
  .rename_i k ht;simp only[bj]at h;subst h;obtain⟨m,rfl,rfl,hw⟩:=DataW.trod_int ht hx;exact .one (by simp only[fit];exact⟨⟨m,rfl,hw⟩,by simp[dB]⟩) (.int k m) rfl
  .rename_i ht;simp only[bj]at h;subst h;obtain⟨s,rfl,rfl,hs⟩:=DataW.trod_string ht hx;obtain⟨⟨l⟩⟩:=s;exact .one (d:=.str l) (by simp only[fit];exact⟨l,rfl,by simp[dB]⟩) (.str l hs) rfl
  .rename_i e ht;split at h
   .rename_i ce hce;split at h
    .rename_i hk;obtain⟨hk1,hk0,hkag⟩:=hk;simp only[bj]at h;subst h;rcases DataW.trod_slice ht hx with⟨rfl,rfl⟩|⟨ad,len,cap,elems,rest,m,rfl,rfl,rfl,hb,hlc,hcm,hel,hat,_,_⟩
     .refine .one (d:=.sl (P.cellsOf e) []) (by simp only[fit];exact⟨[],rfl,[],rfl,by simp[dB],fun i hi=>by simp at hi⟩) ?_ rfl;exact .sl none 0 0 0 0 _ [] (fun _ _=>undef) rfl (.inl rfl) (aQ _) (Nat.zero_le _) (fun i hi=>ae) (fun i hi=>ae) (fun i j hi=>ae) (fun i j hi=>ae) (fun i j hi=>ae)
     .have key:∀i,i<len->∃(csi:List Value) (dsi:List D),(csi.length=ce.length/\∀j,j<P.cellsOf e->W.cell? ((ad.add (i*P.cellsOf e)).add j)=csi[j]?)/\mO ce dsi (dB (elems.getD i (.nil,[])).1)/\
        ∀j,j<csi.length->RD ν (xm W) (csi.getD j undef) (dsi.getD j .any)/\(csi.getD j undef).oneCell'=true:=by
       intro i hi;have q:=hat i hi;have hgi:elems[i]? =some (elems.getD i (.nil,[])):=by simp[List.getD,show i<elems.length by omega]
       rw[hgi,Option.bind_eq_some_iff]at q;obtain⟨csi,q1,q2⟩:=q;obtain⟨l1,dsi,g1,g2⟩:=xQ n e ce m csi _ hce q2;obtain⟨_,_,q3⟩:=World.cells?_some q1;exact⟨csi,dsi,⟨l1,q3⟩,g1,g2⟩
      let f:Nat->List Value×List D:=fun i=>if h:i<len then((key i h).choose,(key i h).choose_spec.choose)else([],[])
      have hf:∀i,i<len->((f i).1.length=ce.length/\∀j,j<P.cellsOf e->W.cell? ((ad.add (i*P.cellsOf e)).add j)=(f i).1[j]?)/\mO ce (f i).2 (dB (elems.getD i (.nil,[])).1)/\
        ∀j,j<(f i).1.length->RD ν (xm W) ((f i).1.getD j undef) ((f i).2.getD j .any)/\((f i).1.getD j undef).oneCell'=true:=by
       intro i hi;have e1:f i=((key i hi).choose,(key i hi).choose_spec.choose):=by simp[f,hi]
       rw[e1];exact(key i hi).choose_spec.choose_spec
      let es:List D:=(List.range len).map fun i=>bif vu P e then .agg (f i).2 else(f i).2.getD 0 .any
      have hes:∀i,i<len->es.getD i .any=bif vu P e then .agg (f i).2 else(f i).2.getD 0 .any:=fun i hi=>by simp[es,hi]
      have hcells:∀i,i<len->(es.getD i .any).cells=(f i).2:=fun i hi=>by
       rw[hes i hi];cases hag:vu P e with
       |true=>rfl
       |false=>
        have h1:ce.length=1:=by
         rcases hkag with h|h
         .rw[hag]at h;cases h
         .exact h
        match ce,h1 with
        |[c],_=>
        have g:=(hf i hi).2.1;simp only[mO]at g;obtain⟨d,ds',n1,n2,e1,_,g1,rfl⟩:=g;rw[e1];exact(IV g1).1
      have hnl:∀i,i<len->(es.getD i .any).bK=true:=fun i hi=>by
       have g:=sV (hf i hi).2.1;rw[hes i hi];cases hag:vu P e with
       |true=>exact g
       |false=>
        show((f i).2.getD 0 .any).bK=true
        match hq:(f i).2 with
        |[]=>rfl
        |d::r=>
         rw[hq]at g;simp only[bE,bG]at g;exact g.1
      refine .one (d:=.sl (P.cellsOf e) es) ?_ ?_ rfl
      .simp only[fit];refine⟨es,rfl,elems.map fun q=>dB q.1,by simp[es,hel],by simp only[dB,IK,List.map_map];exact aQ _,fun i hi=>?_⟩;have hi':i<len:=by simpa[es]using hi
       refine⟨(f i).2,hes i hi', ?_⟩;have:=(hf i hi').2.1;have e2:(elems.map fun q=>dB q.1).getD i 0=dB (elems.getD i (.nil,[])).1:=by simp[List.getD,show i<elems.length by omega]
       rw[e2];exact this
      .have hfl:∀i,i<len->(f i).1.length=P.cellsOf e:=fun i hi=>by rw[(hf i hi).1.1,hk1]
       have hdl:∀i,i<len->(f i).2.length=P.cellsOf e:=fun i hi=>by rw[ue (hf i hi).2.1,hk1]
       have hcell:∀i j,i<len->j<P.cellsOf e->W.cell? ((ad.add (i*P.cellsOf e)).add j)=some ((f i).1.getD j undef):=fun i j hi hj=>by
        rw[(hf i hi).1.2 j hj];simp[List.getD,show j<(f i).1.length by rw[hfl i hi];exact hj]
       have hsp:es=[]\/(ad.spot=none/\ad.block<W.heap.size):=by
        by_cases h0:len=0
        .left;simp[es,h0]
        .right;have h1:=hcell 0 0 ae ae;have e3:(ad.add (0*P.cellsOf e)).add 0=ad:=by simp[Addr.add]
         rw[e3]at h1;refine⟨World.cell?_spot h1, ?_⟩;unfold World.cell? at h1;split at h1
         .rename_i h2;exact(Array.getElem?_eq_some_iff.mp h2).1
         .cases h1
       obtain⟨ab,ao,asp⟩:=ad;refine .sl (some ⟨ab,ao,asp⟩) ab ao len cap _ es (fun i j=>(f i).1.getD j undef) (by simp[es]) ?_ hlc hcm (fun i hi=>by rw[hcells i hi,hdl i hi]) hnl ?_ ?_ ?_
       .rcases hsp with h|⟨h,h2⟩
        .exact .inl h
        .obtain rfl:asp=none:=h;exact .inr ⟨rfl,h2⟩
       .intro i j hi hj;have h1:=hcell i j hi hj;rcases hsp with h|⟨h,h2⟩
        .have:es.length=0:=by rw[h];rfl
         simp[es]at this;omega
        .obtain rfl:asp=none:=h
         rwa [Lq]at h1
       .intro i j hi hj;exact((hf i hi).2.2 j (by rw[hfl i hi];exact hj)).2
       .intro i j hi hj;rw[hcells i hi];exact((hf i hi).2.2 j (by rw[hfl i hi];exact hj)).1
    .cases h
   .cases h
  .rename_i fs ht;split at h
   .rename_i b hb;split at h
    .rename_i hlen;simp only[bj]at h;subst h;obtain⟨xs,m,rfl,rfl,hcl,hxl,hat⟩:=DataW.trod_struct ht hx;obtain⟨ds,g1,g2⟩:=Hr (W:=W) (ν:=ν) (sp:=sp) (held:=held) (enc:=enc) (m:=m) (cs:=cs) (fun t a cs x h1 h2=>xQ n t a m cs x h1 h2) fs.toList 0 b xs hb (by simpa using hxl) (fun i f hf=>hat i f (by simpa using hf)) ae;refine⟨ae,ds,by simpa only[dB]using g1,fun i hi=>?_⟩;have:=g2 i ae
     rwa [bT]at this
    .cases h
   .cases h
  .rename_i k e ht;split at h
   .rename_i b hb;split at h
    .rename_i hlen;simp only[bj]at h;subst h;obtain⟨xs,m,rfl,rfl,hcl,hxl,hat⟩:=DataW.trod_array ht hx;obtain⟨ds,g1,g2⟩:=Hr (W:=W) (ν:=ν) (sp:=sp) (held:=held) (enc:=enc) (m:=m) (cs:=cs) (fun t a cs x h1 h2=>xQ n t a m cs x h1 h2) _ 0 b xs hb (by simpa using hxl) (fun i f hf=>by
      simp only[List.getElem?_map,dZ]at hf;obtain⟨j,hj,rfl⟩:=hf;have hi:i<k:=by
       have:=(List.getElem?_eq_some_iff.1 hj).1;simpa using this
      obtain rfl:j=i:=by simpa[hi]using hj.symm
      exact hat j hi) ae
     refine⟨ae,ds,by simpa only[dB]using g1,fun i hi=>?_⟩;have:=g2 i ae
     rwa [bT]at this
    .cases h
   .cases h
  .cases h
end
end
section
open Go.RowKit Go.ChangeShapes Go.WideShapes
def GW (sh:Bool×List Lf)(d:D)(n:Nat):Prop:=∃ds,mO sh.2 ds n/\d=bif sh.1 then .agg ds else ds.getD 0 .any
def xr:List (Bool×List Lf)->List D->Nat->Prop
 |[],ds,_=>ds=[]
 |s::r,ds,n=>∃d ds' n1 n2,ds=d::ds'/\n1+n2<=n/\GW s d n1/\xr r ds' n2
def pG (P:Program)(k:Nat):List TypeId->Option (List (Bool×List Lf))
 |[]=>some []
 |t::r=>match A8 P k t,pG P k r with
  |some a,some b=>if vu P t=true\/a.length=1 then some ((vu P t,a)::b)else none
  |_,_=>none
section
variable {H:Type} {enc:TypeId×Value->H} {P:Program} {ν:List (Nat×Nat)}
def Uy {W:World}{sp:Nat->Bool}{held:Bool}{k base:Nat}{t:TypeId}{a:List Lf}{v:Value}{d:DataW H}{p:List MemPlace}{r:Reach}
  (ha:A8 P k t=some a) (h1:vu P t=true\/a.length=1) (wZ:Value.okWide P W r base t v) (h:DataW.Trod enc P W 0 sp held t v d p):
  ∃e,GW (vu P t,a) e (dB d)/\e.bK=true/\RD ν (xm W) v e:=by
 obtain⟨fuel,hf⟩:=h;obtain⟨hl,ds,g1,g2⟩:=xQ (ν:=ν) k t a fuel v.cells.toList (d,p) ha hf;have hdl:=ue g1;have hnl:=sV g1;refine⟨_,⟨ds,g1,rfl⟩, ?_⟩;cases hag:vu P t with
 |true=>
  have:∃cs,v=.agg cs/\cs.size=P.cellsOf t:=by
   match k,ha with
   |n+1,ha=>
   unfold A8 at ha;unfold vu at hag;split at ha
   .simp_all
   .simp_all
   .simp_all
   .simp_all
   .rename_i fs ht;exact okWide_struct ht wZ
   .rename_i m e ht;simp only[Value.okWide,ht]at wZ;obtain⟨cs,h1,h2,_⟩:=wZ;exact⟨cs,h1,h2⟩
   .simp_all
  obtain⟨cs,rfl,hcs⟩:=this;refine⟨hnl, ?_⟩;have hl':cs.size=a.length:=by simpa[Value.cells]using hl
  have e:∀i,(Value.agg cs).cells.toList.getD i undef=cs.getD i undef:=fun i=>by
   simp only[Value.cells];by_cases hi:i<cs.size<;>simp[List.getD,Array.getD,hi]
  refine .agg cs ds ae (fun i hi=>?_) fun i hi=>?_
  .rw[<-e];exact(g2 i (by simp only[Value.cells,Array.length_toList];omega)).2
  .rw[<-e];exact(g2 i (by simp only[Value.cells,Array.length_toList];omega)).1
 |false=>
  have h1:a.length=1:=by
   rcases h1 with h|h
   .rw[hag]at h;cases h
   .exact h
  have hv:v.cells.toList.getD 0 undef=v:=by
   match k,ha with
   |n+1,ha=>
   unfold A8 at ha;unfold vu at hag;split at ha
   .rename_i ht;obtain⟨b,rfl⟩:=okWide_bool ht wZ;rfl
   .rename_i k ht;obtain⟨b,rfl⟩:=okWide_int ht wZ;rfl
   .rename_i ht;obtain⟨b,rfl⟩:=okWide_string ht wZ;rfl
   .rename_i e ht;obtain⟨b,c,f,rfl⟩:=okWide_slice ht wZ;rfl
   .rename_i fs ht;rw[ht]at hag;cases hag
   .rename_i m e ht;rw[ht]at hag;cases hag
   .cases ha
  have g:=g2 0 ae;rw[hv]at g;refine⟨?_,g.1⟩
  match ds,hdl with
  |[d0],_=>simpa[bE]using hnl
  |[],h=>simp at h;omega
  |_::_::_,h=>simp at h;omega
def IE {W:World}{sp:Nat->Bool}{held:Bool}{k base:Nat}{r:Reach}:∀(ts:List TypeId) (shs:List (Bool×List Lf)) (vs:List Value) (dws:List (DataW H)) (ps:List MemPlace),
  pG P k ts=some shs->(∀(j:Nat) t v,ts[j]? =some t->vs[j]? =some v->Value.okWide P W r base t v)->DataW.TrodAll enc P W 0 sp held ts vs dws ps->
  ∃es:List D,xr shs es (Re dws)/\es.length=vs.length/\dws.length=ts.length/\bE es=true/\∀i,i<es.length->RD ν (xm W) (vs.getD i undef) (es.getD i .any)
 |[],shs,vs,dws,ps,hs,_,h=>by
  simp only[pG,bj]at hs;subst hs;obtain⟨rfl,rfl,rfl⟩:=trodAll_nil h;exact⟨[],rfl,rfl,rfl,rfl,fun i hi=>by simp at hi⟩
 |t::ts,shs,vs,dws,ps,hs,hv,h=>by
  simp only[pG]at hs;split at hs
  .rename_i a b h1 h2;split at hs
   .rename_i hc;simp only[bj]at hs;subst hs;obtain⟨v,vs',d,ds',p,q,rfl,rfl,rfl,h3,h4⟩:=trodAll_cons h;obtain⟨e,g1,g2,g3⟩:=Uy (ν:=ν) h1 hc (hv 0 t v rfl rfl) h3;obtain⟨es,k1,k2,k3,k4,k5⟩:=IE ts b vs' ds' q h2 (fun j t v h5 h6=>hv (j+1) t v (by simpa using h5) (by simpa using h6)) h4;refine⟨e::es,⟨e,es,_,_,rfl,aQ _,g1,k1⟩,by simp[k2],by simp[k3],by simp[bE,g2,k4],fun i hi=>?_⟩
    match i,hi with
    |0,_=>exact g3
    |i+1,hi=>exact k5 i (by simpa using hi)
   .cases hs
  .cases hs
def sG {W W':World}(hl:laidOutB P=true)(hb:Below W.heap.size W W'){sp':Nat->Bool}:∀(ts:List TypeId) (vs:List Value) (dws:List (DataW H)) (ps:List MemPlace),
  (ts.all fun t=>P.readableRec t&&decide (t<P.types.size))=true->(∀x∈ps,x.block<W.heap.size)->(∀x∈ps,sp' x.block=true)->
  DataW.TrodAll enc P W 0 (fun _=>true) true ts vs dws ps->DataW.TrodAll enc P W' 0 sp' true ts vs dws ps
 |[],vs,dws,ps,_,_,_,h=>by
  obtain⟨rfl,rfl,rfl⟩:=trodAll_nil h;exact trodAll_mk0
 |t::ts,vs,dws,ps,ht,hlt,hsp,h=>by
  obtain⟨v,vs',d,ds',p,q,rfl,rfl,rfl,h3,h4⟩:=trodAll_cons h;simp only[List.all_cons,bG,aT]at ht;refine trodAll_cons_mk (WideElems.Trod_stays hl ht.1.1 ht.1.2 h3 (fun x hx=>hb.same (hlt x (by simp[hx]))) fun x hx=>hsp x (by simp[hx])) ?_;exact sG hl hb ts vs' ds' q ht.2 (fun x hx=>hlt x (by simp[hx])) (fun x hx=>hsp x (by simp[hx])) h4
end
end
theorem Od {c:Lf}{d:D}{n m:Nat}(h:fit c d n)(hm:n<=m):fit c d m:=by
 cases c<;>simp only[fit]at h⊢
 .grind
 .exact⟨h.1,ae⟩
 .exact⟨h.1,ae⟩
 grind
def RX {c:Lf}{d:D}{n:Nat}(h:GW (false,[c]) d n):fit c d n:=by
 obtain⟨ds,h,rfl⟩:=h
 grind [mO,Od]
def Sp {d:D}{n:Nat}(h:fit .str d n):∃s:au,d=.str s/\s.length+1<=n:=by
 simpa only[fit]using h
section
open Go.RowKit Go.ChangeShapes Go.WideShapes
def ctxp {t:List (Nat×qq)}{n:Nat}{ds:List D}{d:D}(hD:XU (lk t n ng).rel)(h:(lk t n ng).rel ds d):(AX t).pre n ds/\(AX t).val n ds=d:=⟨⟨d,h⟩,hD _ _ _ (lO ⟨d,h⟩) h⟩
section
variable {H:Type} {enc:TypeId×Value->H} {P:Program} {ν:List (Nat×Nat)}
def Hp [dI]{cU:List Nat}{Y:Ctx}(hok:Ok P ν cU Y){fid n k base:Nat}{f:Func}{s:ChangeSpec}{tb:TypeId}{shs:List (Bool×List Lf)}{r:Reach}
  {W:World} {args:Array Value} {ds gs:List (DataW H)} {before:List MemPlace}
  (hf:P.funcs[fid]? =some f) (hnm:(f.name== "runtime.NumGoroutine")=false) (hbody:f.body.isSome=true) (hn:fJ ν fid=some n)
  (hl:laidOutB P=true) (hts:(f.params.toList.all fun t=>P.readableRec t&&decide (t<P.types.size))=true)
  (hsh:pG P k f.params.toList=some shs) (hres:f.resultTypes=#[tb]) (htb:P.underlying tb=some .bool)
  (hvars:s.vars=[]) (hfn:∀xs:List (DataW H),xs.length=f.params.toList.length->s.fn H xs={results:=[.lit (.bool true)],args:=xs})
  (hgd:dI.gd (xm W)) (hpre:∀es,xr shs es (Re ds)->(∀i,i<es.length->∃v,RD ν (xm W) v (es.getD i .any))->Y.pre n es/\Y.val n es=.bool true)
  (hargs:∀(j:Nat) t v,f.params[j]? =some t->args[j]? =some v->Value.okWide P W r base t v)
  (hW:DataW.Whole enc P f.params.toList s.vars false W args.toList ds gs before):
  Calls P fid args W fun e W'=>∃v,e=.returned v/\s.post enc P f false true false false W args v W':=by
 have hW':=hW;obtain⟨p,q,hA,hV,rfl,hz,hnd⟩:=hW;rw[hvars]at hV;obtain⟨rfl,rfl⟩:=trodVars_none hV;obtain⟨es,h1,h2,h3,h4,h5⟩:=IE (ν:=ν) f.params.toList shs args.toList ds p hsh (fun j t v e1 e2=>hargs j t v (by simpa using e1) (by simpa using e2)) hA;have hsz:args.size=es.length:=by simpa using h2.symm
 obtain⟨hp1,hp2⟩:=hpre es h1 fun i hi=>⟨_,h5 i hi⟩
 have hd:=hok.pure fid n hn (xm W) args es hsz (fun i hi=>by
  have:=h5 i hi;have e:args.toList.getD i undef=args.getD i undef:=by
   have hi':i<args.size:=ae;simp[List.getD,Array.getD,hi']
  rwa [e]at this) h4 (fun b hb=>hb) hgd hp1
 rw[je hf hnm hbody args]at hd;rcases hd with⟨v,x',hd|hd,_⟩|⟨f',args',hd,hc⟩
 .cases hd
 .cases hd.1
 .cases hd;refine Calls.mono hc fun e W' he=>?_
  match e,he with
  | .returned v,he=>
   obtain⟨x',rfl,hp,hr⟩:=he;rw[hp2]at hr;obtain rfl:v=.bool true:=by cases hr;rfl
   have hb:Below W.heap.size W x'.w:=hp.grow.below;have hlt:=hW'.lt;have e1:s.fn H (ds++[])={results:=[.lit (.bool true)],args:=ds}:=by rw[iz];exact hfn ds h3
   refine⟨_,rfl,Bb (pa:=p) (pv:=[]) hW' (fun b sp hd=>?_) (fun sp hsp=>?_) (fun sp hsp=>?_) rfl hb (ok_one hres rfl (okWide_bool_mk htb _))⟩
   .rw[e1,hres];exact trodAll_mk1 (shut_bool htb _)
   .rw[e1];exact sG hl hb _ _ _ _ hts (fun x hx=>by simpa using hlt x (by simpa using hx)) (fun x hx=>hsp x (by simpa using hx)) hA
   .rw[e1,hvars];rfl
end
end
section
open Go.RowKit Go.ChangeShapes Go.WideShapes
end
end Go.Abs
section
namespace Go.Proofs.YtgnjlompgjhaaaaGreatDoor
open Go.Abs Go.ChangeShapes Go.WideShapes Go.ChangeAt Go.RowKit Go.Proofs
def own:ownKnob Tryz.prog.godebug=none:=by kernel_rfl
def OC:laidOutB Tryz.prog=true:=by kernel_rfl
def uj {P:Program}{W:World}{y:String×DataW Unit}{l:List (String×DataW Unit)}(h:laidMet P (y::l) W):laidMet P l W:=by
 obtain⟨ps,⟨g,t,cs,fuel,p,q,_,_,_,_,h1,rfl⟩,h2,h3⟩:=h;refine⟨q,h1,(List.nodup_append.1 h2).2.1,fun b off hm=>h3 b off (by simp[hm])⟩
def Jh {W:World}{b:Nat}{o:Nat}{v:Value}(h:W.cell? ⟨b,o,none⟩=some v):b<W.heap.size:=by
 unfold World.cell? at h;split at h
 .rename_i h2;exact(Array.getElem?_eq_some_iff.mp h2).1
 .cases h
def Zo {W:World}(hL:laidMetH Tryz.prog Rows.indexReadsRow.laid W)(hsh:W.ShapedOpen Tryz.prog):dI.gd (xm W):=by
 have hL':laidMet Tryz.prog Rows.indexReadsRow.laid W:=hL;have htab:Lib.TabIs Tryz.prog W "internal/strconv.uint64pow10" .u64 Lib.pow10Tab:=
  Lib.tabIs_of_head (g:=3) (t:=275) (e:=52) (n:=20) (by kernel_rfl) (by kernel_rfl) (by kernel_rfl) (by kernel_rfl) (by kernel_rfl) (by kernel_rfl) (uj (uj hL'))
 obtain⟨m,hm⟩:∃m,W.cell? ⟨0,0,none⟩=some (.int .i64 m):=Go.Proofs.cell_of_shapedOpen_int (zero:=#[.int .i64 0]) (t:=3) hsh (of_decide_eq_true (by kernel_rfl)) (by kernel_rfl) rfl (by kernel_rfl) (by kernel_rfl) Tryz.underlying3
 have h3:=htab.cell wJ 0 (by decide);exact⟨⟨Jh hm,m,hm⟩,Jh h3,htab⟩
mutual
def Es {H:Type}:DataW H->List Value
 | .lit (.int k n)=>[.int k n]
 | .agg ps=>N1 ps
 |_=>[]
def N1 {H:Type}:List (DataW H)->List Value
 |[]=>[]
 |d::r=>Es d++N1 r
end
def put (d:DataW Unit):Obj->Obj
 | .cells _ t frozen=>.cells (Es d).toArray t frozen
 |o=>o
noncomputable def vw (os:Os):World:=
 {World.holding Tryz.prog os ⟨#[],#[],[]⟩with heap:=(((((World.holding Tryz.prog os ⟨#[],#[],[]⟩).heap.modify 1 (put Rows.laid_unicode_utf8_first)).modify 2 (put Rows.laid_unicode_utf8_acceptRanges)).modify 3 (put Rows.laid_internal_strconv_uint64pow10)).modify 4 (put Rows.laid_math_bits_deBruijn32tab)).modify 5 (put Rows.laid_math_bits_deBruijn64tab)}
def strZ:Value:=.string ⟨#[]⟩
end Go.Proofs.YtgnjlompgjhaaaaGreatDoor
end
section
namespace Go.Proofs.YtgnjlompgjhaaaaGreatDoor
open Go.Abs Go.ChangeShapes Go.WideShapes Go.ChangeAt Go.RowKit Go.Proofs
def jS:Array Value:=#[strZ]
def sn (os:Os):laidMet Tryz.prog Rows.indexReadsRow.laid ((vw os).forCall (fun _ _=>0) ⟨#[],jS,[]⟩).memory:=
 laidMet_of_run' 8 (by kernel_rfl) (by kernel_rfl)
def uD:pG Tryz.prog 20 Tryz.f4.params.toList=some [(false,[.str])]:=by kernel_rfl
def zQ {W:World}{es:List D}{n:Nat}(h:xr [(false,[.str])] es n)(hr:∀i,i<es.length->∃v,RD xe (xm W) v (es.getD i .any)):(AX bc).pre 15 es/\(AX bc).val 15 es=.bool true:=by
 obtain⟨d1,_,n1,m1,rfl,a1,h1,rfl⟩:=h;obtain⟨v1,rfl,k1⟩:=Sp (RX h1);exact ctxp D15 fun T h=>h v1
def vQ (os:Os){H:Type}(enc:TypeId×Value->H):∃places,DataW.whole enc Tryz.prog ((vw os).forCall (fun _ _=>0) ⟨#[],jS,[]⟩).memory Tryz.f4.params.toList Rows.indexReadsSpec.vars false jS.toList 8=
  some ([.lit (.string [])],[],places):=
 ⟨[],by kernel_rfl⟩
set_option maxRecDepth 100000 in
theorem uk (os:Os)(started:os.Started)(H:Type)(enc:TypeId×Value->H)(F:Stop.Interp):
  ReturnsInHanded {} Tryz.checked os 4 .any ((OpenSpec.ofChange Rows.indexReadsSpec).preRow enc Tryz.prog Tryz.f4 Rows.indexReadsRow.domain false Rows.indexReadsRow.laid) (((OpenSpec.ofChange Rows.indexReadsSpec).at F).post enc Tryz.prog Tryz.f4 false true false false):=by
 obtain⟨places,hx⟩:=vQ os enc;refine returnsInHanded_of_row (C:=Tryz.checked) (s:=OpenSpec.ofChange Rows.indexReadsSpec) own started (by kernel_rfl) Tryz.func4
  (witness_row_at (enc:=enc) (C:=Tryz.checked) false (vw os) jS rfl (by kernel_rfl) (by kernel_rfl) (by kernel_rfl)
    (OpenSpec.preRow_of_cond 8 hx (by kernel_rfl) (fun k hk=>by cases hk) (by kernel_rfl) (sn os))) ?_
 intro W base args ds gs before wZ hW _ _ _ hL hsh _;refine Hp (n:=15) (k:=20) (s:=(OpenSpec.ofChange Rows.indexReadsSpec).at F) (tb:=4) okY Tryz.func4 (by kernel_rfl) (by kernel_rfl) (by kernel_rfl) OC (by kernel_rfl) uD (by kernel_rfl) (by kernel_rfl) rfl (fun xs hx=>?_) (Zo hL hsh)
  (fun es he hr=>zQ he hr) wZ hW
 match xs,hx with
 |[a],_=>rfl
def A3:Tryz.prog.inPlace 4=Rows.indexReadsRow.inPlace:=by kernel_rfl
def A4:Tryz.prog.unfollowed 4=Rows.indexReadsRow.unfollowed:=by kernel_rfl
def A5:Tryz.prog.recurses 4=Rows.indexReadsRow.recurses:=by kernel_rfl
def A6:Tryz.prog.varsNamed 4=Rows.indexReadsRow.named:=by kernel_rfl
def tV:joinedFacts Tryz.prog 4 Tryz.f4 (OpenSpec.ofChange Rows.indexReadsSpec).bare Rows.indexReadsRow=true:=by
 unfold joinedFacts;rw[A3,A4,A5,A6]
 kernel_rfl
def xh:Rows.IndexReadsSaid:=
 OpenClaim.holds_of_cond 4 Tryz.f4 rfl rfl rfl rfl rfl rfl rfl ⟨rfl,rfl,rfl,rfl,rfl⟩ rfl rfl rfl rfl rfl (by kernel_rfl) Tryz.func4 tV
  (of_decide_eq_true (by kernel_rfl)) (by unfold Func.isWrapper;first|(rw[if_pos (by decide+kernel)];kernel_rfl)|(rw[if_neg (by decide+kernel)];exact⟨rfl,rfl⟩))
  (fun os started H enc _ F=>by rw[OpenClaim.pre_eq_preRow];exact uk os started H enc F)
def vK (f:FuncId)(fn:Func)(hf:Tryz.pinned.checked.prog.funcNamed "linchpin/linchpinlaw14.IndexReads" =some f)(hfn:Tryz.pinned.checked.prog.funcs[f]? =some fn):
  false=Tryz.pinned.checked.prog.looks []/\∀(j:Nat) t,fn.params[j]? =some t->Tryz.pinned.checked.prog.wantsStandIn t=false:=by
 obtain rfl:f=4:=Option.some.inj ((show Tryz.prog.funcNamed "linchpin/linchpinlaw14.IndexReads" =some 4 by kernel_rfl).symm.trans hf) |>.symm
 obtain rfl:fn=Tryz.f4:=(Option.some.inj (Tryz.func4.symm.trans hfn)).symm;refine⟨by kernel_rfl,fun j t ht=>?_⟩;have hall:(Tryz.f4.params.toList.all fun t=>!Tryz.prog.wantsStandIn t)=true:=by kernel_rfl
 have:=List.all_eq_true.1 hall t (by simpa using Array.mem_of_getElem? ht);show Tryz.prog.wantsStandIn t=false;simpa using this
theorem card_indexReads:Rows.IndexReadsCardSaid:=
 Claim7.holds_tied_plain_at .later [] _ _ _ _ xh (fun _ h=>by cases h) (by kernel_rfl) (fun _ h=>by cases h) indexReads_row_tie rfl ⟨rfl,rfl⟩ (by kernel_rfl) rfl vK (by kernel_rfl)
end Go.Proofs.YtgnjlompgjhaaaaGreatDoor
end
#print axioms Go.Proofs.YtgnjlompgjhaaaaGreatDoor.card_indexReads
