/- linchpin: RecordSums answers true for every list of numbers. -/
import Derived.Carry
import Derived.ChangeArms
import Derived.ChangeSame
import Derived.Deep.DeepHandedRow
import Derived.Lib.LaidTab
import Derived.OpenShut
import Derived.RowKit
import Derived.Shelf.Strings.Builder2
import Derived.Test.YtpdlhpamcaocgaaGreatDoorCards
import Derived.Test.YtpdlhpamcaocgaaGreatDoorTie
import Derived.WideKeyArgs
import Derived.WideShapes
import Derived.Test.YtpdlhpamcaocgaaGreatDoorP09
set_option linter.all false
set_option maxRecDepth 4000
section
namespace Go.Abs
open Go.Proofs Go.Shelf Go.RowKit
section
variable [bS] {P:Program}
def iL (U:TypeId)(w:World)(v:Value)(s:List UInt8):Prop:=
 (v=.slice none 0 0∧s=[])∨∃g t c,v=.slice (some ⟨g,0,none⟩) s.length t∧w.heap[g]? =some (.cells c U (0,0))∧c.size=t∧t≤maxLen∧s.length≤t∧∀i,i<s.length→c.getD i undef=.int .u8 (s.getD i 0).toNat
def c7 (s:List UInt8):List Value:=s.map fun b=>Value.int .u8 b.toNat
def ep (s:List UInt8):(c7 s).length=s.length:=by simp[c7]
def nQ (s:List UInt8)(i:Nat)(h:i<s.length):(c7 s).getD i undef=.int .u8 (s.getD i 0).toNat:=by simp[c7,List.getD,h]
def sa (s:List UInt8):∀u∈c7 s,u.oneCell'=true:=by
 intro u hu;obtain⟨b,_,rfl⟩:=List.mem_map.1 hu;rfl
def A8 {x y:List UInt8}{zs:Array Value}(i:Nat)(hi:i<(x++y).length):(((c7 x++c7 y).toArray++zs).getD i undef)=.int .u8 ((x++y).getD i 0).toNat:=by
 rw[←a7];simp only[Array.toList_append];rw[bF,if_pos (by simpa[c7]using hi)];have:c7 x++c7 y=c7 (x++y):=by simp[c7]
 rw[this,nQ _ _ hi]
def Ga {U t u ty:TypeId}{i:TypeInfo}{w:World}(ht:P.underlying t=some (.slice U))(hi:P.info? U=some i)(hz:i.zero=some (.int .u8 0))(hs:i.size=1)(hby:i.bytes=1){v xv:Value}{s s2:List UInt8}
  (hv:iL U w v s) (h0:s2≠[]) (hsrc:Go.Src P 1 u xv s2.length (c7 s2) w) (hle:s.length+s2.length≤1099511627776):
  ∃g' t' w',(Builtin.append_ #[t,u] ty #[v,xv]).run P w=.ok (.slice (some ⟨g',0,none⟩) (s++s2).length t') w'∧iL U w' (.slice (some ⟨g',0,none⟩) (s++s2).length t') (s++s2)∧w.grownBy w' v.ownBlock∧(v.ownBlock=some g'∨w.heap.size≤g')∧g'<w'.heap.size:=by
 have hp:0<s2.length:=List.length_pos_iff.2 h0;have hm:maxLen=9223372036854775807:=rfl;rw[←hs]at hsrc;rcases hv with⟨rfl,rfl⟩|⟨g,cap,c,rfl,hg,hcs,hcm,hle2,hc⟩
 ·have hr:=run_append_grow_src (P:=P) w t u ty U i _ ht hi hz none 0 0 [] (by simp[Builtin.firstCells,loadCells,loadCellsFrom]) xv s2.length (c7 s2) hsrc (by omega) (by simp only[List.length_nil]at hle;omega) (by rw[hby];exact growslice_fits (by omega) (by simp only[List.length_nil]at hle;omega));have hge:=grownCap_ge w (0+s2.length) 0 U;have hcm2:grownCap w (0+s2.length) 0 U≤maxLen:=grownCap_le_maxLen w (0+s2.length) 0 U (by simp only[List.length_nil]at hle;omega);simp only[Nat.zero_add,List.nil_append]at hr hge hcm2;refine⟨w.heap.size,_,_,hr,.inr ⟨w.heap.size,_,_,rfl,cB w.drew _, ?_,hcm2,hge,fun j hj=>?_⟩,⟨rfl,rfl,rfl, ?_,fun k hk _=>gX w.drew _ k hk⟩,.inr (Nat.le_refl _), ?_⟩
  ·have hz1:(Value.int IntKind.u8 0).cells.size=1:=rfl;simp only[List.nil_append,Array.size_append,List.size_toArray,ep,size_zeroCells,hz1];omega
  ·exact A8 (x:=[]) j hj
  ·show w.heap.size≤(w.drew.heap.push _).size;rw[Array.size_push];exact Nat.le_succ _
  ·show w.heap.size<(w.drew.heap.push _).size;rw[Array.size_push];exact Nat.lt_succ_self _
 ·by_cases hroom:s.length+s2.length≤cap
  ·have hr:=run_append_room_src (P:=P) w t u ty U i ht hi g 0 s.length cap xv s2.length (c7 s2) hsrc hroom (fun j hj=>by
    rw[hs,cell_of_heap hg (by rw[ep]at hj;omega)];rfl) (fun j hj=>by simp[World.frozen?,hg])
   obtain⟨c',s1,s3,s4⟩:=gZ g (c7 s2) (0+s.length*i.size) w c U (0,0) hg (by rw[ep,hs];omega);obtain⟨f1,f2,f3,f4⟩:=fY g (c7 s2) (0+s.length*i.size) w;have hlt:g<w.heap.size:=by
    rcases Nat.lt_or_ge g w.heap.size with h|h
    ·exact h
    ·simp[Array.getElem?_eq_none h]at hg
   refine⟨g,cap,_,by simpa using hr,.inr ⟨g,cap,c',by simp,s1,by omega,hcm,by rw[List.length_append];exact hroom,fun j hj=>?_⟩,⟨f1,f2,f3,by omega,fun k _ hk=>fZ g _ _ _ k (fun e=>hk (by simp[Value.ownBlock,e]))⟩,.inl rfl,by omega⟩;rw[s4,ep,hs];rw[List.length_append]at hj;by_cases hj2:j<s.length
   ·rw[if_neg (by omega),hc j hj2,bF,if_pos hj2]
   ·rw[if_pos (by omega),nQ _ _ (by omega),bF,if_neg hj2];congr 4;omega
  ·have hold:(Builtin.firstCells i.size s.length (.slice (some ⟨g,0,none⟩) s.length cap)).run P w.drew=.ok (c7 s).toArray w.drew:=by
    refine run_firstCells_some w.drew i.size s.length _ s.length cap _ (by simp[ep,hs]) (fun j u' hj=>?_);have hj2:j<s.length:=by
     have:=(List.getElem?_eq_some_iff.1 hj).1;rwa [ep]at this
    have hg':w.drew.heap[g]? =some (.cells c U (0,0)):=hg;rw[Addr.qT,cell_of_heap hg' (by omega),Nat.zero_add,hc j hj2,←nQ s j hj2];simp[List.getD,hj]
   have hr:=run_append_grow_src (P:=P) w t u ty U i _ ht hi hz (some ⟨g,0,none⟩) s.length cap (c7 s) hold xv s2.length (c7 s2) hsrc (by omega) (by omega) (by rw[hby];exact growslice_fits (by omega) (by omega));have hge:=grownCap_ge w (s.length+s2.length) cap U;have hcm2:grownCap w (s.length+s2.length) cap U≤maxLen:=grownCap_le_maxLen w (s.length+s2.length) cap U (by omega);refine⟨w.heap.size,_,_,by simpa using hr,.inr ⟨w.heap.size,_,_,by simp,cB w.drew _, ?_,hcm2,by simpa using hge,fun j hj=>?_⟩,⟨rfl,rfl,rfl, ?_,fun k hk _=>gX w.drew _ k hk⟩,.inr (Nat.le_refl _), ?_⟩
   ·have hz1:(Value.int IntKind.u8 0).cells.size=1:=rfl;simp only[Array.size_append,List.size_toArray,List.length_append,ep,size_zeroCells,hz1];omega
   ·exact A8 j hj
   ·show w.heap.size≤(w.drew.heap.push _).size;rw[Array.size_push];exact Nat.le_succ _
   ·show w.heap.size<(w.drew.heap.push _).size;rw[Array.size_push];exact Nat.lt_succ_self _
def tG {ops:Array Oper}{rest:List Oper}{o:Oper}{a:Act}{Q:Exit→Act→World→Prop}(hgd:o.guard=none)(sl x:Operand)(t u:TypeId)
  (ho:o.op=.call {callee:=.builtin .append,args:=#[sl,x],argTypes:=#[t,u]}) {U:TypeId} {i:TypeInfo} {w:World}
  (ht:P.underlying t=some (.slice U)) (hi:P.info? U=some i) (hz:i.zero=some (.int .u8 0)) (hsz:i.size=1) (hby:i.bytes=1) {v xv:Value} {s s2:List UInt8} (hs:a.eval sl=v) (hx:a.eval x=xv)
  (hv:iL U w v s) (h0:s2≠[]) (hsrc:Go.Src P 1 u xv s2.length (c7 s2) w) (hle:s.length+s2.length≤1099511627776)
  (h:∀g' t' w',iL U w' (.slice (some ⟨g',0,none⟩) (s++s2).length t') (s++s2)→w.grownBy w' v.ownBlock→(v.ownBlock=some g'∨w.heap.size≤g')→g'<w'.heap.size→wpList P ops Q rest (a.put o.dst (.slice (some ⟨g',0,none⟩) (s++s2).length t')) w'):wpList P ops Q (o::rest) a w:=by
 refine wpList_plain hgd fun K hK=>?_
 obtain⟨g',t',w',hr,h2,h3,h4,h5⟩:=Ga (P:=P) (ty:=o.type) ht hi hz hsz hby hv h0 hsrc hle;unfold Oper.wp execOp;simp only[ho,resolve,invoke,builtin,Sem.run_bind,Sem.run_pure,Result.andThen_ok,List.map_toArray,List.map_cons,List.map_nil,hs,hx,hr];exact hK _ _ (h g' t' w' h2 h3 h4 h5)
def zD (w:World)(g n:Nat):(w.drew.freeze ⟨g,0,none⟩ n).os=w.os∧(w.drew.freeze ⟨g,0,none⟩ n).tape=w.tape∧(w.drew.freeze ⟨g,0,none⟩ n).output=w.output∧(w.drew.freeze ⟨g,0,none⟩ n).heap.size=w.heap.size∧∀k,k≠g→(w.drew.freeze ⟨g,0,none⟩ n).heap[k]? =w.heap[k]? :=by
 unfold World.freeze;split
 ·exact⟨rfl,rfl,rfl,rfl,fun _ _=>rfl⟩
 ·refine⟨rfl,rfl,rfl,by simp,fun k hk=>?_⟩;simp only[Array.getElem?_modify];rw[if_neg (fun e=>hk e.symm)];rfl
def nq (b:Nat)(u:Bool)(v:Value)(T:TypeId):Obj:=.cells #[.pointer (if u=true then some ⟨b,0,none⟩else none),v] T (0,0)
variable {ρ:Ren}
def uv (L:Lays.n240 P ρ)(X:Builder.X72 P ρ){b:Nat}{u:Bool}{v:Value}{w:World}(h:w.heap[b]? =some (nq b u v (ρ.t 72))):
  Calls P (ρ.f 240) #[.pointer (some ⟨b,0,none⟩)] w fun e w'=>e=.returned (.tuple #[])∧w'.heap[b]? =some (nq b true v (ρ.t 72))∧w.grownBy w' (some b):=by
 unfold nq at h;cases u with
 |true=>
  refine(Any.Builder_copyCheck_used L X b w (by rw[Lib.cell_of_heap h];rfl)).mono ?_;rintro e w' ⟨rfl,rfl⟩;exact⟨rfl,h,⟨rfl,rfl,rfl,Nat.le_refl _,fun _ _ _=>rfl⟩⟩
 |false=>
  refine(Any.Builder_copyCheck_fresh L X b w (by rw[Lib.cell_of_heap h];rfl) (by simp[World.shape?,h]) (Lib.frozen_of_heap h 0)).mono ?_;rintro e w' ⟨rfl,rfl⟩;exact⟨rfl,by simp[World.setCell,Array.getElem?_modify,h,nq],⟨rfl,rfl,rfl,by simp[World.setCell],fun k _ hk=>Below.heap_setCell _ _ _ _ (fun e=>hk (by simp[e]))⟩⟩
def xc (T U:TypeId)(b:Nat)(g:Option Nat)(s:List UInt8)(w w':World):Prop:=
 ∃g' t',w'.heap[b]? =some (nq b true (.slice (some ⟨g',0,none⟩) s.length t') T)∧iL U w' (.slice (some ⟨g',0,none⟩) s.length t') s∧(g=some g'∨w.heap.size≤g')∧g'<w'.heap.size∧g'≠b∧
  w'.os=w.os∧w'.tape=w.tape∧w'.output=w.output∧w.heap.size≤w'.heap.size∧∀k,k<w.heap.size→k≠b→some k≠g→w'.heap[k]? =w.heap[k]?
def iL.kP {U:TypeId}{w w':World}{v:Value}{s:List UInt8}(h:iL U w v s)(hk:∀g,v.ownBlock=some g→w'.heap[g]? =w.heap[g]?):iL U w' v s:=by
 rcases h with h|⟨g,t,c,rfl,hg,r⟩
 ·exact .inl h
 ·exact .inr ⟨g,t,c,rfl,(hk g rfl).trans hg,r⟩
def iL.lt {U:TypeId}{w:World}{v:Value}{s:List UInt8}(h:iL U w v s){g:Nat}(hg:v.ownBlock=some g):g<w.heap.size∧∃c,w.heap[g]? =some (.cells c U (0,0)):=by
 rcases h with⟨rfl,_⟩|⟨g',t,c,rfl,hg',r⟩
 ·cases hg
 ·simp only[Value.ownBlock,Option.some.injEq]at hg;subst hg;refine⟨?_,c,hg'⟩;rcases Nat.lt_or_ge g' w.heap.size with h|h
  ·exact h
  ·simp[Array.getElem?_eq_none h]at hg'
set_option maxHeartbeats 2000000 in
set_option maxRecDepth 100000 in
theorem qV (L:Lays.n166 P ρ)(X:Builder.Extra P ρ){b:Nat}{u:Bool}{v:Value}{s s2:List UInt8}{w:World}(h:w.heap[b]? =some (nq b u v (ρ.t 72)))(hv:iL (ρ.t 5) w v s)(h0:s2≠[])(hm2:s2.length≤maxLen)(hle:s.length+s2.length≤1099511627776):
  Calls P (ρ.f 166) #[.pointer (some ⟨b,0,none⟩),.string ⟨⟨s2⟩⟩] w fun e w'=>(∃r,e=.returned r)∧xc (ρ.t 72) (ρ.t 5) b v.ownBlock (s++s2) w w':=by
 obtain⟨i0,hi,hz0,hz1,hz2⟩:=info_parts X.infoByte;have mixed:=L.mixed;have t72:=L.t72;have a72:=L.a72;have z72:=L.z72;have v72:=L.v72;have u72:=run_underlying L.t72;have t70:=L.t70;have a70:=L.a70;have z70:=L.z70;have v70:=L.v70;have u70:=run_underlying L.t70;have t37:=L.t37;have a37:=L.a37;have z37:=L.z37;have v37:=L.v37;have u37:=run_underlying L.t37;have t3:=L.t3;have a3:=L.a3;have z3:=L.z3;have v3:=L.v3;have u3:=run_underlying L.t3;have t9:=L.t9;have a9:=L.a9;have z9:=L.z9;have v9:=L.v9;have u9:=run_underlying L.t9;have t4:=L.t4;have a4:=L.a4;have z4:=L.z4;have v4:=L.v4;have u4:=run_underlying L.t4;have t164:=L.t164;have a164:=L.a164;have z164:=L.z164;have v164:=L.v164;have u164:=run_underlying L.t164;have t5:=X.t5;have a5:=X.a5;have z5:=X.z5;have v5:=X.v5;have u5:=run_underlying X.t5;have e240:∀args w,(callFunc (ρ.f 240) args).run P w=.ok (.enter (ρ.f 240) args) w:=enters_of L.f240 (by kernel_rfl) rfl
 have hne:∀g,v.ownBlock=some g→g≠b:=by
  rintro g hg rfl;obtain⟨_,c,hc⟩:=hv.lt hg;rw[h]at hc;simp only[nq,Option.some.injEq,Obj.cells.injEq]at hc;exact X.neB5 hc.2.1
 go_enter L.f166,Body.n166_ntmps ρ
 go_wp2_with (go_at_fn (ρ.f 240);refine(uv {L with} X.toX72 h).mono ?_)
 rintro e w1 ⟨rfl,h1,hb1⟩;have hv1:iL (ρ.t 5) w1 v s:=hv.kP fun g hg=>hb1.block g (hv.lt hg).1 (fun e=>hne g hg (Option.some.inj e))
 have c0:w1.cell? ⟨b,0,none⟩=some (.pointer (some ⟨b,0,none⟩)):=by rw[Lib.cell_of_heap h1];rfl
 have c1:w1.cell? ⟨b,1,none⟩=some v:=by rw[Lib.cell_of_heap h1];rfl
 have hsrc:Go.Src P 1 (ρ.t 9) (.string ⟨⟨s2⟩⟩) s2.length (c7 s2) w1:=⟨.inr L.t9,fun _=>rfl,firstCells_string _ _,firstCells_string _ _,by rw[ep,Nat.mul_one],sa s2⟩;have key:=fun ops rest o a Q hgd ho hs hx h=>tG (P:=P) (ops:=ops) (rest:=rest) (o:=o) (a:=a) (Q:=Q) hgd (.tmp 12) (.tmp 13) (ρ.t 37) (ρ.t 9) ho L.t37 hi hz0 hz1 hz2 (v:=v) (xv:=.string ⟨⟨s2⟩⟩) hs hx hv1 h0 hsrc hle h
 go_wp2_with (at_builtin;refine key _ _ _ _ _ rfl rfl rfl rfl ?_)
 clear key;intro g' t' w2 hown' hgrow hg' hlt';have hlt:b<w1.heap.size:=by
  rcases Nat.lt_or_ge b w1.heap.size with h'|h'
  ·exact h'
  ·simp[Array.getElem?_eq_none h']at h1
 have iz:w2.heap[b]? =some (nq b true v (ρ.t 72)):=by
  rw[hgrow.block b hlt (fun e=>hne b e.symm rfl)];exact h1
 have hgb:g'≠b:=by
  rcases hg' with h'|h'
  ·exact hne g' h'
  ·omega
 have d0:w2.cell? ⟨b,0,none⟩=some (.pointer (some ⟨b,0,none⟩)):=by rw[Lib.cell_of_heap iz];rfl
 have d1:w2.cell? ⟨b,1,none⟩=some v:=by rw[Lib.cell_of_heap iz];rfl
 have f1:w2.frozen? ⟨b,1,none⟩=false:=Lib.frozen_of_heap iz 1
 go_wp2
 go_ret2
 have hsz:=hb1.size;refine⟨⟨_,rfl⟩, ?_⟩;unfold xc;simp only[List.length_append]at hown'⊢;refine⟨g',t',by simp[World.setCell,Array.getElem?_modify,iz,nq],hown'.kP fun g hg=>Below.heap_setCell w2 ⟨b,1,none⟩ _ g (fun e=>hgb ((Option.some.inj hg).trans e)),hg'.imp id (fun h=>by omega),by simpa[World.setCell]using hlt',hgb,hgrow.os.trans hb1.os,hgrow.tape.trans hb1.tape,hgrow.output.trans hb1.output,by have:=hgrow.size;simp[World.setCell];omega,fun k hk h1' h2'=>?_⟩;rw[Below.heap_setCell w2 ⟨b,1,none⟩ _ k h1',hgrow.block k (by omega) h2',hb1.block k hk (fun e=>h1' (Option.some.inj e))]
set_option maxHeartbeats 2000000 in
set_option maxRecDepth 100000 in
theorem tM (L:Lays.n167 P ρ)(X:Builder.Extra P ρ){b:Nat}{u:Bool}{v:Value}{s:List UInt8}{c:UInt8}{w:World}(h:w.heap[b]? =some (nq b u v (ρ.t 72)))(hv:iL (ρ.t 5) w v s)(hle:s.length+1≤1099511627776):
  Calls P (ρ.f 167) #[.pointer (some ⟨b,0,none⟩),.int .u8 c.toNat] w fun e w'=>(∃r,e=.returned r)∧xc (ρ.t 72) (ρ.t 5) b v.ownBlock (s++[c]) w w':=by
 obtain⟨i0,hi,hz0,hz1,hz2⟩:=info_parts X.infoByte;have mixed:=L.mixed;have t72:=L.t72;have a72:=L.a72;have z72:=L.z72;have v72:=L.v72;have u72:=run_underlying L.t72;have t70:=L.t70;have a70:=L.a70;have z70:=L.z70;have v70:=L.v70;have u70:=run_underlying L.t70;have t37:=L.t37;have a37:=L.a37;have z37:=L.z37;have v37:=L.v37;have u37:=run_underlying L.t37;have t9:=L.t9;have a9:=L.a9;have z9:=L.z9;have v9:=L.v9;have u9:=run_underlying L.t9;have t4:=L.t4;have a4:=L.a4;have z4:=L.z4;have v4:=L.v4;have u4:=run_underlying L.t4;have t164:=L.t164;have a164:=L.a164;have z164:=L.z164;have v164:=L.v164;have u164:=run_underlying L.t164;have t5:=L.t5;have a5:=L.a5;have z5:=L.z5;have v5:=L.v5;have u5:=run_underlying L.t5;have e240:∀args w,(callFunc (ρ.f 240) args).run P w=.ok (.enter (ρ.f 240) args) w:=enters_of L.f240 (by kernel_rfl) rfl
 have hne:∀g,v.ownBlock=some g→g≠b:=by
  rintro g hg rfl;obtain⟨_,c,hc⟩:=hv.lt hg;rw[h]at hc;simp only[nq,Option.some.injEq,Obj.cells.injEq]at hc;exact X.neB5 hc.2.1
 go_enter L.f167,Body.n167_ntmps ρ
 go_wp2_with (go_at_fn (ρ.f 240);refine(uv {L with} X.toX72 h).mono ?_)
 rintro e w1 ⟨rfl,h1,hb1⟩;have hv1:iL (ρ.t 5) w1 v s:=hv.kP fun g hg=>hb1.block g (hv.lt hg).1 (fun e=>hne g hg (Option.some.inj e))
 have c0:w1.cell? ⟨b,0,none⟩=some (.pointer (some ⟨b,0,none⟩)):=by rw[Lib.cell_of_heap h1];rfl
 have c1:w1.cell? ⟨b,1,none⟩=some v:=by rw[Lib.cell_of_heap h1];rfl
 have key:=fun ob ops rest o a Q sl x hgd ho hs hx hv2 hsrc h=>tG (P:=P) (w:=w1.alloc ob) (ops:=ops) (rest:=rest) (o:=o) (a:=a) (Q:=Q) hgd sl x (ρ.t 37) (ρ.t 37) ho L.t37 hi hz0 hz1 hz2 (v:=v) (xv:=.slice (some ⟨w1.heap.size,0,none⟩) 1 1) (s:=s) (s2:=[c]) hs hx hv2 (List.cons_ne_nil _ _) hsrc hle h
 go_wp2_with (at_builtin;refine key _ _ _ _ _ _ _ _ rfl rfl rfl rfl (hv1.kP fun g hg=>Lib.alloc_old w1 _ g (hv1.lt hg).1) ?hs ?_)
 case hs=>
  refine Go.Src.ofSlice _ L.t37 ⟨w1.heap.size,0,none⟩ 1 1 _ rfl (fun j u hj=>?_) (sa [c])
  match j,hj with
  |0,hj=>simp[c7]at hj;subst hj;simp[Addr.add]
 clear key;intro g' t' w2 hown' hgrow hg' hlt';have hlt:b<w1.heap.size:=by
  rcases Nat.lt_or_ge b w1.heap.size with h'|h'
  ·exact h'
  ·simp[Array.getElem?_eq_none h']at h1
 have iz:w2.heap[b]? =some (nq b true v (ρ.t 72)):=by
  rw[hgrow.block b (by simp;omega) (fun e=>hne b e.symm rfl),Lib.alloc_old w1 _ b hlt];exact h1
 have hgb:g'≠b:=by
  rcases hg' with h'|h'
  ·exact hne g' h'
  ·omega
 have d0:w2.cell? ⟨b,0,none⟩=some (.pointer (some ⟨b,0,none⟩)):=by rw[Lib.cell_of_heap iz];rfl
 have d1:w2.cell? ⟨b,1,none⟩=some v:=by rw[Lib.cell_of_heap iz];rfl
 have f1:w2.frozen? ⟨b,1,none⟩=false:=Lib.frozen_of_heap iz 1
 go_wp2
 go_ret
 have hsz:=hb1.size;refine⟨⟨_,rfl⟩, ?_⟩;unfold xc;simp only[List.length_append]at hown'⊢;refine⟨g',t',by simp[World.setCell,Array.getElem?_modify,iz,nq],hown'.kP fun g hg=>Below.heap_setCell w2 ⟨b,1,none⟩ _ g (fun e=>hgb ((Option.some.inj hg).trans e)),hg'.imp id (fun h=>by omega),by simpa[World.setCell]using hlt',hgb,hgrow.os.trans hb1.os,hgrow.tape.trans hb1.tape,hgrow.output.trans hb1.output,by have:=hgrow.size;simp at this;simp[World.setCell];omega,fun k hk h1' h2'=>?_⟩;rw[Below.heap_setCell w2 ⟨b,1,none⟩ _ k h1',hgrow.block k (by simp;omega) h2',Lib.alloc_old w1 _ k (by omega),hb1.block k hk (fun e=>h1' (Option.some.inj e))]
set_option maxHeartbeats 1000000 in
set_option maxRecDepth 100000 in
theorem zp (L:Lays.n169 P ρ)(X:Builder.Extra P ρ){b g t:Nat}{u:Bool}{s:List UInt8}{w:World}(h:w.heap[b]? =some (nq b u (.slice (some ⟨g,0,none⟩) s.length t) (ρ.t 72)))(hv:iL (ρ.t 5) w (.slice (some ⟨g,0,none⟩) s.length t) s)(h0:s≠[]):
  Calls P (ρ.f 169) #[.pointer (some ⟨b,0,none⟩)] w fun e w'=>e=.returned (.string ⟨⟨s⟩⟩)∧w'.os=w.os∧w'.tape=w.tape∧w'.output=w.output∧w'.heap.size=w.heap.size∧∀k,k≠g→w'.heap[k]? =w.heap[k]? :=by
 have hl0:s.length≠0:=by simpa using h0
 obtain⟨c,hg,hcs,hcm,hle,hc⟩:∃c,w.heap[g]? =some (.cells c (ρ.t 5) (0,0))∧c.size=t∧t≤maxLen∧s.length≤t∧∀i,i<s.length→c.getD i undef=.int .u8 (s.getD i 0).toNat:=by
  rcases hv with⟨h1,_⟩|⟨g',t',c,h1,r⟩
  ·cases h1
  ·simp only[Value.slice.injEq,Option.some.injEq,Addr.mk.injEq]at h1;obtain⟨⟨rfl,_⟩,_,rfl⟩:=h1;exact⟨c,r⟩
 have c1:w.drew.cell? ⟨b,1,none⟩=some (.slice (some ⟨g,0,none⟩) s.length t):=by
  have:w.drew.heap[b]? =some (nq b u (.slice (some ⟨g,0,none⟩) s.length t) (ρ.t 72)):=h;rw[Lib.cell_of_heap this];rfl
 have hSD:(Builtin.unsafeSliceData_ #[(ρ.t 37)] (ρ.t 127) #[.slice (some ⟨g,0,none⟩) s.length t]).run P w.drew=.ok (.pointer (some ⟨g,0,none⟩)) w.drew:=
  Lib.run_unsafeSliceData_row _ _ _ _ _ _ (by omega)
 have hUS:(Builtin.unsafeString_ #[(ρ.t 127),(ρ.t 3)] (ρ.t 9) #[.pointer (some ⟨g,0,none⟩),.int .i64 s.length]).run P w.drew=.ok (.string ⟨s.toArray⟩) (w.drew.freeze ⟨g,0,none⟩ s.length):=by
  refine Lib.run_unsafeString_row w.drew (ρ.t 127) (ρ.t 3) (ρ.t 9) (ρ.t 5) L.t127 X.cellsByte g c.size (by have hg':w.drew.heap[g]? =some (.cells c (ρ.t 5) (0,0)):=hg;simp[World.shape?,hg']) s h0 (by omega) (by unfold maxLen at hcm;omega) ?_;intro j x hx;have hj:=(List.getElem?_eq_some_iff.1 hx).1;have hg':w.drew.heap[g]? =some (.cells c (ρ.t 5) (0,0)):=hg;rw[Addr.qT,cell_of_heap hg' (by omega),Nat.zero_add,hc j hj];simp[List.getD,hx]
 have mixed:=L.mixed;have t72:=L.t72;have a72:=L.a72;have z72:=L.z72;have v72:=L.v72;have u72:=run_underlying L.t72;have t70:=L.t70;have a70:=L.a70;have z70:=L.z70;have v70:=L.v70;have u70:=run_underlying L.t70;have t37:=L.t37;have a37:=L.a37;have z37:=L.z37;have v37:=L.v37;have u37:=run_underlying L.t37;have t127:=L.t127;have a127:=L.a127;have z127:=L.z127;have v127:=L.v127;have u127:=run_underlying L.t127;have t3:=L.t3;have a3:=L.a3;have z3:=L.z3;have v3:=L.v3;have u3:=run_underlying L.t3;have t9:=L.t9;have a9:=L.a9;have z9:=L.z9;have v9:=L.v9;have u9:=run_underlying L.t9;have t5:=X.t5;have a5:=X.a5;have z5:=X.z5;have v5:=X.v5;have u5:=run_underlying X.t5
 go_enter L.f169,Body.n169_ntmps ρ
 go_wp2
 go_region_o
 all_goals (go_wp2;go_ret;exact⟨rfl,zD _ _ _⟩)
end
end Go.Abs
end
section
namespace Go.Abs
open Go.Proofs Go.Shelf Go.RowKit
section
variable [bS] {P:Program} {ν:List (Nat×Nat)} {bA:List Nat} {Γ:Ctx} {x:X}
def zo {m:List (Nat×aV)}{l:Nat}{t:List UInt8}{v:Value}(hs:dn ν x (look m))(hb:nA m l t)(hv:RD ν x v (.ptr l 2 0 0)):
  ∃b tot u w,v=.pointer (some ⟨b,0,none⟩)∧x.β l=some (b,0,tot)∧¬x.I b∧x.w.heap[b]? =some (nq b u w bS.tB)∧iL bS.tU x.w w t∧
   (w.ownBlock=none∧dp m l=m∨∃l2 g t2,w=.slice (some ⟨g,0,none⟩) t.length t2∧x.β l2=some (g,0,t2)∧¬x.I g∧look m l2=some (.row t)∧l2≠l∧dp m l=bK m l2):=by
 cases hv with
 |ptr _ _ _ _ b base tot at_ hβ hat=>
  rcases hb with⟨u,h1,rfl⟩|⟨l2,u,h1,h2⟩
  ·obtain⟨o1,rfl,w,o2,_,rfl⟩:=hs.own l _ b base tot h1 hβ;simp only[Nat.zero_mul,Nat.add_zero]at hat;subst hat;exact⟨b,tot,u,_,rfl,hβ,o1,o2,.inl ⟨rfl,rfl⟩,.inl ⟨rfl,by simp only[dp,h1]⟩⟩
  ·obtain⟨o1,rfl,w,o2,g,t2,rfl,o3,o4⟩:=hs.own l _ b base tot h1 hβ;simp only[Nat.zero_mul,Nat.add_zero]at hat;subst hat;obtain⟨p1,_,c,p2,p3,p4,p5,p6⟩:=hs.own l2 _ g 0 t2 h2 o4;have hne:l2≠l:=by rintro rfl;rw[h1]at h2;cases h2
   exact⟨b,tot,u,_,rfl,hβ,o1,o2,.inr ⟨g,t2,c,rfl,p2,p3,p4,p5,p6⟩,.inr ⟨l2,g,t2,rfl,o4,p1,h2,hne,by simp only[dp,h1]⟩⟩
def vF {st:St}{l:Nat}{t s:List UInt8}{b tot:Nat}{w:Value}{w':World}(hs:dn ν x (look st.m))(hf:di st x)(hlive:look st.m l≠none)(hl:l<st.nx)
  (hβ:x.β l=some (b,0,tot)) (hI:¬x.I b)
  (hrow:w.ownBlock=none∧dp st.m l=st.m∨∃l2 g t2,w=.slice (some ⟨g,0,none⟩) t.length t2∧x.β l2=some (g,0,t2)∧¬x.I g∧look st.m l2=some (.row t)∧l2≠l∧dp st.m l=bK st.m l2)
  (hw:xc bS.tB bS.tU b w.ownBlock s x.w w'):
  ∃x':X,x'.w=w'∧Step x x'∧dn ν x' (look (lQ st.m l st.nx s))∧di ⟨st.nx+1,lQ st.m l st.nx s⟩ x':=by
 obtain⟨g',t',h1,h2,h3,h4,h5,k1,k2,k3,k4,k5⟩:=hw;have hn:=hf.β st.nx (Nat.le_refl _)

 have hg:∀g,w.ownBlock=some g→∃l2 t2,x.β l2=some (g,0,t2)∧¬x.I g∧look st.m l2=some (.row t)∧l2≠l∧dp st.m l=bK st.m l2:=by
  intro g hg;rcases hrow with⟨h,_⟩|⟨l2,g0,t2,rfl,q⟩
  ·rw[h]at hg;cases hg
  ·obtain rfl:=Option.some.inj hg;exact⟨l2,t2,q⟩
 have hlook:∀l' blk,l'≠l→look (dp st.m l) l'=some blk→look st.m l'=some blk∧∀g,w.ownBlock=some g→∀p,x.β l'=some p→p.1≠g:=by
  intro l' blk hl' hk;rcases hrow with⟨h,e⟩|⟨l2,g0,t2,rfl,q1,q2,q3,q4,e⟩
  ·rw[e]at hk;exact⟨hk,fun g hg=>by rw[h]at hg;cases hg⟩
  ·rw[e,dK]at hk;split at hk
   ·cases hk
   ·rename_i hne;refine⟨hk,fun g hg p hp e=>?_⟩;obtain rfl:=Option.some.inj hg;obtain⟨b',base',tot'⟩:=p;simp only at e;subst e;exact hne (hs.inj l' l2 _ _ _ _ _ (by rw[hk];simp) (by rw[q3];simp) hp q1)
 have hbg:∀l' p,x.β l'=some p→p.1<x.w.heap.size:=fun l' ⟨b',base',tot'⟩ hp=>hs.cI l' b' base' tot' hp
 have hkeep:∀k,k<x.w.heap.size→k≠b→some k≠w.ownBlock→w'.heap[k]? =x.w.heap[k]? :=k5
 let x':X:=⟨w',x.I,cw x.β st.nx (g',0,t')⟩
 have hst:Step x x':=by
  refine⟨k1,k2,k3,k4,fun _ h=>h,fun k hk=>hkeep k (hs.imm k hk) (fun e=>hI (e▸hk)) (fun e=>?_),fun l' p hp=>?_,fun k hk hn'=>hkeep k hk (fun e=>hn' l _ hβ e.symm) (fun e=>?_),fun _ h=>.inl h,fun l' p hp=>?_⟩
  ·obtain⟨l2,t2,q1,q2,_⟩:=hg k e.symm;exact q2 hk
  ·have:l'≠st.nx:=fun e=>by rw[e,hn]at hp;cases hp
   simp[x',cw,this,hp]
  ·obtain⟨l2,t2,q1,_⟩:=hg k e.symm;exact hn' l2 _ q1 rfl
  ·by_cases e1:l'=st.nx
   ·simp only[x',cw,e1,if_true,Option.some.injEq]at hp;subst hp;rcases h3 with h3|h3
    ·obtain⟨l2,t2,q1,_⟩:=hg g' h3;exact .inr (.inr ⟨l2,_,q1,rfl⟩)
    ·exact .inr (.inl h3)
   ·simp only[x',cw,e1,if_false]at hp;exact .inl hp
 have hle:=hst.le;have hlm:∀l',look (lQ st.m l st.nx s) l'=if l'=st.nx then some (.row s)else if l'=l then some (.bld (some st.nx) s.length true)else look (dp st.m l) l':=by
  intro l';simp only[lQ,look];by_cases e:l'=st.nx
  ·rw[if_pos e.symm,if_pos e]
  ·rw[if_neg (fun h=>e h.symm),if_neg e,bh]
 have hfr:∀l' p,l'≠st.nx→x.β l'=some p→l'≠l→look (dp st.m l) l'≠none→p.1≠g':=by
  intro l' p hl' hp hne hk e;cases hq:look (dp st.m l) l' with
  |none=>exact hk hq
  |some blk=>
   rcases h3 with h3|h3
   ·exact(hlook l' blk hne hq).2 g' h3 p hp e
   ·have:=hbg l' p hp;omega
 refine⟨x',rfl,hst,⟨fun l' blk b' base' tot' e1 e2=>?_,fun l1 l2 b' base1 tot1 base2 tot2 e1 e2 e3 e4=>?_,fun k hk=>Nat.lt_of_lt_of_le (hs.imm k hk) k4,fun l' b' base' tot' e=>?_,mg hle hs.gd⟩,⟨fun l' hl'=>?_,fun l' hl'=>?_⟩⟩
 ·rw[hlm]at e1;by_cases c1:l'=st.nx
  ·rw[if_pos c1]at e1;simp only[x',cw,if_pos c1,Option.some.injEq,Prod.mk.injEq]at e2;obtain⟨rfl,rfl,rfl⟩:=e2;obtain rfl:=Option.some.inj e1;refine⟨fun h=>?_,rfl, ?_⟩
   ·rcases h3 with h3|h3
    ·obtain⟨l2,t2,_,q2,_⟩:=hg g' h3;exact q2 h
    ·have:=hs.imm g' h;omega
   ·rcases h2 with⟨h2,_⟩|⟨g2,t2,c,h2,r⟩
    ·cases h2
    ·simp only[Value.slice.injEq,Option.some.injEq,Addr.mk.injEq]at h2;obtain⟨⟨rfl,_⟩,_,rfl⟩:=h2;exact⟨c,r⟩
  ·rw[if_neg c1]at e1;simp only[x',cw,if_neg c1]at e2;by_cases c2:l'=l
   ·subst c2;rw[if_pos rfl]at e1;rw[hβ]at e2;simp only[Option.some.injEq,Prod.mk.injEq]at e2;obtain⟨rfl,rfl,rfl⟩:=e2;obtain rfl:=Option.some.inj e1;refine⟨hI,rfl,_,h1,g',t',rfl, ?_,by simp[x',cw]⟩;rcases h2 with⟨h2,_⟩|⟨g2,t2,c,h2,_,_,_,r,_⟩
    ·cases h2
    ·simp only[Value.slice.injEq]at h2;obtain⟨_,_,rfl⟩:=h2;exact r
   ·rw[if_neg c2]at e1;obtain⟨q1,q2⟩:=hlook l' blk c2 e1;obtain⟨o1,o2⟩:=hs.own l' blk b' base' tot' q1 e2;refine⟨o1,o2.mono hle (hkeep b' (hs.cI _ _ _ _ e2) (fun e=>?_) (fun e=>q2 b' e.symm _ e2 rfl))⟩;subst e;exact c2 (hs.inj l' l _ _ _ _ _ (by rw[q1];simp) hlive e2 hβ)
 ·rw[hlm]at e1 e2;by_cases c1:l1=st.nx
  ·by_cases c2:l2=st.nx
   ·rw[c1,c2]
   ·exfalso;rw[if_neg c2]at e2;simp only[x',cw,if_pos c1,Option.some.injEq,Prod.mk.injEq]at e3;simp only[x',cw,if_neg c2]at e4;obtain⟨rfl,_⟩:=e3;by_cases c3:l2=l
    ·subst c3;rw[hβ]at e4;simp only[Option.some.injEq,Prod.mk.injEq]at e4;exact h5 e4.1.symm
    ·rw[if_neg c3]at e2;exact hfr l2 _ c2 e4 c3 e2 rfl
  ·rw[if_neg c1]at e1;simp only[x',cw,if_neg c1]at e3;by_cases c2:l2=st.nx
   ·exfalso;simp only[x',cw,if_pos c2,Option.some.injEq,Prod.mk.injEq]at e4;obtain⟨rfl,_⟩:=e4;by_cases c3:l1=l
    ·subst c3;rw[hβ]at e3;simp only[Option.some.injEq,Prod.mk.injEq]at e3;exact h5 e3.1.symm
    ·rw[if_neg c3]at e1;exact hfr l1 _ c1 e3 c3 e1 rfl
   ·rw[if_neg c2]at e2;simp only[x',cw,if_neg c2]at e4;have live:∀l',(if l'=l then some (aV.bld (some st.nx) s.length true)else look (dp st.m l) l')≠none→look st.m l'≠none:=by
     intro l' h;by_cases c:l'=l
     ·rw[c];exact hlive
     ·rw[if_neg c]at h;cases hq:look (dp st.m l) l' with
      |none=>exact absurd hq h
      |some blk=>rw[(hlook l' blk c hq).1];simp
    exact hs.inj l1 l2 b' base1 tot1 base2 tot2 (live l1 e1) (live l2 e2) e3 e4
 ·by_cases c1:l'=st.nx
  ·simp only[x',cw,if_pos c1,Option.some.injEq,Prod.mk.injEq]at e;obtain⟨rfl,_⟩:=e;exact h4
  ·simp only[x',cw,if_neg c1]at e;exact Nat.lt_of_lt_of_le (hs.cI _ _ _ _ e) k4
 ·have hl':st.nx+1≤l':=hl';simp only[x',cw,if_neg (show ¬l'=st.nx by omega)];exact hf.β l' (by omega)
 ·show l'<st.nx+1;simp only[hlm]at hl';by_cases c1:l'=st.nx
  ·omega
  ·rw[if_neg c1]at hl';by_cases c2:l'=l
   ·omega
   ·rw[if_neg c2]at hl';cases hq:look (dp st.m l) l' with
    |none=>exact absurd hq hl'
    |some blk=>have:=hf.m l' (by rw[(hlook l' blk c2 hq).1];simp);omega
def nA.live {m:List (Nat×aV)}{l:Nat}{t:List UInt8}(h:nA m l t):look m l≠none:=by
 rcases h with⟨u,h,_⟩|⟨l2,u,h,_⟩<;>rw[h]<;>simp
variable {ρ:Ren}
def Du {args:Array Value}(h:args.size=2):args=#[args.getD 0 undef,args.getD 1 undef]:=by
 apply Array.ext
 ·simpa using h
 ·intro i h1 h2
  match i,h1 with
  |0,h1=>simp[Array.getD,h1]
  |1,h1=>simp[Array.getD,h1]
  |i+2,h1=>omega
def Ja {args:Array Value}(h:args.size=1):args=#[args.getD 0 undef]:=by
 apply Array.ext
 ·simpa using h
 ·intro i h1 h2
  match i,h1 with
  |0,h1=>simp[Array.getD,h1]
  |i+1,h1=>omega
def GG (hB:bS.tB=ρ.t 72)(hU:bS.tU=ρ.t 5)(L:Lays.n166 P ρ)(X':Builder.Extra P ρ)(hen:∀args w,(callFunc (ρ.f 166) args).run P w=.ok (.enter (ρ.f 166) args) w):Dr P ν Γ bA MV (ρ.f 166):=by
 rintro ds st K ⟨s,l,t,rfl,hb,hl,h0,hle,hK⟩ hok x args hl2 hargs hs hf;obtain⟨b,tot,u,w,e0,hβ,hI,hh,hv,hrow⟩:=zo hs hb (hargs 0 (by simp));have h1:=hargs 1 (by simp);simp only[List.getD_cons_succ,List.getD_cons_zero]at h1;obtain⟨e1,hm⟩:=h1.e8;rw[hB]at hh;rw[hU]at hv;refine .inr ⟨ρ.f 166,args,hen args x.w, ?_⟩;rw[Du (args:=args) (by simpa using hl2),e0,e1];refine(qV L X' hh hv h0 hm hle).mono ?_;rintro e w' ⟨⟨r,rfl⟩,hw⟩;rw[←hB,←hU]at hw;obtain⟨x',q1,q2,q3,q4⟩:=vF hs hf hb.live hl hβ hI hrow hw;exact⟨x',q1,.any,_,hK,q2,.any _,q3,q4⟩
def GD (hB:bS.tB=ρ.t 72)(hU:bS.tU=ρ.t 5)(L:Lays.n167 P ρ)(X':Builder.Extra P ρ)(hen:∀args w,(callFunc (ρ.f 167) args).run P w=.ok (.enter (ρ.f 167) args) w):Dr P ν Γ bA MU (ρ.f 167):=by
 rintro ds st K ⟨c,l,t,rfl,hb,hl,h0,hle,hK⟩ hok x args hl2 hargs hs hf;obtain⟨b,tot,u,w,e0,hβ,hI,hh,hv,hrow⟩:=zo hs hb (hargs 0 (by simp));have h1:=hargs 1 (by simp);simp only[List.getD_cons_succ,List.getD_cons_zero]at h1;have e1:=h1.cb;rw[hB]at hh;rw[hU]at hv;refine .inr ⟨ρ.f 167,args,hen args x.w, ?_⟩;rw[Du (args:=args) (by simpa using hl2),e0,e1];refine(tM L X' hh hv hle).mono ?_;rintro e w' ⟨⟨r,rfl⟩,hw⟩;rw[←hB,←hU]at hw;obtain⟨x',q1,q2,q3,q4⟩:=vF hs hf hb.live hl hβ hI hrow hw;exact⟨x',q1,.any,_,hK,q2,.any _,q3,q4⟩
def GC (hB:bS.tB=ρ.t 72)(hU:bS.tU=ρ.t 5)(L:Lays.n169 P ρ)(X':Builder.Extra P ρ)(hen:∀args w,(callFunc (ρ.f 169) args).run P w=.ok (.enter (ρ.f 169) args) w):Dr P ν Γ bA MT (ρ.f 169):=by
 rintro ds st K ⟨l,t,rfl,hb,h0,hK⟩ hok x args hl2 hargs hs hf;obtain⟨b,tot,u,w,e0,hβ,hI,hh,hv,hrow⟩:=zo hs hb (hargs 0 (by simp));rcases hrow with⟨hn,_⟩|⟨l2,g,t2,rfl,q1,q2,q3,q4,q5⟩
 ·exfalso;rcases hv with⟨_,h⟩|⟨g,t',c,rfl,_⟩
  ·exact h0 h
  ·cases hn
 rw[hB]at hh;rw[hU]at hv;have htm:t.length≤maxLen:=by
  rcases hv with⟨_,rfl⟩|⟨g',t',c,h1,_,_,h4,h5,_⟩
  ·exact absurd rfl h0
  ·omega
 refine .inr ⟨ρ.f 169,args,hen args x.w, ?_⟩;rw[Ja (args:=args) (by simpa using hl2),e0];refine(zp L X' hh hv h0).mono ?_;rintro e w' ⟨rfl,k1,k2,k3,k4,k5⟩;have hkeep:∀k,(∀l' p,look (bK (dp st.m l) l) l'≠none→x.β l'=some p→p.1=k→False)→True:=fun _ _=>trivial
 have hst:Step x ⟨w',x.I,x.β⟩:=⟨k1,k2,k3,Nat.le_of_eq k4.symm,fun _ h=>h,fun k hk=>k5 k (fun e=>q2 (e▸hk)),fun _ _ h=>h,fun k hk hn=>k5 k (fun e=>hn l2 _ q1 e.symm),fun _ h=>.inl h,fun _ _ h=>.inl h⟩;have hlm:∀l',look (bK (dp st.m l) l) l'=if l'=l then none else if l'=l2 then none else look st.m l':=fun l'=>by rw[dK,q5,dK]
 refine⟨⟨w',x.I,x.β⟩,rfl,.str t,_,hK,hst,.str t htm,⟨fun l' blk b' base' tot' e1 e2=>?_,fun l1 l3 b' base1 tot1 base2 tot2 e1 e2 e3 e4=>?_,fun k hk=>by show k<w'.heap.size;rw[k4];exact hs.imm k hk,fun l' b' base' tot' e=>by show b'<w'.heap.size;rw[k4];exact hs.cI _ _ _ _ e,mg hst.le hs.gd⟩,⟨hf.β,fun l' hl'=>?_⟩⟩
 ·rw[hlm]at e1;split at e1
  ·cases e1
  split at e1
  ·cases e1
  rename_i c1 c2;obtain⟨o1,o2⟩:=hs.own l' blk b' base' tot' e1 e2;refine⟨o1,o2.mono hst.le (k5 b' (fun e=>c2 ?_))⟩;subst e;exact hs.inj l' l2 _ _ _ _ _ (by rw[e1];simp) (by rw[q3];simp) e2 q1
 ·have live:∀l',look (bK (dp st.m l) l) l'≠none→look st.m l'≠none:=by
   intro l' h;rw[hlm]at h;split at h
   ·exact absurd rfl h
   split at h
   ·exact absurd rfl h
   ·exact h
  exact hs.inj l1 l3 b' base1 tot1 base2 tot2 (live l1 e1) (live l3 e2) e3 e4
 ·simp only[hlm]at hl';split at hl'
  ·exact absurd rfl hl'
  split at hl'
  ·exact absurd rfl hl'
  ·exact hf.m l' hl'
end
end Go.Abs
end
section
namespace Go.Abs
open Go.Proofs
def ET:Nat:=3
def qH:Tryz.prog.globalNamed "internal/strconv.uint64pow10" =some ET:=by kernel_rfl
instance MS:bS where
 tB:=133
 tU:=5
 gd x:=(x.I 0∧∃m,x.w.cell? ⟨0,0,none⟩=some (.int .i64 m))∧x.I ET∧Lib.TabIs Tryz.prog x.w "internal/strconv.uint64pow10" .u64 Lib.pow10Tab
 le x x' hI hk h:=by
  obtain⟨⟨h1,m,h2⟩,h3,h4⟩:=h;refine⟨⟨hI _ h1,m,kd (hk _ h1) h2⟩,hI _ h3, ?_⟩;unfold Lib.TabIs World.var? at h4⊢;rw[qH]at h4⊢;simp only[Option.bind_some]at h4⊢;rw[hk _ h3];exact h4
def mT {fid:Nat}{x:X}{args:Array Value}{d:D}(hn:(Tryz.prog.funcs[fid]?).map (fun f=>f.name== "runtime.NumGoroutine" ||!f.body.isSome)=some false)
  (himm:∀b,x.I b→b<x.w.heap.size)
  (hc:Calls Tryz.prog fid args x.w fun e w'=>∃v,e=.returned v∧dP x.w w'∧∃I:Nat→Prop,(∀b,x.I b→I b)∧(∀b,I b→x.I b∨x.w.heap.size≤b∧b<w'.heap.size)∧RD rh ⟨w',I,x.β⟩ v d):
  ff Tryz.prog x (fun v x'=>jj x x'∧RD rh x' v d) ((callFunc fid args).run Tryz.prog x.w):=by
 cases h:Tryz.prog.funcs[fid]? with
 |none=>rw[h]at hn;cases hn
 |some fn=>
  rw[h]at hn;have h2:(fn.name== "runtime.NumGoroutine" ||!fn.body.isSome)=false:=Option.some.inj hn;rw[Bool.or_eq_false_iff,Bool.not_eq_false']at h2;refine .inr ⟨fid,args,er h h2.1 h2.2 args x.w,Calls.mono hc fun e w' he=>?_⟩;obtain⟨v,rfl,hg,I,h3,h4,hr⟩:=he;refine⟨⟨w',I,x.β⟩,rfl,⟨hg,h3,fun b hb=>(h4 b hb).imp id And.left,fun b hb=>?_,rfl⟩,hr⟩;rcases h4 b hb with h5|h5
  ·exact Nat.lt_of_lt_of_le (himm b h5) hg.size
  ·exact h5.2
def zG (w:World):∀n,dP w (w.drewN n)
 |n=>⟨rfl,rfl,rfl,Nat.le_refl _,fun _ _=>rfl⟩
def gG {fid:Nat}{x:X}{args:Array Value}{d:D}{v:Value}(hn:(Tryz.prog.funcs[fid]?).map (fun f=>f.name== "runtime.NumGoroutine" ||!f.body.isSome)=some false)
  (himm:∀b,x.I b→b<x.w.heap.size) (hc:Calls Tryz.prog fid args x.w fun e w'=>e=.returned v∧dP x.w w') (hr:∀x',RD rh x' v d):
  ff Tryz.prog x (fun v x'=>jj x x'∧RD rh x' v d) ((callFunc fid args).run Tryz.prog x.w):=
 mT hn himm (Calls.mono hc fun e w' ⟨h1,h2⟩=>⟨v,h1,h2,x.I,fun _ h=>h,fun _ h=>.inl h,hr _⟩)
def dG {x:X}{v:Value}{s:ah}(h:RD rh x v (.str s)):v=.string ⟨⟨s⟩⟩∧s.length≤maxLen:=by
 cases h with
 |str s h=>exact⟨rfl,h⟩
def A1 {x:X}{v:Value}{k:IntKind}{n:Int}(h:RD rh x v (.int k n)):v=.int k n:=by
 cases h with
 |int k n=>rfl
def uo {args:Array Value}(h:args.size=2):args=#[args.getD 0 undef,args.getD 1 undef]:=by
 obtain⟨l⟩:=args
 match l,h with
 |[a,b],_=>rfl
def Mm {args:Array Value}(h:args.size=3):args=#[args.getD 0 undef,args.getD 1 undef,args.getD 2 undef]:=by
 obtain⟨l⟩:=args
 match l,h with
 |[a,b,c],_=>rfl
def HX {args:Array Value}(h:args.size=1):args=#[args.getD 0 undef]:=by
 obtain⟨l⟩:=args
 match l,h with
 |[a],_=>rfl
def Hp {x:X}{a b:Value}{d e:D}(h1:RD rh x a d)(h2:RD rh x b e):RD rh x (.tuple #[a,b]) (.tup [d,e]):=by
 refine .tup _ _ rfl fun i hi=>?_
 match i,hi with
 |0,_=>exact h1
 |1,_=>exact h2
def Hq {x:X}{a b c:Value}{d e f:D}(h1:RD rh x a d)(h2:RD rh x b e)(h3:RD rh x c f):RD rh x (.tuple #[a,b,c]) (.tup [d,e,f]):=by
 refine .tup _ _ rfl fun i hi=>?_
 match i,hi with
 |0,_=>exact h1
 |1,_=>exact h2
 |2,_=>exact h3
def qd {x:X}(s:ah)(h:s.length≤4294967296):RD rh x (.string ⟨s.toArray⟩) (.str s):=.str s (by simp only[maxLen];omega)
def BM (s:ah)(b:UInt8):(dQ s b).2.1.length≤s.length:=by
 unfold dQ;split<;>simp
def E487:Ow 129 487:=by
 refine bE rfl ?_;rintro s b hp hok x args hl hargs hnl himm ⟨⟨_,m,hm⟩,_⟩;obtain⟨h0,hs⟩:=dG (hargs 0 (by simp));obtain⟨h1,_⟩:=dG (hargs 1 (by simp));rw[uo hl,h0,h1];refine gG (by kernel_rfl) himm (Calls.mono (Tryz.strings_Cut ⟨⟨s⟩⟩ ⟨⟨[b]⟩⟩ m x.w (by show s.length<_;omega) hm) fun e w' ⟨h1,n,h2⟩=>⟨h1,h2▸zG _ n⟩) (fun x'=>?_);have hc:Lib.cut (⟨⟨s⟩⟩:ByteArray).data.toList (⟨⟨[b]⟩⟩:ByteArray).data.toList=dQ s b:=Jf s b;rw[hc];have:=(DI s b).1;have:=BM s b;exact Hq (qd _ (by omega)) (qd _ (by omega)) (.bool _)
def E254:Ow 128 254:=by
 refine bE rfl ?_;rintro s p hp hp2 hok x args hl hargs hnl himm _;obtain⟨h0,hs⟩:=dG (hargs 0 (by simp));obtain⟨h1,_⟩:=dG (hargs 1 (by simp));rw[uo hl,h0,h1];refine gG (by kernel_rfl) himm (Calls.mono (Tryz.strings_CutPrefix ⟨⟨s⟩⟩ ⟨⟨p⟩⟩ x.w) fun e w' ⟨h1,h2⟩=>⟨h1,h2▸dP.refl _⟩) (fun x'=>?_);have hc:(Lib.trimPrefix s p,Lib.hasPrefix s p)=cS s p:=BO s p;have:=zy s p;rw[←hc]at this⊢;have h9:(Lib.trimPrefix s p).length≤s.length:=this;exact Hp (qd (Lib.trimPrefix s p) (by omega)) (.bool _)
def E336:Ow 165 336:=by
 refine bE rfl ?_;rintro n hp hok x args hl hargs hnl himm ⟨_,_,ht⟩;have h0:=A1 (hargs 0 (by simp));rw[HX hl,h0];refine gG (by kernel_rfl) himm (Calls.mono (Tryz.strconv_Itoa n (by omega) (by omega) x.w ht) fun e w' ⟨h1,k,os,h2⟩=>⟨h1, ?_⟩) (fun x'=>?_)
 ·subst h2;refine⟨rfl,rfl,rfl,by simp[Sort.grow],fun b hb=>?_⟩;show(x.w.heap++os)[b]? =x.w.heap[b]?;rw[Array.getElem?_append,if_pos hb]
 ·rw[GV hp.1];have:=dJ 4 n.toNat (by omega) (by omega);exact qd _ (by omega)
def oo {fid:Nat}{x:X}{args:Array Value}{ts:List ByteArray}{cap:Nat}{ty:TypeId}{L:List ah}(hn:(Tryz.prog.funcs[fid]?).map (fun f=>f.name== "runtime.NumGoroutine" ||!f.body.isSome)=some false)(himm:∀b,x.I b→b<x.w.heap.size)
  (hL:ts.map (fun t=>t.data.toList)=L) (hcap:ts.length≤cap) (hm:cap≤maxLen) (hs:∀t∈L,t.length≤maxLen)
  (hc:Calls Tryz.prog fid args x.w fun e w'=>e=.returned (.slice (some ⟨x.w.heap.size,0,none⟩) ts.length cap)∧w'=x.w.alloc (.cells (Lib.cellsOf ts cap) ty)):
  ff Tryz.prog x (fun v x'=>jj x x'∧RD rh x' v (.sl 1 (L.map D.str))) ((callFunc fid args).run Tryz.prog x.w):=by
 refine mT hn himm (Calls.mono hc fun e w' ⟨h1,h2⟩=>?_);subst h2;refine⟨_,h1,dP.alloc _ _,fun q=>x.I q∨q=x.w.heap.size,fun _ h=>.inl h,fun q hq=>hq.imp id fun h=>⟨by omega,by rw[h];show _<(x.w.heap.push _).size;simp⟩, ?_⟩;have hsl:L.length=ts.length:=by rw[←hL];simp
 have hget:∀i,i<ts.length→(L.map D.str).getD i .any=.str (ts.getD i default).data.toList:=fun i hi=>by
  rw[←hL];simp[hi]
 refine .sl _ x.w.heap.size 0 ts.length cap 1 _ (fun i _=>.string (ts.getD i default)) (by simp[hsl]) (.inr ⟨rfl,.inr rfl⟩) hcap hm (fun i hi=>by rw[hget i hi];rfl) (fun i hi=>by rw[hget i hi];rfl) (fun i j hi hj=>?_) (fun i j hi hj=>rfl) (fun i j hi hj=>?_)
 ·obtain rfl:j=0:=by omega
  have:=cB x.w (.cells (Lib.cellsOf ts cap) ty);refine(cell_of_heap (c:=Lib.cellsOf ts cap) (T:=ty) (fr:=(0,0)) this (by rw[Lib.cellsOf_size hcap];omega)).trans ?_;have hi2:i<(ts.map Value.string).length:=by simpa using hi
  simp only[Lib.cellsOf];simp[hi,List.getElem?_append_left hi2]
 ·obtain rfl:j=0:=by omega
  rw[hget i hi];show RD rh _ (.string (ts.getD i default)) (.str (ts.getD i default).data.toList);generalize hq:ts.getD i default=q;have hmem:q.data.toList∈L:=by
   rw[←hL];refine List.mem_map.2 ⟨q, ?_,rfl⟩;rw[←hq];simp[hi]
  have:=hs _ hmem;obtain⟨⟨ql⟩⟩:=q;exact .str ql this
def vo {x:X}{s p:ah}{m:Int}{L:List ah}(hL:∀ts,ts=Lib.splitB ⟨⟨p⟩⟩ 0 (Lib.countB ⟨⟨s⟩⟩ ⟨⟨p⟩⟩) ⟨⟨s⟩⟩→ts.map (fun t=>t.data.toList)=L)(himm:∀b,x.I b→b<x.w.heap.size)(h1:1≤p.length)(hs:s.length≤1048576)(hl:L.length≤1048577)(hb:∀t∈L,t.length≤1048576)
  (hm:x.w.cell? ⟨0,0,none⟩=some (.int .i64 m)):ff Tryz.prog x (fun v x'=>jj x x'∧RD rh x' v (.sl 1 (L.map D.str))) ((callFunc 28 #[.string ⟨⟨s⟩⟩,.string ⟨⟨p⟩⟩]).run Tryz.prog x.w):=by
 have h2:1≤(⟨⟨p⟩⟩:ByteArray).size:=h1;have hlen:=Lib.splitB_all ⟨⟨p⟩⟩ h2 0 _ (⟨⟨s⟩⟩:ByteArray) rfl;have hc:=Tryz.strings_Split ⟨⟨s⟩⟩ ⟨⟨p⟩⟩ m x.w (by show s.length<_;omega) hm h2;rw[←hlen,←Lib.cellsOf_full]at hc;have hL2:=hL _ rfl;have hle:(Lib.splitB ⟨⟨p⟩⟩ 0 (Lib.countB ⟨⟨s⟩⟩ ⟨⟨p⟩⟩) ⟨⟨s⟩⟩).length≤maxLen:=by
  have:L.length=(Lib.splitB ⟨⟨p⟩⟩ 0 (Lib.countB ⟨⟨s⟩⟩ ⟨⟨p⟩⟩) ⟨⟨s⟩⟩).length:=by rw[←hL2];simp
  simp only[maxLen];omega
 exact oo (by kernel_rfl) himm hL2 (Nat.le_refl _) hle (fun t ht=>by have:=hb t ht;simp only[maxLen];omega) hc
def qi:∀(s cur:ah),(aJ s cur).length≤s.length+1∧∀t∈aJ s cur,t.length≤cur.length+s.length
 |[],cur=>by simp[aJ]
 |[c],cur=>by simp[aJ]
 |c::d::r,cur=>by
  unfold aJ;split
  ·obtain⟨h1,h2⟩:=qi r [];refine⟨by simp only[List.length_cons];omega,fun t ht=>?_⟩;rcases List.mem_cons.1 ht with rfl|ht
   ·omega
   ·have:=h2 t ht;simp only[List.length_cons,List.length_nil]at this⊢;omega
  ·obtain⟨h1,h2⟩:=qi (d::r) (cur++[c]);refine⟨by simp only[List.length_cons]at h1⊢;omega,fun t ht=>?_⟩;have:=h2 t ht;simp only[List.length_append,List.length_cons,List.length_nil]at this⊢;omega
def E124:Ow 28 124:=by
 refine bE rfl ⟨?_, ?_⟩
 ·rintro s b hp hok x args hl hargs hnl himm ⟨⟨_,m,hm⟩,_⟩;obtain⟨h0,hs⟩:=dG (hargs 0 (by simp));obtain⟨h1,_⟩:=dG (hargs 1 (by simp));rw[uo hl,h0,h1];have:=cM s b.toNat;exact vo (fun ts e=>by rw[e];exact vi b _ (⟨⟨s⟩⟩:ByteArray) rfl) himm (Nat.le_refl 1) hp (by omega) (fun t ht=>Nat.le_trans (dd s b.toNat ht) hp) hm
 ·rintro s hp hok x args hl hargs hnl himm ⟨⟨_,m,hm⟩,_⟩;obtain⟨h0,hs⟩:=dG (hargs 0 (by simp));obtain⟨h1,_⟩:=dG (hargs 1 (by simp));rw[uo hl,h0,h1];obtain⟨q1,q2⟩:=qi s [];exact vo (fun ts e=>by rw[e];exact CX _ (⟨⟨s⟩⟩:ByteArray) rfl) himm (by decide) hp (by omega) (fun t ht=>by have:=q2 t ht;simp only[List.length_nil]at this;omega) hm
def Gg (n:Nat)(h:1≤n)(s:ah):(nU n (ai s 32)).length≤s.length+1∧∀t∈nU n (ai s 32),t.length≤s.length:=by
 have hl:=cM s 32;have hj:aP [32] (ai s 32)=s:=by
  have:=iX 32 s [];simpa[ai]using this
 unfold nU;split
 ·exact⟨hl,fun t ht=>dd s 32 ht⟩
 ·rename_i hn;refine⟨by simp only[List.length_append,List.length_take,List.length_cons,List.length_nil];omega,fun t ht=>?_⟩;rcases List.mem_append.1 ht with ht|ht
  ·exact dd s 32 (List.mem_of_mem_take ht)
  ·rw[List.mem_singleton.1 ht];have h2:(aP [32] (ai s 32)).length=s.length:=by rw[hj]
   have h3:∀(l:List ah) (k:Nat),(aP [32] (l.drop k)).length≤(aP [32] l).length:=by
    intro l;induction l with
    |nil=>simp
    |cons a l ih=>
     intro k;cases k with
     |zero=>simp
     |succ k=>
      refine Nat.le_trans (ih k) ?_;cases l with
      |nil=>simp[aP]
      |cons b l=>rw[ew [32] a (b::l) (by simp)];simp only[List.length_append];omega
   have:=h3 (ai s 32) (n-1);omega
def E245:Ow 112 245:=by
 refine bE rfl ?_;rintro s n hp hn hok x args hl hargs hnl himm ⟨⟨_,m,hm⟩,_⟩;obtain⟨h0,hs⟩:=dG (hargs 0 (by simp));obtain⟨h1,_⟩:=dG (hargs 1 (by simp));have h2:=A1 (hargs 2 (by simp));rw[Mm hl,h0,h1,h2];rcases hn with rfl|⟨hn1,hn2⟩
 ·have hc:=As Tryz.lays147 (by kernel_rfl) ⟨⟨s⟩⟩ ⟨⟨[32]⟩⟩ m x.w (by show s.length<_;omega) hm (Nat.le_refl 1);have hlen:=Lib.splitB_all ⟨⟨[32]⟩⟩ (Nat.le_refl 1) 0 _ (⟨⟨s⟩⟩:ByteArray) rfl;have hL:(Lib.splitB ⟨⟨[32]⟩⟩ 0 (Lib.countB ⟨⟨s⟩⟩ ⟨⟨[32]⟩⟩) ⟨⟨s⟩⟩).map (fun t=>t.data.toList)=gh (-1) s:=vi 32 _ (⟨⟨s⟩⟩:ByteArray) rfl;have hsl:=cM s 32;have hll:(gh (-1) s).length=(Lib.splitB ⟨⟨[32]⟩⟩ 0 (Lib.countB ⟨⟨s⟩⟩ ⟨⟨[32]⟩⟩) ⟨⟨s⟩⟩).length:=by rw[←hL];simp
  have hw:gh (-1) s=ai s 32:=rfl;rw[hw]at hll;exact oo (by kernel_rfl) himm hL (by omega) (by simp only[maxLen];omega) (fun t ht=>by have:=dd s 32 ht;simp only[maxLen];omega) hc
 ·obtain⟨k,rfl⟩:∃k:Nat,n=k:=⟨n.toNat,by omega⟩
  have hc:=Tryz.strings_SplitN ⟨⟨s⟩⟩ ⟨⟨[32]⟩⟩ k m x.w (by show s.length<_;omega) hm (Nat.le_refl 1) (by omega) (by omega);have hle:=Lib.splitB_length_le ⟨⟨[32]⟩⟩ 0 (min k ((⟨⟨s⟩⟩:ByteArray).size+1) -1) ⟨⟨s⟩⟩;have hsz:(⟨⟨s⟩⟩:ByteArray).size=s.length:=rfl;obtain⟨q1,q2⟩:=Gg k (by omega) s;refine oo (by kernel_rfl) himm (L:=gh (k:Int) s) ?_ (by omega) (by simp only[maxLen];omega) (fun t ht=>?_) hc
  ·rw[Lib.splitB_data];exact Az k (by omega) s
  ·have:gh (k:Int) s=nU k (ai s 32):=by unfold gh;rw[if_neg (by omega),Int.toNat_natCast]
   rw[this]at ht;have:=q2 t ht;simp only[maxLen];omega
def E683:Ow 155 683:=by
 refine bE rfl ?_;rintro s b rfl hp hok x args hl hargs hnl himm _;obtain⟨h0,hs⟩:=dG (hargs 0 (by simp));obtain⟨h1,_⟩:=dG (hargs 1 (by simp));rw[uo hl,h0,h1];refine gG (by kernel_rfl) himm (Calls.mono (Tryz.strings_Trim_one ⟨⟨s⟩⟩ 32 (by decide) x.w (by show s.length≤_;omega)) fun e w' ⟨h1,h2⟩=>⟨h1, ?_⟩) (fun x'=>?_)
 ·rcases h2 with rfl|rfl
  ·exact dP.refl _
  ·exact⟨rfl,rfl,rfl,Nat.le_refl _,fun _ _=>rfl⟩
 ·have:Lib.trimB (⟨⟨s⟩⟩:ByteArray).data.toList 32=dZ s:=DA s;rw[this];have hb:(dZ s).length≤s.length:=by
   unfold dZ;have h1:=j8 s;have h2:=j8 (oE s).reverse;simp only[List.length_reverse]at h2⊢;omega
  exact qd _ (by omega)
def E469:Ow 65 469:=by
 refine bE rfl ?_;rintro l hp hok x args hl hargs hnl himm _;have h0:=hargs 0 (by simp);rw[HX hl];simp only[List.getD_cons_zero]at h0;generalize args.getD 0 undef=v0 at h0⊢;cases h0 with
 |sl a b off len cap k es c hlen ha hcap hm hk hn hc h1 h=>
  simp only[List.length_map]at hlen;subst hlen;have fin:∀(e:Ending) (w':World) v' ty,e=.returned v'→w'.ownsRow x.w.heap.size ty 1 v' l.length (l.map fun t=>Value.string ⟨⟨t⟩⟩)→Go.RowKit.Below x.w.heap.size x.w w'→
    ∃v,e=.returned v∧dP x.w w'∧∃I:Nat→Prop,(∀b,x.I b→I b)∧(∀b,I b→x.I b∨x.w.heap.size≤b∧b<w'.heap.size)∧RD rh ⟨w',I,x.β⟩ v (.sl 1 (l.map D.str)):=by
   rintro e w' v' ty rfl ⟨hxl,ho⟩ hB;refine⟨v',rfl,⟨hB.os,hB.tape,hB.output,hB.size,hB.block⟩, ?_⟩;rcases ho with⟨rfl,hl0⟩|⟨g,cap',cur,rfl,hg,hh,hle,hml,hcs,htk⟩
   ·have:l=[]:=List.length_eq_zero_iff.1 hl0;subst this;exact⟨x.I,fun _ h=>h,fun _ h=>.inl h,.sl none 0 0 0 0 1 [] (fun _ _=>.nilIface) rfl (.inl rfl) (Nat.le_refl _) (by simp[maxLen]) (fun i hi=>by omega) (fun i hi=>by omega) (fun i j hi=>by omega) (fun i j hi=>by omega) (fun i j hi=>by omega)⟩
   ·have hgl:g<w'.heap.size:=(Array.getElem?_eq_some_iff.1 hh).1;have hgt:∀i (hi:i<l.length),((l.map D.str).getD i .any)=.str l[i]:=fun i hi=>by simp[hi]
    refine⟨fun q=>x.I q∨q=g,fun _ h=>.inl h,fun q hq=>hq.imp id fun h=>by subst h;exact⟨hg,hgl⟩, ?_⟩;refine .sl _ g 0 l.length cap' 1 _ (fun i _=>.string ⟨⟨l.getD i []⟩⟩) (by simp) (.inr ⟨rfl,.inr rfl⟩) hle hml (fun i hi=>by rw[hgt i hi];rfl) (fun i hi=>by rw[hgt i hi];rfl) (fun i j hi hj=>?_) (fun _ _ _ _=>rfl) (fun i j hi hj=>?_)
    ·obtain rfl:j=0:=by omega
     refine(cell_of_heap (c:=cur) (T:=ty) (fr:=(0,0)) hh (by omega)).trans ?_;have e1:cur.toList[i]? =some (.string ⟨⟨l.getD i []⟩⟩):=by
      have e2:(cur.toList.take (l.length*1))[i]? =(l.map fun t=>Value.string ⟨⟨t⟩⟩)[i]? :=by rw[htk]
      rw[List.getElem?_take,if_pos (by omega)]at e2;rw[e2];simp[hi]
     have e3:cur[i]? =some (.string ⟨⟨l.getD i []⟩⟩):=by rw[←e1];simp
     rw[show(0+i*1+0:Nat)=i by omega,Array.getD_eq_getD_getElem?,e3];rfl
    ·obtain rfl:j=0:=by omega
     rw[hgt i hi];have q2:=h i 0 hi (by omega);rw[hgt i hi]at q2;obtain⟨_,q3⟩:=dG q2;have:l.getD i []=l[i]:=by simp[hi]
     rw[this];exact .str _ q3
  rcases ha with he|⟨rfl,hI⟩
  ·have hnil:l=[]:=by simpa using he
   subst hnil;cases a with
   |none=>exact gG (by kernel_rfl) himm (Calls.mono (Tryz.slices_Clone_string_nil 0 cap x.w) fun e w' ⟨h1,h2⟩=>⟨h1,h2▸dP.refl _⟩) (fun x'=>.sl none 0 0 0 0 1 [] (fun _ _=>.nilIface) rfl (.inl rfl) (Nat.le_refl _) (by simp[maxLen]) (fun i hi=>by omega) (fun i hi=>by omega) (fun i j hi=>by omega) (fun i j hi=>by omega) (fun i j hi=>by omega))
   |some a=>exact mT (by kernel_rfl) himm (Calls.mono (Tryz.slices_Clone_string_zero a cap x.w) fun e w' ⟨v',h1,h2,_,h3⟩=>fin e w' v' _ h1 h2 h3)
  ·have hcell:∀i,(hi:i<l.length)→x.w.cell? ⟨b,off+i,none⟩=some (.string ⟨⟨l[i]⟩⟩):=fun i hi=>by
    have q1:=hc i 0 hi (by omega);have q2:=h i 0 hi (by omega);have e:((l.map D.str).getD i .any).cells.getD 0 .any=.str l[i]:=by simp[hi,D.cells]
    rw[e]at q2;rw[(dG q2).1]at q1;simpa using q1
   refine mT (by kernel_rfl) himm (Calls.mono (Tryz.slices_Clone_string b off l.length cap (l.map fun t=>⟨⟨t⟩⟩) x.w (by simp) (by omega) (fun j hj=>?_)) fun e w' ⟨v',h1,h2,_,h3⟩=>?_)
   ·rw[List.length_map]at hj;rw[hcell j hj];simp[hj]
   ·have:((l.map fun t=>(⟨⟨t⟩⟩:ByteArray)).take l.length).map Value.string=l.map fun t=>Value.string ⟨⟨t⟩⟩:=by
     rw[List.take_of_length_le (by simp),List.map_map];rfl
    rw[this]at h2;exact fin e w' v' _ h1 h2 h3
def E489:Ow 131 489:=ri rfl fun ds st K h hok=>GG rfl rfl Tryz.AK Tryz.Jc (Go.Proofs.enters_of Tryz.AK.f166 (by kernel_rfl) rfl) ds st K h hok
def E664:Ow 132 664:=ri rfl fun ds st K h hok=>GD rfl rfl Tryz.AL Tryz.Jc (Go.Proofs.enters_of Tryz.AL.f167 (by kernel_rfl) rfl) ds st K h hok
def E452:Ow 96 452:=ri rfl fun ds st K h hok=>GC rfl rfl Tryz.AM Tryz.Jc (Go.Proofs.enters_of Tryz.AM.f169 (by kernel_rfl) rfl) ds st K h hok
def sF (sep:ah)(B:Nat):∀l:List ah,(∀t∈l,t.length≤B)→(aP sep l).length≤l.length*(B+sep.length)
 |[],_=>by simp[aP]
 |[t],h=>by have:=h t (.head _);simp only[aP,List.length_cons,List.length_nil];omega
 |t::u::r,h=>by
  have h1:=h t (.head _);have h2:=sF sep B (u::r) fun x hx=>h x (.tail _ hx)
  rw[ew _ _ _ (by simp)];rw[List.length_cons,Nat.succ_mul];simp only[List.length_append];omega
def E242:Ow 95 242:=by
 refine bE rfl ?_;rintro l sep hp1 hp2 hp3 hok x args hl hargs hnl himm _;have h0:=hargs 0 (by simp);obtain⟨h1,_⟩:=dG (hargs 1 (by simp));rw[uo hl,h1];have hj:=sF sep 2097200 l hp3;have hj2:=Nat.mul_le_mul_right (2097200+sep.length) hp1;have hj3:1048600*(2097200+sep.length)≤140737488355328:=by
  have:=Nat.mul_le_mul_left 1048600 (show 2097200+sep.length≤2097204 by omega);omega
 have hjm:(aP sep l).length≤140737488355328:=by omega
 simp only[List.getD_cons_zero]at h0;generalize args.getD 0 undef=v0 at h0⊢;cases h0 with
 |sl a b off len cap k es c hlen ha hcap hm hk hn hc h1 h=>
  simp only[List.length_map]at hlen;subst hlen;rcases ha with he|⟨rfl,hI⟩
  ·have hnil:l=[]:=by simpa using he
   subst hnil;refine gG (by kernel_rfl) himm (Calls.mono (Tryz.strings_Join_none a cap ⟨⟨sep⟩⟩ x.w) fun e w' ⟨h1,h2⟩=>⟨h1,h2▸dP.refl _⟩) (fun x'=>?_);exact qd [] (by simp)
  ·have hcell:∀i,(hi:i<l.length)→x.w.cell? ⟨b,off+i,none⟩=some (.string ⟨⟨l[i]⟩⟩):=fun i hi=>by
    have q1:=hc i 0 hi (by omega);have q2:=h i 0 hi (by omega);have e:((l.map D.str).getD i .any).cells.getD 0 .any=.str l[i]:=by simp[hi,D.cells]
    rw[e]at q2;rw[(dG q2).1]at q1;simpa using q1
   have e2:(l.map fun t=>(⟨⟨t⟩⟩:ByteArray)).map (fun t=>t.data.toList)=l:=by rw[List.map_map];exact List.map_id l
   have hjl:Lib.join ((l.map fun t=>(⟨⟨t⟩⟩:ByteArray)).map (fun t=>t.data.toList)) (⟨⟨sep⟩⟩:ByteArray).data.toList=aP sep l:=by rw[e2];exact(xS sep l).symm
   have key:=Tryz.strings_Join b off cap (l.map fun t=>⟨⟨t⟩⟩) ⟨⟨sep⟩⟩ x.w (fun j y hy=>by
    rw[List.getElem?_map,Option.map_eq_some_iff]at hy;obtain⟨t,ht,rfl⟩:=hy;obtain⟨hlt,rfl⟩:=List.getElem?_eq_some_iff.1 ht;exact hcell j hlt) (himm b hI) (by simp;omega) (by simpa using hcap) (by rw[hjl];exact hjm)
   rw[hjl,List.length_map]at key;refine gG (by kernel_rfl) himm (Calls.mono key fun e w' ⟨h1,h2⟩=>⟨h1,h2.os,h2.tape,h2.output,h2.size,h2.block⟩) (fun x'=>?_);exact .str _ (by simp only[maxLen];omega)
end Go.Abs
end
section
set_option maxRecDepth 4000
namespace Go.Abs
section
variable [bS]
def H69:Ow 12 69:=bE rfl (aY bw ck rfl (w69 (aN _ _ _ _) G72 G76))
def H208:Ow 41 208:=bE rfl fun s=>aY bw ck rfl (w208 (aN _ _ _ _) s)
def H214:Ow 47 214:=bE rfl fun r s hp0=>aY bw ck rfl (w214 (aN _ _ _ _) LZ r s hp0)
def H228:Ow 19 228:=bE rfl fun l i n hp0=>aY bw ck rfl (w228 (aN _ _ _ _) F3 IY l i n hp0)
def H249:Ow 77 249:=bE rfl fun l x hp0=>aY bw ck rfl (w249 (aN _ _ _ _) l x hp0)
def H444:Ow 87 444:=bE rfl fun s hp0=>aY bw ck rfl (w444 (aN _ _ _ _) G495 G496 s hp0)
def H450:Ow 93 450:=ri rfl fun ws t l lw nx m K h1 h2 h3 h4 hp2 hK=>Co bw ck rfl h1 h2 h3 h4 hK fun m0 hp0 hp1=>w450 (aN _ _ _ _) ws t m0 IX G489 G664 hp0 hp1 hp2
def H465:Ow 61 465:=MC rfl LH (fun r w n op hp0 hp1 hp2=>xN 2 bw ck rfl rfl (MZ (aN _ _ _ _) LW LX r w n op hp0 hp1 hp2)) fun r w n op l nx m K hp0 hp1 hp2 hl hK=>GB (xN 2 bw ck rfl rfl (MZ (aN _ _ _ _) LW LX r w n op hp0 hp1 hp2)) hl rfl rfl hK
def H479:Ow 40 479:=bE rfl fun l i=>aY bw ck rfl (w479 (aN _ _ _ _) l i)
def H495:Ow 123 495:=bE rfl fun s hp0=>aY bw ck rfl (w495 (aN _ _ _ _) F1 G682 G683 I0 G685 Ma s hp0)
def H661:Ow 126 661:=bE rfl fun m=>aY bw ck rfl (w661 (aN _ _ _ _) L6 G810 m)
def H668:Ow 137 668:=bE rfl fun t=>aY bw ck rfl (w668 (aN _ _ _ _) t)
def H684:Ow 156 684:=bE rfl fun r hp0=>aY bw ck rfl (w684 (aN _ _ _ _) IX I1 L9 r hp0)
def H811:Ow 161 811:=bE rfl fun l i hp0=>aY bw ck rfl (w811 (aN _ _ _ _) Mc l i (HQ (Nat.le_refl _)) (Md (Nat.le_refl _)) hp0)
def H947:Ow 191 947:=ri rfl fun w nd b nx lp ln m K h1 h2 h3 h4 hK=>CL mr (by decide) rfl (fun _=>rfl) bw ck rfl h1 h2 h3 h4 hK (w947 (aN _ _ _ _) w nd b I2)
def H957:Ow 213 957:=bE rfl fun op=>aY bw ck rfl (w957 (aN _ _ _ _) op)
end
end Go.Abs
end
section
set_option maxRecDepth 4000
namespace Go.Abs
section
variable [bS]
def H70:Ow 20 70:=bE rfl fun r hp0=>aY bw ck rfl (w70 (aN _ _ _ _) IW F2 G210 LM LN G213 G214 LO r hp0)
def H209:Ow 42 209:=bE rfl fun v hp0=>aY bw ck rfl (w209 (aN _ _ _ _) G440 G441 LY v hp0)
def H215:Ow 48 215:=bE rfl fun r hp0=>aY bw ck rfl (w215 (aN _ _ _ _) IX G450 L0 G452 r hp0)
def H229:Ow 36 229:=bE rfl fun l i own hp0 hp1=>aY bw ck rfl (w229 (aN _ _ _ _) Dq LV IY G480 L3 l i own hp0 hp1)
def H349:Ow 86 349:=bE rfl fun s=>aY bw ck rfl (w349 (aN _ _ _ _) s)
def H445:Ow 88 445:=bE rfl fun s=>aY bw ck rfl (w445 (aN _ _ _ _) F1 G660 L5 s)
def H451:Ow 94 451:=bE rfl fun v hp0=>aY bw ck rfl (w451 (aN _ _ _ _) F2 L7 v hp0)
def H466:Ow 62 466:=bE rfl fun s hp0=>aY bw ck rfl (w466 (aN _ _ _ _) F2 L0 F4 IZ G675 s hp0)
def H480:Ow 78 480:=bE rfl fun l i own alone hp0 hp1=>aY bw ck rfl (w480 (aN _ _ _ _) LR Dq LU l i own alone hp0 hp1)
def H496:Ow 124 496:=bE rfl fun r hp0=>aY bw ck rfl (w496 (aN _ _ _ _) I0 r hp0)
def H662:Ow 127 662:=bE rfl fun l hp0=>aY bw ck rfl (w662 (aN _ _ _ _) G811 l hp0)
def H675:Ow 114 675:=bE rfl fun s b=>aY bw ck rfl (w675 (aN _ _ _ _) s b)
def H685:Ow 157 685:=bE rfl fun r hp0=>aY bw ck rfl (w685 (aN _ _ _ _) I0 r hp0)
def H819:Ow 180 819:=bE rfl fun s hp0=>aY bw ck rfl (w819 (aN _ _ _ _) F4 IZ I1 L9 G956 Me s hp0)
def H948:Ow 192 948:=ri rfl fun x w nd b hp0 nx lp ln m K h1 h2 h3 h4 hK=>gP mr (by decide) rfl (fun _=>rfl) bw ck rfl h1 h2 h3 h4 hK (w948 (aN _ _ _ _) x w nd b hp0)
def Mf:Ow 217 1031:=ri rfl fun k w nd b hp0 nx lp ln m K h1 h2 h3 h4 hK=>gP mr (by decide) rfl (fun _=>rfl) bw ck rfl h1 h2 h3 h4 hK (MX (aN _ _ _ _) k w nd b BD F5 F6 Mc hp0)
end
end Go.Abs
end
section
set_option maxRecDepth 4000
namespace Go.Abs
section
variable [bS]
def H72:Ow 21 72:=bE rfl fun r hp0=>aY bw ck rfl (w72 (aN _ _ _ _) G70 LO r hp0)
def H210:Ow 43 210:=bE rfl fun r n hp0=>aY bw ck rfl (w210 (aN _ _ _ _) LN BD G443 r n hp0)
def H217:Ow 51 217:=bE rfl fun v hp0=>aY bw ck rfl (w217 (aN _ _ _ _) G455 G456 v hp0)
def H230:Ow 37 230:=bE rfl fun l i hp0=>aY bw ck rfl (w230 (aN _ _ _ _) Dq G482 l i hp0)
def H440:Ow 82 440:=bE rfl fun n=>aY bw ck rfl (w440 (aN _ _ _ _) n)
def H446:Ow 89 446:=bE rfl fun m=>aY bw ck rfl (w446 (aN _ _ _ _) L5 L6 m)
def H454:Ow 98 454:=bE rfl fun c=>aY bw ck rfl (w454 (aN _ _ _ _) c)
def H467:Ow 63 467:=JP rfl LI fun r hp0=>xN 2 bw ck rfl rfl (w467 (aN _ _ _ _) F1 L1 L2 r hp0)
def H481:Ow 79 481:=bE rfl fun n=>aY bw ck rfl (w481 (aN _ _ _ _) F3 n)
def H533:Ow 115 533:=bE rfl fun s b hp0=>aY bw ck rfl (w533 (aN _ _ _ _) s b hp0)
def H663:Ow 130 663:=bE rfl fun l nm=>aY bw ck rfl (w663 (aN _ _ _ _) l nm)
def H676:Ow 119 676:=bE rfl fun c hp0=>aY bw ck rfl (w676 (aN _ _ _ _) G217 c hp0)
def H734:Ow 153 734:=bE rfl fun n hp0=>aY bw ck rfl (w734 (aN _ _ _ _) G882 n hp0)
def H827:Ow 188 827:=bE rfl fun c hp0=>aY bw ck rfl (w827 (aN _ _ _ _) F2 c hp0)
def H949:Ow 193 949:=ri rfl fun w nd hp0 nx lp ln m K h1 h2 h3 h4 hK=>gP mr (by decide) rfl (fun _=>rfl) bw ck rfl h1 h2 h3 h4 hK (w949 (aN _ _ _ _) w nd (L4 (Nat.le_of_eq (js (c:=fun _=>0) h1).symm)) F5 F6 (HR (Nat.le_of_eq (js (c:=fun _=>0) h1).symm)) LL hp0)
def Mg:Ow 9 1194:=bE rfl fun l=>aY bw ck rfl (MY (aN _ _ _ _) G69 G72 G74 G79 LP l)
end
end Go.Abs
end
section
set_option maxRecDepth 4000
namespace Go.Abs
section
variable [bS]
def H74:Ow 24 74:=bE rfl fun r hp0=>aY bw ck rfl (w74 (aN _ _ _ _) G72 LP r hp0)
def H211:Ow 44 211:=bE rfl fun r name rng hp0=>aY bw ck rfl (w211 (aN _ _ _ _) IW G444 r name rng hp0)
def H220:Ow 26 220:=bE rfl fun s=>aY bw ck rfl (w220 (aN _ _ _ _) G463 s)
def H231:Ow 38 231:=bE rfl fun l i hp0=>aY bw ck rfl (w231 (aN _ _ _ _) Dq L3 l i hp0)
def H441:Ow 83 441:=bE rfl fun s hp0=>aY bw ck rfl (w441 (aN _ _ _ _) LY F4 IZ G659 s hp0)
def H447:Ow 90 447:=bE rfl fun l=>aY bw ck rfl (w447 (aN _ _ _ _) l)
def H455:Ow 99 455:=bE rfl fun n=>aY bw ck rfl (w455 (aN _ _ _ _) n)
def H468:Ow 64 468:=JP rfl LJ fun r hp0=>xN 2 bw ck rfl rfl (w468 (aN _ _ _ _) L1 r hp0)
def H482:Ow 80 482:=bE rfl fun c hp0=>aY bw ck rfl (w482 (aN _ _ _ _) G249 G676 G677 G678 c hp0)
def H658:Ow 116 658:=bE rfl fun s=>aY bw ck rfl (w658 (aN _ _ _ _) s)
def H665:Ow 133 665:=bE rfl fun n hp0=>aY bw ck rfl (w665 (aN _ _ _ _) G336 n hp0)
def H677:Ow 120 677:=ri rfl fun c hp0 nx m K hK=>C1 rfl rfl bw ck rfl rfl hK (w677 (aN _ _ _ _) c G734 hp0)
def H808:Ow 158 808:=ri rfl ⟨fun w nd hp0 nx lp ln m K h1 h2 h3 h4 hK=>gP mr (by decide) rfl (fun _=>rfl) bw ck rfl h1 h2 h3 h4 hK (M0 (aN _ _ _ _) oG 809 yO 4 w nd I2 F5 F6 hp0 zq (by decide) (by decide) (fun w2 nd2 hl hp=>L8 (Nat.le_refl _) w2 nd2 hp (by rw[js h1];exact(show 6*w2.length+2<6*w.length+3 by omega)))),fun w nd hp0 nx lp ln m K h1 h2 h3 h4 hK=>gP mr (by decide) rfl (fun _=>rfl) bw ck rfl h1 h2 h3 h4 hK (M0 (aN _ _ _ _) kM 949 qO 3 w nd I2 F5 F6 hp0 uz (by decide) (by decide) (fun w2 nd2 hl hp=>HR (Nat.le_refl _) w2 nd2 hp (by rw[js h1];exact(show 6*w2.length+0<6*w.length+1 by omega))))⟩
def H828:Ow 189 828:=bE rfl fun c hp0=>aY bw ck rfl (w828 (aN _ _ _ _) L7 I1 Me c hp0)
def H950:Ow 194 950:=bE rfl (aY bw ck rfl (w950 (aN _ _ _ _)))
end
end Go.Abs
end
section
set_option maxRecDepth 4000
namespace Go.Abs
section
variable [bS]
def H76:Ow 13 76:=bE rfl fun s=>aY bw ck rfl (w76 (aN _ _ _ _) G70 F1 G222 s)
def H212:Ow 45 212:=bE rfl fun s=>aY bw ck rfl (w212 (aN _ _ _ _) G445 G446 s)
def H222:Ow 29 222:=JP rfl LG fun r hp0=>xN 2 bw ck rfl rfl (w222 (aN _ _ _ _) G466 G467 L2 G469 Mb r hp0)
def H232:Ow 39 232:=bE rfl fun l i r hp0 hp1=>aY bw ck rfl (w232 (aN _ _ _ _) F3 IY G483 l i r hp0 hp1)
def H442:Ow 84 442:=bE rfl fun s hp0=>aY bw ck rfl (w442 (aN _ _ _ _) F4 s hp0)
def H448:Ow 91 448:=bE rfl fun s hp0=>aY bw ck rfl (w448 (aN _ _ _ _) IW G254 BD G487 s hp0)
def H456:Ow 100 456:=bE rfl fun s p hp0=>aY bw ck rfl (w456 (aN _ _ _ _) G470 G666 G667 G668 s p hp0)
def H470:Ow 66 470:=bE rfl fun s b hp0=>aY bw ck rfl (w470 (aN _ _ _ _) s b hp0)
def H483:Ow 81 483:=bE rfl fun l s hp0=>aY bw ck rfl (w483 (aN _ _ _ _) l s hp0)
def H659:Ow 122 659:=bE rfl fun t=>aY bw ck rfl (w659 (aN _ _ _ _) t)
def H666:Ow 135 666:=bE rfl fun t=>aY bw ck rfl (w666 (aN _ _ _ _) t)
def H678:Ow 121 678:=bE rfl fun op=>aY bw ck rfl (w678 (aN _ _ _ _) op)
def H809:Ow 159 809:=ri rfl fun w nd hp0 nx lp ln m K h1 h2 h3 h4 hK=>gP mr (by decide) rfl (fun _=>rfl) bw ck rfl h1 h2 h3 h4 hK (w809 (aN _ _ _ _) w nd (HP (Nat.le_of_eq (js (c:=fun _=>2) h1).symm)) hp0)
def H882:Ow 179 882:=bE rfl fun n hp0=>aY bw ck rfl (w882 (aN _ _ _ _) n hp0)
def H951:Ow 195 951:=bE rfl fun l i b hp0=>aY bw ck rfl (w951 (aN _ _ _ _) l i b (HQ (Nat.le_refl _)) hp0)
end
end Go.Abs
end
section
set_option maxRecDepth 4000
namespace Go.Abs
section
variable [bS]
def H79:Ow 17 79:=bE rfl fun l i own hp0 hp1=>aY bw ck rfl (w79 (aN _ _ _ _) LR Dq G229 LU LV G232 l i own hp0 hp1)
def H213:Ow 46 213:=bE rfl fun l hp0=>aY bw ck rfl (w213 (aN _ _ _ _) BD G447 LZ G449 l hp0)
def H227:Ow 35 227:=bE rfl fun n=>aY bw ck rfl (w227 (aN _ _ _ _) F3 n)
def H246:Ow 113 246:=bE rfl fun l x=>aY bw ck rfl (w246 (aN _ _ _ _) G494 l x)
def H443:Ow 85 443:=bE rfl fun r w al hp0=>aY bw ck rfl (w443 (aN _ _ _ _) LM BD r w al hp0)
def H449:Ow 92 449:=bE rfl fun l nm=>aY bw ck rfl (w449 (aN _ _ _ _) G663 l nm)
def H463:Ow 54 463:=bE rfl fun h k hp0=>aY bw ck rfl (w463 (aN _ _ _ _) h k hp0)
def H478:Ow 18 478:=bE rfl fun v n hp0=>aY bw ck rfl (w478 (aN _ _ _ _) v n hp0)
def H494:Ow 150 494:=bE rfl fun l x=>aY bw ck rfl (w494 (aN _ _ _ _) l x)
def H660:Ow 125 660:=ri rfl fun w nd hp0 nx lp ln m K h1 h2 h3 h4 hK=>gP mr (by decide) rfl (fun _=>rfl) bw ck rfl h1 h2 h3 h4 hK (w660 (aN _ _ _ _) w nd (HP (Nat.le_of_eq (js (c:=fun _=>4) h1).symm)) hp0)
def H667:Ow 136 667:=bE rfl fun s=>aY bw ck rfl (w667 (aN _ _ _ _) G454 s)
def H682:Ow 154 682:=bE rfl fun s hp0=>aY bw ck rfl (w682 (aN _ _ _ _) G819 s hp0)
def H810:Ow 160 810:=bE rfl fun l=>aY bw ck rfl (w810 (aN _ _ _ _) BD l)
def H946:Ow 190 946:=bE rfl fun w es b=>aY bw ck rfl (w946 (aN _ _ _ _) w es b)
def H956:Ow 212 956:=bE rfl fun s w=>aY bw ck rfl (w956 (aN _ _ _ _) s w)
end
end Go.Abs
end
namespace Go.Abs
def FQ:List (Nat×Nat)→Prop
 |[]=>True
 |p::r=>Ow p.1 p.2∧FQ r
def FQ.mem:∀{l:List (Nat×Nat)},FQ l→∀p∈l,Ow p.1 p.2
 |p::r,h,q,hq=>by
  rcases List.mem_cons.1 hq with rfl|hq
  ·exact h.1
  ·exact h.2.mem q hq
def allY:FQ rh:=⟨Mg,H69,H76,H79,H478,H228,H70,H72,H74,H220,E124,H222,H227,H229,H230,H231,H232,H479,H208,H209,H210,H211,H212,H213,H214,H215,H217,H463,H465,H466,H467,H468,E469,H470,H249,H480,H481,H482,H483,H440,H441,H442,H443,H349,H444,H445,H446,H447,H448,H449,H450,H451,E242,E452,H454,H455,H456,E245,H246,H675,H533,H658,H676,H677,H678,H659,H495,H496,H660,H661,H662,E254,E487,H663,E489,E664,H665,H666,H667,H668,H494,H734,H682,E683,H684,H685,H808,H809,H810,H811,E336,H882,H819,H827,H828,H946,H947,H948,H949,H950,H951,H956,H957,Mf,trivial⟩
def pF:∀{l:List (Nat×Nat)}{a b:Nat},cW l a=some b→(a,b)∈l
 |[],_,_,h=>by simp[cW]at h
 |(c,d)::r,a,b,h=>by
  simp only[cW]at h;split at h
  ·rename_i e;simp_all
  ·exact .tail _ (pF h)
def okY:Ok (Go.Proofs.Tryz.prog) rh DM (tP aZ):=okA (fun fid n hn=>(show ∀p∈rh,p.2<1000000 by decide+kernel) _ (pF hn)) (fun t ht=>by simp[DM]at ht;show t=133;omega) fun fid n hn=>allY.mem (fid,n) (pF hn)
end Go.Abs
section
namespace Go.Abs
open Go.RowKit Go.ChangeShapes
def dP.below {w w':World}(h:dP w w'):Below w.heap.size w w':=⟨h.os,h.tape,h.output,h.size,h.old⟩
section
variable {H:Type} {enc:TypeId×Value→H} {P:Program}
def ue {f:Func}{s:ChangeSpec}{apart fresh handsOn again:Bool}{W W':World}{args:Array Value}{v:Value}{ds gs:List (DataW H)}{before pa pv:List MemPlace}
  (hW:DataW.Whole enc P f.params.toList s.vars apart W args.toList ds gs before)
  (hres:∀(b:Nat) (sp:Nat→Bool) (hd:Bool),DataW.TrodAll enc P W' b sp hd f.resultTypes.toList (v.resultList f.resultTypes.size) (s.fn H (ds++gs)).results [])
  (hargs:∀sp:Nat→Bool,(∀p∈before,sp p.block=true)→DataW.TrodAll enc P W' 0 sp true f.params.toList args.toList (s.fn H (ds++gs)).args pa)
  (hvars:∀sp:Nat→Bool,(∀p∈before,sp p.block=true)→DataW.TrodVars enc P W' sp s.vars (s.fn H (ds++gs)).vars pv)
  (hps:before=pa++pv) (hb:Below W.heap.size W W')
  (hok:∀(j:Nat) (t:TypeId) (r:Value),f.resultTypes[j]? =some t→(v.resultList f.resultTypes.size)[j]? =some r→Value.okWide P W' .any 0 t r):
  s.post enc P f apart fresh handsOn again W args v W':=by
 have hold:∀p∈before,(fun b=>decide (b<W.heap.size)) p.block=true:=fun p hp=>by simpa using hW.lt p hp
 refine⟨ds,gs,before,[],pa,pv,hW,hres _ _ _,hargs _ hold,hvars _ hold,World.keptBut_mono (fun p hp=>⟨hp, ?_⟩) (hb.frame (· ∈before)),fun _=>?_⟩
 ·rw[hps,List.mem_append]at hp;exact Or.inr hp
 ·have hlt:=hW.lt;obtain⟨_,_,_,_,_,hz,hn⟩:=hW;refine⟨hok,_,_,([]++pa)++pv,⟨[]++pa,pv,trodAll_append (hargs _ (fun _ _=>rfl)) (hres _ _ _),hvars _ (fun _ _=>rfl),rfl, ?_, ?_⟩, ?_⟩
  ·intro b off hp;have hmem:MemPlace.cell b off∈before:=by rw[hps];simpa using hp
   have hq:=hz b off hmem;have hl:b<W.heap.size:=hlt _ hmem;simpa only[World.frozen?,hb.block b hl]using hq
  ·intro ha;have:=hn ha;rw[hps]at this;simpa using this
  ·intro p hp _;rw[hps];simpa using hp
end
end Go.Abs
end
section
namespace Go.Abs
inductive Lf
 |str
 |int (k:IntKind)
 |bool
 |sl (ag:Bool) (k:Nat) (cs:List Lf)
mutual
/--a value that fits a leaf,of so much bulk -/
def fit:Lf→D→Nat→Prop
 | .str,d,n=>∃s,d=.str s∧s.length+1≤n
 | .int k,d,n=>(∃m,d=.int k m∧(Lit.int k m).wf=true)∧1≤n
 | .bool,d,n=>(∃b,d=.bool b)∧1≤n
 | .sl ag k cs,d,n=>∃es,d=.sl k es∧∃ns:List Nat,ns.length=es.length∧ns.sum+1≤n∧∀i,i<es.length→∃ds,es.getD i .any=(bif ag then .agg ds else ds.getD 0 .any)∧gr cs ds (ns.getD i 0)
def gr:List Lf→List D→Nat→Prop
 |[],ds,_=>ds=[]
 |c::r,ds,n=>∃d ds' n1 n2,ds=d::ds'∧n1+n2≤n∧fit c d n1∧gr r ds' n2
end
def oS:∀{cs:List Lf}{ds:List D}{n:Nat},gr cs ds n→ds.length=cs.length
 |[],ds,n,h=>by simp only[gr]at h;simp[h]
 |c::r,ds,n,h=>by
  simp only[gr]at h;obtain⟨d,ds',n1,n2,rfl,_,_,h2⟩:=h;simp[oS h2]
def qA:∀{a b:List Lf}{da db:List D}{n m:Nat},gr a da n→gr b db m→gr (a++b) (da++db) (n+m)
 |[],b,da,db,n,m,h1,h2=>by
  simp only[gr]at h1;subst h1;simp only[List.nil_append];exact fitL_mono h2 (by omega)
 |c::r,b,da,db,n,m,h1,h2=>by
  simp only[gr]at h1;obtain⟨d,ds',n1,n2,rfl,h3,h4,h5⟩:=h1;simp only[List.cons_append,gr];exact⟨d,ds'++db,n1,n2+m,rfl,by omega,h4,qA h5 h2⟩
where
 fitL_mono:∀{cs:List Lf} {ds:List D} {n m:Nat},gr cs ds n→n≤m→gr cs ds m
 |[],_,_,_,h,_=>h
 |c::r,ds,n,m,h,hm=>by
  simp only[gr]at h⊢;obtain⟨d,ds',n1,n2,rfl,h3,h4,h5⟩:=h;exact⟨d,ds',n1,n2,rfl,by omega,h4,h5⟩
def AS {c:Lf}{d:D}{n:Nat}(h:fit c d n):d.cells=[d]∧d.aI=true:=by
 cases c<;>simp only[fit]at h
 ·obtain⟨s,rfl,_⟩:=h;exact⟨rfl,rfl⟩
 ·obtain⟨⟨m,rfl,_⟩,_⟩:=h;exact⟨rfl,rfl⟩
 ·obtain⟨⟨b,rfl⟩,_⟩:=h;exact⟨rfl,rfl⟩
 ·obtain⟨es,rfl,_⟩:=h;exact⟨rfl,rfl⟩
def nY:∀{cs:List Lf}{ds:List D}{n:Nat},gr cs ds n→aG ds=true
 |[],ds,n,h=>by simp only[gr]at h;subst h;rfl
 |c::r,ds,n,h=>by
  simp only[gr]at h;obtain⟨d,ds',n1,n2,rfl,_,h1,h2⟩:=h;simp only[aG,(AS h1).2,nY h2,Bool.and_self]
def BG (b o m j:Nat):((⟨b,o,none⟩:Addr).add m).add j=⟨b,o+m+j,none⟩:=by
 unfold Addr.add;split<;>split<;>simp_all
section
variable {H:Type}
mutual
def dB:DataW H→Nat
 | .lit (.string s)=>s.length+1
 | .slice es _=>Gi es+1
 | .agg ps=>Gi ps
 |_=>1
def Gi:List (DataW H)→Nat
 |[]=>0
 |d::r=>dB d+Gi r
end
def AO:∀ds:List (DataW H),Gi ds=(ds.map dB).sum
 |[]=>rfl
 |d::r=>by simp only[Gi,List.map_cons,List.sum_cons,AO r]
end
def pV (P:Program)(t:TypeId):Bool:=match P.underlying t with
 |some (.struct _)=>true
 |some (.array _ _)=>true
 |_=>false
def KA (P:Program)(F:TypeId→Option (List Lf)):List Field→Nat→Option (List Lf)
 |[],_=>some []
 |f::r,off=>match F f.type,KA P F r (off+P.cellsOf f.type)with
  |some a,some b=>if f.offset=off∧a.length=P.cellsOf f.type then some (a++b)else none
  |_,_=>none
def arrF (e:TypeId)(off:Nat):Field:={(default:Field)with type:=e,offset:=off}
def tZ (P:Program):Nat→TypeId→Option (List Lf)
 |0,_=>none
 |n+1,t=>match P.underlying t with
  |some .bool=>some [.bool]
  |some (.int k)=>some [.int k]
  |some .string=>some [.str]
  |some (.slice e)=>match tZ P n e with
   |some cs=>if cs.length=P.cellsOf e∧0<cs.length∧(pV P e=true∨cs.length=1)then some [.sl (pV P e) (P.cellsOf e) cs]else none
   |none=>none
  |some (.struct fs)=>match KA P (tZ P n) fs.toList 0 with
   |some a=>if a.length=P.cellsOf t then some a else none
   |none=>none
  |some (.array k e)=>match KA P (tZ P n) ((List.range k).map fun i=>arrF e (i*P.cellsOf e)) 0 with
   |some a=>if a.length=P.cellsOf t then some a else none
   |none=>none
  |_=>none
section
variable {H:Type} {enc:TypeId×Value→H} {P:Program} {ν:List (Nat×Nat)}
def rp (W:World):X:=⟨W,fun b=>b<W.heap.size,fun _=>none⟩
def Rds (ν:List (Nat×Nat))(W:World)(cs:List Value)(a:List Lf)(n:Nat):Prop:=
 cs.length=a.length∧∃ds:List D,gr a ds n∧∀i,i<cs.length→RD ν (rp W) (cs.getD i undef) (ds.getD i .any)∧(cs.getD i undef).oneCell'=true
def Rds.one {W:World}{v:Value}{c:Lf}{d:D}{n:Nat}(hf:fit c d n)(hr:RD ν (rp W) v d)(h1:v.oneCell'=true):Rds ν W [v] [c] n:=
 ⟨rfl,[d],by simp only[gr];exact⟨d,[],n,0,rfl,by omega,hf,rfl⟩,fun i hi=>by
  obtain rfl:i=0:=by simpa using hi
  exact⟨hr,h1⟩⟩
def zR {W:World}{F:TypeId→Option (List Lf)}{m:Nat}{sp:Nat→Bool}{held:Bool}{cs:List Value}
  (hF:∀t a cs (x:DataW H×List MemPlace),F t=some a→DataW.trod enc P W 0 sp held m t cs=some x→Rds ν W cs a (dB x.1)):
  ∀(r:List Field) (off:Nat) (a:List Lf) (xs:List (DataW H×List MemPlace)),KA P F r off=some a→xs.length=r.length→
   (∀(i:Nat) (f:Field),r[i]? =some f→DataW.trod enc P W 0 sp held m f.type ((cs.drop f.offset).take (P.cellsOf f.type))=xs[i]?)→off+a.length≤cs.length→
   ∃ds:List D,gr a ds (Gi (xs.map (·.1)))∧∀i,i<a.length→RD ν (rp W) (cs.getD (off+i) undef) (ds.getD i .any)∧(cs.getD (off+i) undef).oneCell'=true
 |[],off,a,xs,h,hl,_,_=>by
  simp only[KA,Option.some.injEq]at h;subst h;exact⟨[],rfl,fun i hi=>by simp at hi⟩
 |f::r,off,a,xs,h,hl,hx,hoff=>by
  simp only[KA]at h;split at h
  ·rename_i a1 a2 h1 h2;split at h
   ·rename_i hc;simp only[Option.some.injEq]at h;subst h
    match xs,hl with
    |x::xs,hl=>
    have q:=hx 0 f rfl;simp only[List.getElem?_cons_zero]at q;obtain⟨l1,ds1,g1,g2⟩:=hF _ _ _ _ h1 q;simp only[List.length_append]at hoff;have hlen:((cs.drop f.offset).take (P.cellsOf f.type)).length=a1.length:=by rw[←l1]
    obtain⟨ds2,g3,g4⟩:=zR hF r _ a2 xs h2 (by simpa using hl) (fun i f' hf=>by simpa using hx (i+1) f' (by simpa using hf)) (by omega);have hd1:=oS g1;refine⟨ds1++ds2,by simp only[List.map_cons,Gi];exact qA g1 g3,fun i hi=>?_⟩;simp only[List.length_append]at hi;by_cases hi1:i<a1.length
    ·have:=g2 i (by omega);have e1:(ds1++ds2).getD i .any=ds1.getD i .any:=by simp[List.getD,List.getElem?_append,hd1,hi1]
     have e2:((cs.drop f.offset).take (P.cellsOf f.type)).getD i undef=cs.getD (off+i) undef:=by
      simp only[List.getD,List.getElem?_take,List.getElem?_drop,hc.1];rw[if_pos (by omega)]
     rw[e1,←e2];exact this
    ·have:=g4 (i-a1.length) (by omega);have e1:(ds1++ds2).getD i .any=ds2.getD (i-a1.length) .any:=by simp[List.getD,List.getElem?_append,hd1,hi1]
     rw[e1,show off+i=off+P.cellsOf f.type+(i-a1.length)by omega];exact this
   ·cases h
  ·cases h
def rW {W:World}{sp:Nat→Bool}{held:Bool}:∀(fl:Nat)(t:TypeId)(a:List Lf)(fuel:Nat)(cs:List Value)(x:DataW H×List MemPlace),
  tZ P fl t=some a→DataW.trod enc P W 0 sp held fuel t cs=some x→Rds ν W cs a (dB x.1)
 |0,t,a,fuel,cs,x,h,_=>by simp[tZ]at h
 |n+1,t,a,fuel,cs,x,h,hx=>by
  unfold tZ at h;split at h
  ·rename_i ht;simp only[Option.some.injEq]at h;subst h;obtain⟨b,rfl,rfl⟩:=DataW.trod_bool ht hx;exact .one (by simp only[fit];exact⟨⟨b,rfl⟩,by simp[dB]⟩) (.bool b) rfl
  ·rename_i k ht;simp only[Option.some.injEq]at h;subst h;obtain⟨m,rfl,rfl,hw⟩:=DataW.trod_int ht hx;exact .one (by simp only[fit];exact⟨⟨m,rfl,hw⟩,by simp[dB]⟩) (.int k m) rfl
  ·rename_i ht;simp only[Option.some.injEq]at h;subst h;obtain⟨s,rfl,rfl,hs⟩:=DataW.trod_string ht hx;obtain⟨⟨l⟩⟩:=s;exact .one (d:=.str l) (by simp only[fit];exact⟨l,rfl,by simp[dB]⟩) (.str l hs) rfl
  ·rename_i e ht;split at h
   ·rename_i ce hce;split at h
    ·rename_i hk;obtain⟨hk1,hk0,hkag⟩:=hk;simp only[Option.some.injEq]at h;subst h;rcases DataW.trod_slice ht hx with⟨rfl,rfl⟩|⟨ad,len,cap,elems,rest,m,rfl,rfl,rfl,hb,hlc,hcm,hel,hat,_,_⟩
     ·refine .one (d:=.sl (P.cellsOf e) []) (by simp only[fit];exact⟨[],rfl,[],rfl,by simp[dB],fun i hi=>by simp at hi⟩) ?_ rfl;exact .sl none 0 0 0 0 _ [] (fun _ _=>undef) rfl (.inl rfl) (Nat.le_refl _) (Nat.zero_le _) (fun i hi=>by omega) (fun i hi=>by omega) (fun i j hi=>by omega) (fun i j hi=>by omega) (fun i j hi=>by omega)
     ·have key:∀i,i<len→∃(csi:List Value) (dsi:List D),(csi.length=ce.length∧∀j,j<P.cellsOf e→W.cell? ((ad.add (i*P.cellsOf e)).add j)=csi[j]?)∧gr ce dsi (dB (elems.getD i (.nil,[])).1)∧
        ∀j,j<csi.length→RD ν (rp W) (csi.getD j undef) (dsi.getD j .any)∧(csi.getD j undef).oneCell'=true:=by
       intro i hi;have q:=hat i hi;have hgi:elems[i]? =some (elems.getD i (.nil,[])):=by simp[List.getD,show i<elems.length by omega]
       rw[hgi,Option.bind_eq_some_iff]at q;obtain⟨csi,q1,q2⟩:=q;obtain⟨l1,dsi,g1,g2⟩:=rW n e ce m csi _ hce q2;obtain⟨_,_,q3⟩:=World.cells?_some q1;exact⟨csi,dsi,⟨l1,q3⟩,g1,g2⟩
      let f:Nat→List Value×List D:=fun i=>if h:i<len then((key i h).choose,(key i h).choose_spec.choose)else([],[])
      have hf:∀i,i<len→((f i).1.length=ce.length∧∀j,j<P.cellsOf e→W.cell? ((ad.add (i*P.cellsOf e)).add j)=(f i).1[j]?)∧gr ce (f i).2 (dB (elems.getD i (.nil,[])).1)∧
        ∀j,j<(f i).1.length→RD ν (rp W) ((f i).1.getD j undef) ((f i).2.getD j .any)∧((f i).1.getD j undef).oneCell'=true:=by
       intro i hi;have e1:f i=((key i hi).choose,(key i hi).choose_spec.choose):=by simp[f,hi]
       rw[e1];exact(key i hi).choose_spec.choose_spec
      let es:List D:=(List.range len).map fun i=>bif pV P e then .agg (f i).2 else(f i).2.getD 0 .any
      have hes:∀i,i<len→es.getD i .any=bif pV P e then .agg (f i).2 else(f i).2.getD 0 .any:=fun i hi=>by simp[es,hi]
      have hcells:∀i,i<len→(es.getD i .any).cells=(f i).2:=fun i hi=>by
       rw[hes i hi];cases hag:pV P e with
       |true=>rfl
       |false=>
        have h1:ce.length=1:=by
         rcases hkag with h|h
         ·rw[hag]at h;cases h
         ·exact h
        match ce,h1 with
        |[c],_=>
        have g:=(hf i hi).2.1;simp only[gr]at g;obtain⟨d,ds',n1,n2,e1,_,g1,rfl⟩:=g;rw[e1];exact(AS g1).1
      have hnl:∀i,i<len→(es.getD i .any).aI=true:=fun i hi=>by
       have g:=nY (hf i hi).2.1;rw[hes i hi];cases hag:pV P e with
       |true=>exact g
       |false=>
        show((f i).2.getD 0 .any).aI=true
        match hq:(f i).2 with
        |[]=>rfl
        |d::r=>
         rw[hq]at g;simp only[aG,Bool.and_eq_true]at g;exact g.1
      refine .one (d:=.sl (P.cellsOf e) es) ?_ ?_ rfl
      ·simp only[fit];refine⟨es,rfl,elems.map fun q=>dB q.1,by simp[es,hel],by simp only[dB,AO,List.map_map];exact Nat.le_refl _,fun i hi=>?_⟩;have hi':i<len:=by simpa[es]using hi
       refine⟨(f i).2,hes i hi', ?_⟩;have:=(hf i hi').2.1;have e2:(elems.map fun q=>dB q.1).getD i 0=dB (elems.getD i (.nil,[])).1:=by simp[List.getD,show i<elems.length by omega]
       rw[e2];exact this
      ·have hfl:∀i,i<len→(f i).1.length=P.cellsOf e:=fun i hi=>by rw[(hf i hi).1.1,hk1]
       have hdl:∀i,i<len→(f i).2.length=P.cellsOf e:=fun i hi=>by rw[oS (hf i hi).2.1,hk1]
       have hcell:∀i j,i<len→j<P.cellsOf e→W.cell? ((ad.add (i*P.cellsOf e)).add j)=some ((f i).1.getD j undef):=fun i j hi hj=>by
        rw[(hf i hi).1.2 j hj];simp[List.getD,show j<(f i).1.length by rw[hfl i hi];exact hj]
       have hsp:es=[]∨(ad.spot=none∧ad.block<W.heap.size):=by
        by_cases h0:len=0
        ·left;simp[es,h0]
        ·right;have h1:=hcell 0 0 (by omega) (by omega);have e3:(ad.add (0*P.cellsOf e)).add 0=ad:=by simp[Addr.add]
         rw[e3]at h1;refine⟨World.cell?_spot h1, ?_⟩;unfold World.cell? at h1;split at h1
         ·rename_i h2;exact(Array.getElem?_eq_some_iff.mp h2).1
         ·cases h1
       obtain⟨ab,ao,asp⟩:=ad;refine .sl (some ⟨ab,ao,asp⟩) ab ao len cap _ es (fun i j=>(f i).1.getD j undef) (by simp[es]) ?_ hlc hcm (fun i hi=>by rw[hcells i hi,hdl i hi]) hnl ?_ ?_ ?_
       ·rcases hsp with h|⟨h,h2⟩
        ·exact .inl h
        ·obtain rfl:asp=none:=h;exact .inr ⟨rfl,h2⟩
       ·intro i j hi hj;have h1:=hcell i j hi hj;rcases hsp with h|⟨h,h2⟩
        ·have:es.length=0:=by rw[h];rfl
         simp[es]at this;omega
        ·obtain rfl:asp=none:=h
         rwa [BG]at h1
       ·intro i j hi hj;exact((hf i hi).2.2 j (by rw[hfl i hi];exact hj)).2
       ·intro i j hi hj;rw[hcells i hi];exact((hf i hi).2.2 j (by rw[hfl i hi];exact hj)).1
    ·cases h
   ·cases h
  ·rename_i fs ht;split at h
   ·rename_i b hb;split at h
    ·rename_i hlen;simp only[Option.some.injEq]at h;subst h;obtain⟨xs,m,rfl,rfl,hcl,hxl,hat⟩:=DataW.trod_struct ht hx;obtain⟨ds,g1,g2⟩:=zR (W:=W) (ν:=ν) (sp:=sp) (held:=held) (enc:=enc) (m:=m) (cs:=cs) (fun t a cs x h1 h2=>rW n t a m cs x h1 h2) fs.toList 0 b xs hb (by simpa using hxl) (fun i f hf=>hat i f (by simpa using hf)) (by omega);refine⟨by omega,ds,by simpa only[dB]using g1,fun i hi=>?_⟩;have:=g2 i (by omega)
     rwa [Nat.zero_add]at this
    ·cases h
   ·cases h
  ·rename_i k e ht;split at h
   ·rename_i b hb;split at h
    ·rename_i hlen;simp only[Option.some.injEq]at h;subst h;obtain⟨xs,m,rfl,rfl,hcl,hxl,hat⟩:=DataW.trod_array ht hx;obtain⟨ds,g1,g2⟩:=zR (W:=W) (ν:=ν) (sp:=sp) (held:=held) (enc:=enc) (m:=m) (cs:=cs) (fun t a cs x h1 h2=>rW n t a m cs x h1 h2) _ 0 b xs hb (by simpa using hxl) (fun i f hf=>by
      simp only[List.getElem?_map,Option.map_eq_some_iff]at hf;obtain⟨j,hj,rfl⟩:=hf;have hi:i<k:=by
       have:=(List.getElem?_eq_some_iff.1 hj).1;simpa using this
      obtain rfl:j=i:=by simpa[hi]using hj.symm
      exact hat j hi) (by omega)
     refine⟨by omega,ds,by simpa only[dB]using g1,fun i hi=>?_⟩;have:=g2 i (by omega)
     rwa [Nat.zero_add]at this
    ·cases h
   ·cases h
  ·cases h
end
end Go.Abs
end
section
namespace Go.Abs
open Go.RowKit Go.ChangeShapes Go.WideShapes
def ze (sh:Bool×List Lf)(d:D)(n:Nat):Prop:=∃ds,gr sh.2 ds n∧d=bif sh.1 then .agg ds else ds.getD 0 .any
def rv:List (Bool×List Lf)→List D→Nat→Prop
 |[],ds,_=>ds=[]
 |s::r,ds,n=>∃d ds' n1 n2,ds=d::ds'∧n1+n2≤n∧ze s d n1∧rv r ds' n2
def kC (P:Program)(k:Nat):List TypeId→Option (List (Bool×List Lf))
 |[]=>some []
 |t::r=>match tZ P k t,kC P k r with
  |some a,some b=>if pV P t=true∨a.length=1 then some ((pV P t,a)::b)else none
  |_,_=>none
section
variable {H:Type} {enc:TypeId×Value→H} {P:Program} {ν:List (Nat×Nat)}
def I9 {W:World}{sp:Nat→Bool}{held:Bool}{k base:Nat}{t:TypeId}{a:List Lf}{v:Value}{d:DataW H}{p:List MemPlace}{r:Reach}
  (ha:tZ P k t=some a) (h1:pV P t=true∨a.length=1) (qX:Value.okWide P W r base t v) (h:DataW.Trod enc P W 0 sp held t v d p):
  ∃e,ze (pV P t,a) e (dB d)∧e.aI=true∧RD ν (rp W) v e:=by
 obtain⟨fuel,hf⟩:=h;obtain⟨hl,ds,g1,g2⟩:=rW (ν:=ν) k t a fuel v.cells.toList (d,p) ha hf;have hdl:=oS g1;have hnl:=nY g1;refine⟨_,⟨ds,g1,rfl⟩, ?_⟩;cases hag:pV P t with
 |true=>
  have:∃cs,v=.agg cs∧cs.size=P.cellsOf t:=by
   match k,ha with
   |n+1,ha=>
   unfold tZ at ha;unfold pV at hag;split at ha
   ·simp_all
   ·simp_all
   ·simp_all
   ·simp_all
   ·rename_i fs ht;exact okWide_struct ht qX
   ·rename_i m e ht;simp only[Value.okWide,ht]at qX;obtain⟨cs,h1,h2,_⟩:=qX;exact⟨cs,h1,h2⟩
   ·simp_all
  obtain⟨cs,rfl,hcs⟩:=this;refine⟨hnl, ?_⟩;have hl':cs.size=a.length:=by simpa[Value.cells]using hl
  have e:∀i,(Value.agg cs).cells.toList.getD i undef=cs.getD i undef:=fun i=>by
   simp only[Value.cells];by_cases hi:i<cs.size<;>simp[List.getD,Array.getD,hi]
  refine .agg cs ds (by omega) (fun i hi=>?_) fun i hi=>?_
  ·rw[←e];exact(g2 i (by simp only[Value.cells,Array.length_toList];omega)).2
  ·rw[←e];exact(g2 i (by simp only[Value.cells,Array.length_toList];omega)).1
 |false=>
  have h1:a.length=1:=by
   rcases h1 with h|h
   ·rw[hag]at h;cases h
   ·exact h
  have hv:v.cells.toList.getD 0 undef=v:=by
   match k,ha with
   |n+1,ha=>
   unfold tZ at ha;unfold pV at hag;split at ha
   ·rename_i ht;obtain⟨b,rfl⟩:=okWide_bool ht qX;rfl
   ·rename_i k ht;obtain⟨b,rfl⟩:=okWide_int ht qX;rfl
   ·rename_i ht;obtain⟨b,rfl⟩:=okWide_string ht qX;rfl
   ·rename_i e ht;obtain⟨b,c,f,rfl⟩:=okWide_slice ht qX;rfl
   ·rename_i fs ht;rw[ht]at hag;cases hag
   ·rename_i m e ht;rw[ht]at hag;cases hag
   ·cases ha
  have g:=g2 0 (by omega);rw[hv]at g;refine⟨?_,g.1⟩
  match ds,hdl with
  |[d0],_=>simpa[aG]using hnl
  |[],h=>simp at h;omega
  |_::_::_,h=>simp at h;omega
def AH {W:World}{sp:Nat→Bool}{held:Bool}{k base:Nat}{r:Reach}:∀(ts:List TypeId)(shs:List (Bool×List Lf))(vs:List Value)(dws:List (DataW H))(ps:List MemPlace),
  kC P k ts=some shs→(∀(j:Nat) t v,ts[j]? =some t→vs[j]? =some v→Value.okWide P W r base t v)→DataW.TrodAll enc P W 0 sp held ts vs dws ps→
  ∃es:List D,rv shs es (Gi dws)∧es.length=vs.length∧dws.length=ts.length∧aG es=true∧∀i,i<es.length→RD ν (rp W) (vs.getD i undef) (es.getD i .any)
 |[],shs,vs,dws,ps,hs,_,h=>by
  simp only[kC,Option.some.injEq]at hs;subst hs;obtain⟨rfl,rfl,rfl⟩:=trodAll_nil h;exact⟨[],rfl,rfl,rfl,rfl,fun i hi=>by simp at hi⟩
 |t::ts,shs,vs,dws,ps,hs,hv,h=>by
  simp only[kC]at hs;split at hs
  ·rename_i a b h1 h2;split at hs
   ·rename_i hc;simp only[Option.some.injEq]at hs;subst hs;obtain⟨v,vs',d,ds',p,q,rfl,rfl,rfl,h3,h4⟩:=trodAll_cons h;obtain⟨e,g1,g2,g3⟩:=I9 (ν:=ν) h1 hc (hv 0 t v rfl rfl) h3;obtain⟨es,k1,k2,k3,k4,k5⟩:=AH ts b vs' ds' q h2 (fun j t v h5 h6=>hv (j+1) t v (by simpa using h5) (by simpa using h6)) h4;refine⟨e::es,⟨e,es,_,_,rfl,Nat.le_refl _,g1,k1⟩,by simp[k2],by simp[k3],by simp[aG,g2,k4],fun i hi=>?_⟩
    match i,hi with
    |0,_=>exact g3
    |i+1,hi=>exact k5 i (by simpa using hi)
   ·cases hs
  ·cases hs
def nK {W W':World}(hl:laidOutB P=true)(hb:Below W.heap.size W W'){sp':Nat→Bool}:∀(ts:List TypeId)(vs:List Value)(dws:List (DataW H))(ps:List MemPlace),
  (ts.all fun t=>P.readableRec t&&decide (t<P.types.size))=true→(∀x∈ps,x.block<W.heap.size)→(∀x∈ps,sp' x.block=true)→
  DataW.TrodAll enc P W 0 (fun _=>true) true ts vs dws ps→DataW.TrodAll enc P W' 0 sp' true ts vs dws ps
 |[],vs,dws,ps,_,_,_,h=>by
  obtain⟨rfl,rfl,rfl⟩:=trodAll_nil h;exact trodAll_mk0
 |t::ts,vs,dws,ps,ht,hlt,hsp,h=>by
  obtain⟨v,vs',d,ds',p,q,rfl,rfl,rfl,h3,h4⟩:=trodAll_cons h;simp only[List.all_cons,Bool.and_eq_true,decide_eq_true_eq]at ht;refine trodAll_cons_mk (WideElems.Trod_stays hl ht.1.1 ht.1.2 h3 (fun x hx=>hb.same (hlt x (by simp[hx]))) fun x hx=>hsp x (by simp[hx])) ?_;exact nK hl hb ts vs' ds' q ht.2 (fun x hx=>hlt x (by simp[hx])) (fun x hx=>hsp x (by simp[hx])) h4
end
end Go.Abs
end
namespace Go.Abs
def Gq {c:Lf}{d:D}{n:Nat}(h:fit c d n):1≤n:=by
 cases c<;>simp only[fit]at h
 ·obtain⟨s,_,h⟩:=h;omega
 ·exact h.2
 ·exact h.2
 ·obtain⟨es,_,ns,_,h,_⟩:=h;omega
def DT {c:Lf}{d:D}{n m:Nat}(h:fit c d n)(hm:n≤m):fit c d m:=by
 cases c<;>simp only[fit]at h⊢
 ·obtain⟨s,h1,h⟩:=h;exact⟨s,h1,by omega⟩
 ·exact⟨h.1,by omega⟩
 ·exact⟨h.1,by omega⟩
 ·obtain⟨es,h1,ns,h2,h3,h4⟩:=h;exact⟨es,h1,ns,h2,by omega,h4⟩
def Bp:∀(ns:List Nat)(i:Nat),i<ns.length→ns.getD i 0≤ns.sum
 |a::r,0,_=>by simp
 |a::r,i+1,h=>by
  have:=Bp r i (by simpa using h);simp only[List.getD_cons_succ,List.sum_cons];omega
def Bq:∀(ns:List Nat),(∀i,i<ns.length→1≤ns.getD i 0)→ns.length≤ns.sum
 |[],_=>by simp
 |a::r,h=>by
  have h0:=h 0 (by simp);have:=Bq r fun i hi=>h (i+1) (by simpa using hi)
  simp only[List.getD_cons_zero]at h0;simp only[List.length_cons,List.sum_cons];omega
def Kf {α:Type}{q:α→D}{G:α→Prop}{ag:Bool}{k:Nat}{cs:List Lf}{d:D}{n:Nat}(hcs:cs≠[])
  (hd:∀ds m,m≤n→gr cs ds m→∃x,(bif ag then D.agg ds else ds.getD 0 .any)=q x∧G x) (h:fit (.sl ag k cs) d n):
  ∃xs:List α,d=.sl k (xs.map q)∧xs.length+1≤n∧∀x∈xs,G x:=by
 simp only[fit]at h;obtain⟨es,rfl,ns,hl,hs,he⟩:=h;have hone:∀i,i<ns.length→1≤ns.getD i 0:=fun i hi=>by
  obtain⟨ds,_,h2⟩:=he i (by omega)
  match cs,hcs with
  |c::r,_=>
  simp only[gr]at h2;obtain⟨d,ds',n1,n2,_,h3,h4,_⟩:=h2;have:=Gq h4;omega
 have hlen:=Bq ns hone;have key:∀i,i<es.length→∃x,es.getD i .any=q x∧G x:=fun i hi=>by
  obtain⟨ds,h1,h2⟩:=he i hi;obtain⟨x,h3,h4⟩:=hd ds _ (by have:=Bp ns i (by omega);omega) h2;exact⟨x,h1.trans h3,h4⟩
 have conv:∀es:List D,(∀i,i<es.length→∃x,es.getD i .any=q x∧G x)→∃xs:List α,es=xs.map q∧∀x∈xs,G x:=by
  intro es;induction es with
  |nil=>exact fun _=>⟨[],rfl,fun x hx=>by cases hx⟩
  |cons e r ih=>
   intro h;obtain⟨x,h1,h2⟩:=h 0 (by simp);obtain⟨xs,h3,h4⟩:=ih fun i hi=>by simpa using h (i+1) (by simpa using hi)
   simp only[List.getD_cons_zero]at h1;refine⟨x::xs,by rw[h3,h1];rfl,fun y hy=>?_⟩;rcases List.mem_cons.1 hy with rfl|hy
   ·exact h2
   ·exact h4 y hy
 obtain⟨xs,rfl,hx⟩:=conv es key
 refine⟨xs,rfl, ?_,hx⟩;simp only[List.length_map]at hl;omega
def Ea {k:IntKind}{d:D}{n:Nat}(h:fit (.sl false 1 [.int k]) d n):∃xs:List Int,d=.sl 1 (xs.map (D.int k))∧xs.length+1≤n∧∀x∈xs,True:=
 Kf (q:=D.int k) (G:=fun _=>True) (by simp) (fun ds m hm h=>by
  simp only[gr,fit]at h;obtain⟨d,ds',n1,n2,rfl,_,⟨⟨x,rfl,_⟩,_⟩,rfl⟩:=h;exact⟨x,rfl,trivial⟩) h
def G6 {c:Lf}{d:D}{n:Nat}(h:ze (false,[c]) d n):fit c d n:=by
 obtain⟨ds,h,rfl⟩:=h;simp only[gr]at h;obtain⟨d,_,n1,n2,rfl,h1,h2,rfl⟩:=h;exact DT h2 (by omega)
end Go.Abs
section
namespace Go.Abs
open Go.RowKit Go.ChangeShapes Go.WideShapes
def ctxp {t:List (Nat×nn)}{n:Nat}{ds:List D}{d:D}(hD:LK (lk t n jx).rel)(h:(lk t n jx).rel ds d):(tP t).pre n ds∧(tP t).val n ds=d:=⟨⟨d,h⟩,hD _ _ _ (gO ⟨d,h⟩) h⟩
section
variable {H:Type} {enc:TypeId×Value→H} {P:Program} {ν:List (Nat×Nat)}
def zO [bS]{bA:List Nat}{Γ:Ctx}(hok:Ok P ν bA Γ){fid n k base:Nat}{f:Func}{s:ChangeSpec}{tb:TypeId}{shs:List (Bool×List Lf)}{r:Reach}
  {W:World} {args:Array Value} {ds gs:List (DataW H)} {before:List MemPlace}
  (hf:P.funcs[fid]? =some f) (hnm:(f.name== "runtime.NumGoroutine")=false) (hbody:f.body.isSome=true) (hn:cW ν fid=some n)
  (hl:laidOutB P=true) (hts:(f.params.toList.all fun t=>P.readableRec t&&decide (t<P.types.size))=true)
  (hsh:kC P k f.params.toList=some shs) (hres:f.resultTypes=#[tb]) (htb:P.underlying tb=some .bool)
  (hvars:s.vars=[]) (hfn:∀xs:List (DataW H),xs.length=f.params.toList.length→s.fn H xs={results:=[.lit (.bool true)],args:=xs})
  (hgd:bS.gd (rp W)) (hpre:∀es,rv shs es (Gi ds)→(∀i,i<es.length→∃v,RD ν (rp W) v (es.getD i .any))→Γ.pre n es∧Γ.val n es=.bool true)
  (hargs:∀(j:Nat) t v,f.params[j]? =some t→args[j]? =some v→Value.okWide P W r base t v)
  (hW:DataW.Whole enc P f.params.toList s.vars false W args.toList ds gs before):
  Calls P fid args W fun e W'=>∃v,e=.returned v∧s.post enc P f false true false false W args v W':=by
 have hW':=hW;obtain⟨p,q,hA,hV,rfl,hz,hnd⟩:=hW;rw[hvars]at hV;obtain⟨rfl,rfl⟩:=trodVars_none hV;obtain⟨es,h1,h2,h3,h4,h5⟩:=AH (ν:=ν) f.params.toList shs args.toList ds p hsh (fun j t v e1 e2=>hargs j t v (by simpa using e1) (by simpa using e2)) hA;have hsz:args.size=es.length:=by simpa using h2.symm
 obtain⟨hp1,hp2⟩:=hpre es h1 fun i hi=>⟨_,h5 i hi⟩
 have hd:=hok.pure fid n hn (rp W) args es hsz (fun i hi=>by
  have:=h5 i hi;have e:args.toList.getD i undef=args.getD i undef:=by
   have hi':i<args.size:=by omega
   simp[List.getD,Array.getD,hi']
  rwa [e]at this) h4 (fun b hb=>hb) hgd hp1
 rw[er hf hnm hbody args]at hd;rcases hd with⟨v,x',hd|hd,_⟩|⟨f',args',hd,hc⟩
 ·cases hd
 ·cases hd.1
 ·cases hd;refine Calls.mono hc fun e W' he=>?_
  match e,he with
  | .returned v,he=>
   obtain⟨x',rfl,hp,hr⟩:=he;rw[hp2]at hr;obtain rfl:v=.bool true:=by cases hr;rfl
   have hb:Below W.heap.size W x'.w:=hp.grow.below;have hlt:=hW'.lt;have e1:s.fn H (ds++[])={results:=[.lit (.bool true)],args:=ds}:=by rw[List.append_nil];exact hfn ds h3
   refine⟨_,rfl,ue (pa:=p) (pv:=[]) hW' (fun b sp hd=>?_) (fun sp hsp=>?_) (fun sp hsp=>?_) rfl hb (ok_one hres rfl (okWide_bool_mk htb _))⟩
   ·rw[e1,hres];exact trodAll_mk1 (shut_bool htb _)
   ·rw[e1];exact nK hl hb _ _ _ _ hts (fun x hx=>by simpa using hlt x (by simpa using hx)) (fun x hx=>hsp x (by simpa using hx)) hA
   ·rw[e1,hvars];rfl
end
end Go.Abs
end
section
namespace Go.Proofs.YtpdlhpamcaocgaaGreatDoor
open Go.Abs Go.ChangeShapes Go.WideShapes Go.ChangeAt Go.RowKit Go.Proofs
def own:ownKnob Tryz.prog.godebug=none:=by kernel_rfl
def Ef:laidOutB Tryz.prog=true:=by kernel_rfl
def oZ {P:Program}{W:World}{y:String×DataW Unit}{l:List (String×DataW Unit)}(h:laidMet P (y::l) W):laidMet P l W:=by
 obtain⟨ps,⟨g,t,cs,fuel,p,q,_,_,_,_,h1,rfl⟩,h2,h3⟩:=h;refine⟨q,h1,(List.nodup_append.1 h2).2.1,fun b off hm=>h3 b off (by simp[hm])⟩
def A7 {W:World}{b:Nat}{o:Nat}{v:Value}(h:W.cell? ⟨b,o,none⟩=some v):b<W.heap.size:=by
 unfold World.cell? at h;split at h
 ·rename_i h2;exact(Array.getElem?_eq_some_iff.mp h2).1
 ·cases h
def Mp {W:World}(hL:laidMetH Tryz.prog Rows.recordSumsRow.laid W)(hsh:W.ShapedOpen Tryz.prog):bS.gd (rp W):=by
 have hL':laidMet Tryz.prog Rows.recordSumsRow.laid W:=hL;have htab:Lib.TabIs Tryz.prog W "internal/strconv.uint64pow10" .u64 Lib.pow10Tab:=
  Lib.tabIs_of_head (g:=3) (t:=244) (e:=49) (n:=20) (by kernel_rfl) (by kernel_rfl) (by kernel_rfl) (by kernel_rfl) (by kernel_rfl) (by kernel_rfl) (oZ (oZ hL'))
 obtain⟨m,hm⟩:∃m,W.cell? ⟨0,0,none⟩=some (.int .i64 m):=Tryz.laysM219.s1_3 W hsh
 have h3:=htab.cell qH 0 (by decide);exact⟨⟨A7 hm,m,hm⟩,A7 h3,htab⟩
mutual
def xr {H:Type}:DataW H→List Value
 | .lit (.int k n)=>[.int k n]
 | .agg ps=>DJ ps
 |_=>[]
def DJ {H:Type}:List (DataW H)→List Value
 |[]=>[]
 |d::r=>xr d++DJ r
end
def put (d:DataW Unit):Obj→Obj
 | .cells _ t frozen=>.cells (xr d).toArray t frozen
 |o=>o
noncomputable def pW (os:Os):World:=
 {World.holding Tryz.prog os ⟨#[],#[],[]⟩with heap:=(((((World.holding Tryz.prog os ⟨#[],#[],[]⟩).heap.modify 1 (put Rows.laid_unicode_utf8_first)).modify 2 (put Rows.laid_unicode_utf8_acceptRanges)).modify 3 (put Rows.laid_internal_strconv_uint64pow10)).modify 4 (put Rows.laid_math_bits_deBruijn32tab)).modify 5 (put Rows.laid_math_bits_deBruijn64tab)}
end Go.Proofs.YtpdlhpamcaocgaaGreatDoor
end
section
namespace Go.Proofs.YtpdlhpamcaocgaaGreatDoor
open Go.Abs Go.ChangeShapes Go.WideShapes Go.ChangeAt Go.RowKit Go.Proofs
def e7:Array Value:=#[.slice none 0 0]
def nv (os:Os):laidMet Tryz.prog Rows.recordSumsRow.laid ((pW os).forCall (fun _ _=>0) ⟨#[],e7,[]⟩).memory:=
 laidMet_of_run' 8 (by kernel_rfl) (by kernel_rfl)
def pk:kC Tryz.prog 20 Tryz.f9.params.toList=some [(false,[.sl false 1 [.int .i64]])]:=by kernel_rfl
def sX {W:World}{es:List D}{n:Nat}(h:rv [(false,[.sl false 1 [.int .i64]])] es n)(hr:∀i,i<es.length→∃v,RD rh (rp W) v (es.getD i .any)):(tP aZ).pre 1194 es∧(tP aZ).val 1194 es=.bool true:=by
 obtain⟨d1,_,n1,m1,rfl,a1,h1,rfl⟩:=h;obtain⟨v1,rfl,k1⟩:=Ea (G6 h1);exact ctxp LF fun T h=>h v1
def qe (os:Os){H:Type}(enc:TypeId×Value→H):∃places,DataW.whole enc Tryz.prog ((pW os).forCall (fun _ _=>0) ⟨#[],e7,[]⟩).memory Tryz.f9.params.toList Rows.recordSumsSpec.vars false e7.toList 8=
  some ([.nil],[],places):=
 ⟨[],by kernel_rfl⟩
set_option maxRecDepth 100000 in
theorem o9 (os:Os)(started:os.Started)(H:Type)(enc:TypeId×Value→H)(F:Stop.Interp):
  ReturnsInHanded {} Tryz.checked os 9 .any ((OpenSpec.ofChange Rows.recordSumsSpec).preRow enc Tryz.prog Tryz.f9 Rows.recordSumsRow.domain false Rows.recordSumsRow.laid) (((OpenSpec.ofChange Rows.recordSumsSpec).at F).post enc Tryz.prog Tryz.f9 false true false false):=by
 obtain⟨places,hx⟩:=qe os enc;refine returnsInHanded_of_row (C:=Tryz.checked) (s:=OpenSpec.ofChange Rows.recordSumsSpec) own started (by kernel_rfl) Tryz.func9
  (witness_row_at (enc:=enc) (C:=Tryz.checked) false (pW os) e7 rfl (by kernel_rfl) (by kernel_rfl) (by kernel_rfl)
    (OpenSpec.preRow_of_cond 8 hx (by kernel_rfl) (fun k hk=>by cases hk) (by kernel_rfl) (nv os))) ?_
 intro W base args ds gs before qX hW _ _ _ hL hsh _;refine zO (n:=1194) (k:=20) (s:=(OpenSpec.ofChange Rows.recordSumsSpec).at F) (tb:=4) okY Tryz.func9 (by kernel_rfl) (by kernel_rfl) (by kernel_rfl) Ef (by kernel_rfl) pk (by kernel_rfl) (by kernel_rfl) rfl (fun xs hx=>?_) (Mp hL hsh)
  (fun es he hr=>sX he hr) qX hW
 match xs,hx with
 |[a],_=>rfl
def tT:Tryz.prog.inPlace 9=Rows.recordSumsRow.inPlace:=by kernel_rfl
def tV:Tryz.prog.unfollowed 9=Rows.recordSumsRow.unfollowed:=by kernel_rfl
def tW:Tryz.prog.recurses 9=Rows.recordSumsRow.recurses:=by kernel_rfl
def tX:Tryz.prog.varsNamed 9=Rows.recordSumsRow.named:=by kernel_rfl
def oK:joinedFacts Tryz.prog 9 Tryz.f9 (OpenSpec.ofChange Rows.recordSumsSpec).bare Rows.recordSumsRow=true:=by
 unfold joinedFacts;rw[tT,tV,tW,tX]
 kernel_rfl
def rk:Rows.RecordSumsSaid:=
 OpenClaim.holds_of_cond 9 Tryz.f9 rfl rfl rfl rfl rfl rfl rfl ⟨rfl,rfl,rfl,rfl,rfl⟩ rfl rfl rfl rfl rfl (by kernel_rfl) Tryz.func9 oK
  (of_decide_eq_true (by kernel_rfl)) (by unfold Func.isWrapper;first|(rw[if_pos (by decide+kernel)];kernel_rfl)|(rw[if_neg (by decide+kernel)];exact⟨rfl,rfl⟩))
  (fun os started H enc _ F=>by rw[OpenClaim.pre_eq_preRow];exact o9 os started H enc F)
def qa (f:FuncId)(fn:Func)(hf:Tryz.pinned.checked.prog.funcNamed "linchpin/linchpinlaw12.RecordSums" =some f)(hfn:Tryz.pinned.checked.prog.funcs[f]? =some fn):
  false=Tryz.pinned.checked.prog.looks []∧∀(j:Nat) t,fn.params[j]? =some t→Tryz.pinned.checked.prog.wantsStandIn t=false:=by
 obtain rfl:f=9:=Option.some.inj ((show Tryz.prog.funcNamed "linchpin/linchpinlaw12.RecordSums" =some 9 by kernel_rfl).symm.trans hf) |>.symm
 obtain rfl:fn=Tryz.f9:=(Option.some.inj (Tryz.func9.symm.trans hfn)).symm;refine⟨by kernel_rfl,fun j t ht=>?_⟩;have hall:(Tryz.f9.params.toList.all fun t=>!Tryz.prog.wantsStandIn t)=true:=by kernel_rfl
 have:=List.all_eq_true.1 hall t (by simpa using Array.mem_of_getElem? ht);show Tryz.prog.wantsStandIn t=false;simpa using this
theorem card_recordSums:Rows.RecordSumsCardSaid:=
 Claim7.holds_tied_plain_at .later [] _ _ _ _ rk (fun _ h=>by cases h) (by kernel_rfl) (fun _ h=>by cases h) recordSums_row_tie rfl ⟨rfl,rfl⟩ (by kernel_rfl) rfl qa (by kernel_rfl)
end Go.Proofs.YtpdlhpamcaocgaaGreatDoor
end
#print axioms Go.Proofs.YtpdlhpamcaocgaaGreatDoor.card_recordSums
