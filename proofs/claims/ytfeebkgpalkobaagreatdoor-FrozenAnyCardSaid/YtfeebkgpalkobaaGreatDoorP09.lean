/- A part of the proofs. -/
import Derived.KernelRfl
import Derived.Lib.CountLaws
import Derived.Lib.IndexMore
import Derived.Lib.ItoaNum
import Derived.Lib.Join
import Derived.Lib.Split
import Derived.Lib.SplitLaws
import Derived.Lib.Strings
import Derived.Lib.TrimByte
import Derived.Shelf.Strings.Builder2
import Derived.Shelf.Strings.Split
import Derived.Test.YtfeebkgpalkobaaGreatDoorProg
import Derived.Test.YtfeebkgpalkobaaGreatDoorShelf
import Derived.Test.YtfeebkgpalkobaaGreatDoorP08
set_option linter.all false
set_option maxRecDepth 60000
set_option maxHeartbeats 2000000
section
namespace Go.Proofs
open Go.Shelf
def Tryz.PG:Go.Shelf.Ren:=⟨fun|166=>198|167=>199|169=>180|240=>220|276=>242|n=>n,fun|70=>214|9=>9|0=>0|72=>216|37=>176|3=>3|5=>5|4=>4|20=>20|75=>235|80=>219|164=>277|127=>241|n=>n,fun|n=>n⟩
def Tryz.G2:Go.Proofs.Lays.n166 Tryz.prog Tryz.PG:={
 mixed:=by kernel_rfl
 f166:=Tryz.func198.trans (congrArg some (by kernel_rfl))
 f240:=Tryz.func220.trans (congrArg some (by kernel_rfl))
 f276:=Tryz.func242.trans (congrArg some (by kernel_rfl))
 t0:=Tryz.underlying0
 a0:=Tryz.isAgg0
 z0:=Tryz.sizeOf0
 v0:=Tryz.zeroValue0
 t3:=Tryz.underlying3
 a3:=Tryz.isAgg3
 z3:=Tryz.sizeOf3
 v3:=Tryz.zeroValue3
 t4:=Tryz.underlying4
 a4:=Tryz.isAgg4
 z4:=Tryz.sizeOf4
 v4:=Tryz.zeroValue4
 t9:=Tryz.underlying9
 a9:=Tryz.isAgg9
 z9:=Tryz.sizeOf9
 v9:=Tryz.zeroValue9
 t20:=Tryz.underlying20
 a20:=Tryz.isAgg20
 z20:=Tryz.sizeOf20
 v20:=Tryz.zeroValue20
 t37:=Tryz.underlying176
 a37:=Tryz.isAgg176
 z37:=Tryz.sizeOf176
 v37:=Tryz.zeroValue176
 t70:=Tryz.underlying214
 a70:=Tryz.isAgg214
 z70:=Tryz.sizeOf214
 v70:=Tryz.zeroValue214
 t72:=Tryz.underlying216
 a72:=Tryz.isAgg216
 z72:=Tryz.sizeOf216
 v72:=Tryz.zeroValue216
 t75:=Tryz.underlying235
 a75:=Tryz.isAgg235
 z75:=Tryz.sizeOf235
 v75:=Tryz.zeroValue235
 t164:=Tryz.underlying277
 a164:=Tryz.isAgg277
 z164:=Tryz.sizeOf277
 v164:=Tryz.zeroValue277}
def Tryz.G3:Go.Proofs.Lays.n167 Tryz.prog Tryz.PG:={
 mixed:=by kernel_rfl
 f167:=Tryz.func199.trans (congrArg some (by kernel_rfl))
 f240:=Tryz.func220.trans (congrArg some (by kernel_rfl))
 f276:=Tryz.func242.trans (congrArg some (by kernel_rfl))
 t0:=Tryz.underlying0
 a0:=Tryz.isAgg0
 z0:=Tryz.sizeOf0
 v0:=Tryz.zeroValue0
 t4:=Tryz.underlying4
 a4:=Tryz.isAgg4
 z4:=Tryz.sizeOf4
 v4:=Tryz.zeroValue4
 t5:=Tryz.underlying5
 a5:=Tryz.isAgg5
 z5:=Tryz.sizeOf5
 v5:=Tryz.zeroValue5
 t9:=Tryz.underlying9
 a9:=Tryz.isAgg9
 z9:=Tryz.sizeOf9
 v9:=Tryz.zeroValue9
 t20:=Tryz.underlying20
 a20:=Tryz.isAgg20
 z20:=Tryz.sizeOf20
 v20:=Tryz.zeroValue20
 t37:=Tryz.underlying176
 a37:=Tryz.isAgg176
 z37:=Tryz.sizeOf176
 v37:=Tryz.zeroValue176
 t70:=Tryz.underlying214
 a70:=Tryz.isAgg214
 z70:=Tryz.sizeOf214
 v70:=Tryz.zeroValue214
 t72:=Tryz.underlying216
 a72:=Tryz.isAgg216
 z72:=Tryz.sizeOf216
 v72:=Tryz.zeroValue216
 t75:=Tryz.underlying235
 a75:=Tryz.isAgg235
 z75:=Tryz.sizeOf235
 v75:=Tryz.zeroValue235
 t164:=Tryz.underlying277
 a164:=Tryz.isAgg277
 z164:=Tryz.sizeOf277
 v164:=Tryz.zeroValue277}
def Tryz.G4:Go.Proofs.Lays.n169 Tryz.prog Tryz.PG:={
 mixed:=by kernel_rfl
 f169:=Tryz.func180.trans (congrArg some (by kernel_rfl))
 t0:=Tryz.underlying0
 a0:=Tryz.isAgg0
 z0:=Tryz.sizeOf0
 v0:=Tryz.zeroValue0
 t3:=Tryz.underlying3
 a3:=Tryz.isAgg3
 z3:=Tryz.sizeOf3
 v3:=Tryz.zeroValue3
 t9:=Tryz.underlying9
 a9:=Tryz.isAgg9
 z9:=Tryz.sizeOf9
 v9:=Tryz.zeroValue9
 t37:=Tryz.underlying176
 a37:=Tryz.isAgg176
 z37:=Tryz.sizeOf176
 v37:=Tryz.zeroValue176
 t70:=Tryz.underlying214
 a70:=Tryz.isAgg214
 z70:=Tryz.sizeOf214
 v70:=Tryz.zeroValue214
 t72:=Tryz.underlying216
 a72:=Tryz.isAgg216
 z72:=Tryz.sizeOf216
 v72:=Tryz.zeroValue216
 t127:=Tryz.underlying241
 a127:=Tryz.isAgg241
 z127:=Tryz.sizeOf241
 v127:=Tryz.zeroValue241}
def Tryz.Ta:Builder.Extra Tryz.prog Tryz.PG:={
 sizeBuilder:=by kernel_rfl
 liesBuilder:=by kernel_rfl
 t5:=Tryz.underlying5
 a5:=Tryz.isAgg5
 z5:=Tryz.sizeOf5
 v5:=Tryz.zeroValue5
 infoByte:=by kernel_rfl
 cellsByte:=by kernel_rfl
 sizeByte:=by kernel_rfl
 neB5:=by decide}
end Go.Proofs
end
namespace Go.Abs
def pre1 (b c:UInt8)(r:aU):([b]:aU).isPrefixOf (c::r)=(b==c):=by simp[List.isPrefixOf]
def V0:Option Nat->Int
 |some k=>(k:Int)
 |none=>-1
theorem Be:∀(s:aU) (b:UInt8),Lib.index s [b]=V0 (s.findIdx? (fun c=>c==b))
 |[],b=>rfl
 |c::r,b=>by
  unfold Lib.index;rw[pre1,List.findIdx?_cons,Be r b];by_cases h:c=b
  .subst h;simp[V0]
  .have h1:(b==c)=false:=by simp[Ne.symm h]
   have h2:(c==b)=false:=by simp[h]
   simp only[h1,h2,iG,aS];cases r.findIdx? (fun c=>c==b)with
   |none=>rfl
   |some k=>
    grind [V0]
def Td (s:aU)(b:UInt8):Lib.cut s [b]=qh s b:=by
 unfold Lib.cut qh
 grind [Be,V0]
def JP (s p:aU):(Lib.trimPrefix s p,Lib.hasPrefix s p)=nL s p:=by
 unfold Lib.trimPrefix Lib.hasPrefix nL
 grind
def C2 (b:aU):∀l,cL b l=Lib.join l b
 |[]=>rfl
 |[t]=>(Lib.join_one t b).symm
 |t::u::r=>by
  rw[qP _ _ _ bg,C2 b (u::r),Lib.join_cons,Lib.join_cons];simp[Lib.joinTail]
def decDigits_eq (n:Nat):Lib.decDigits n=jC n:=by
 induction n using Nat.strongRecOn with
 |_ n ih=>
  rw[Lib.decDigits];by_cases h:n<10
  .rw[dif_pos h,vo h];rfl
  .rw[dif_neg h,vl ah,ih (n/10) ah];rfl
def Qe {n:Int}(h:0<=n):Lib.itoa n=jC n.toNat:=by
 unfold Lib.itoa;rw[aj ah,decDigits_eq]
def Al (b:UInt8):∀(s cur:aU),s.findIdx? (fun c=>c==b)=none->eU b.toNat s cur=[cur++s]
 |[],cur,_=>by simp[eU]
 |c::r,cur,h=>by
  rw[List.findIdx?_cons]at h;split at h
  .cases h
  .rename_i hc;have hr:r.findIdx? (fun c=>c==b)=none:=by
    cases hq:r.findIdx? (fun c=>c==b)with
    |none=>rfl
    |some k=>rw[hq]at h;cases h
   have hne:¬((c.toNat:Int)=(b.toNat:Int)):=fun e=>hc (by
    have:c.toNat=b.toNat:=ah;simp[od.1 this])
   simp only[eU,aj hne];rw[Al b r (cur++[c]) hr];simp
def yu (b:UInt8):∀(s cur:aU) (k:Nat),s.findIdx? (fun c=>c==b)=some k->eU b.toNat s cur=(cur++s.take k)::eU b.toNat (s.drop (k+1)) []
 |[],cur,k,h=>by simp at h
 |c::r,cur,k,h=>by
  rw[List.findIdx?_cons]at h;split at h
  .grind [eU]
  .rename_i hc;have hne:¬((c.toNat:Int)=(b.toNat:Int)):=fun e=>hc (by
    have:c.toNat=b.toNat:=ah;simp[od.1 this])
   cases hq:r.findIdx? (fun c=>c==b)with
   |none=>rw[hq]at h;cases h
   |some j=>
    rw[hq]at h;have hk:k=j+1:=by simpa using h.symm
    subst hk;simp only[eU,aj hne];rw[yu b r (cur++[c]) j hq];simp
def KW (b:UInt8):∀(k:Nat) (s:ByteArray),Lib.countB s ⟨⟨[b]⟩⟩=k->(Lib.splitB ⟨⟨[b]⟩⟩ 0 k s).map (fun t=>t.data.toList)=bE s.data.toList b.toNat:=by
 intro k;induction k with
 |zero=>
  intro s h;rw[Lib.splitB_zero];have hi:Lib.indexB s ⟨⟨[b]⟩⟩=V0 (s.data.toList.findIdx? (fun c=>c==b)):=Be _ b;cases hq:s.data.toList.findIdx? (fun c=>c==b)with
  |none=>simp[bE,Al b _ [] hq]
  |some j=>
   rw[hq]at hi;have:=Lib.countB_hit s ⟨⟨[b]⟩⟩ j (aM 1) hi;omega
 |succ k ih=>
  intro s h;have hi:Lib.indexB s ⟨⟨[b]⟩⟩=V0 (s.data.toList.findIdx? (fun c=>c==b)):=Be _ b;cases hq:s.data.toList.findIdx? (fun c=>c==b)with
  |none=>
   rw[hq]at hi;have:=Lib.countB_miss s ⟨⟨[b]⟩⟩ hi;omega
  |some j=>
   rw[hq]at hi;have h1:1<=(⟨⟨[b]⟩⟩:ByteArray).size:=aM 1;have hc:=Lib.countB_hit s ⟨⟨[b]⟩⟩ j h1 hi;rw[Lib.splitB_hit _ _ _ _ j hi];simp only[List.map_cons];rw[ih _ ah];have e1:(s.extract 0 (j+0)).data.toList=s.data.toList.take j:=by
    rw[Lib.extract_data];simp
   have e2:(s.extract (j+(⟨⟨[b]⟩⟩:ByteArray).size) s.size).data.toList=s.data.toList.drop (j+1):=by
    rw[Lib.extract_data];exact gY (by rw[pI,Lib.size_eq];exact aM _)
   rw[e1,e2];simp only[bE];rw[yu b _ [] j hq];simp
section
open Go.Proofs
def Z1 (c d:UInt8)(r:aU):([124,124]:aU).isPrefixOf (c::d::r)=(decide (c=124)&&decide (d=124)):=by
 grind
theorem Ai:∀(s cur:aU),Lib.index s [124,124]=-1->iD s cur=[cur++s]
 |[],cur,_=>by simp[iD]
 |[c],cur,_=>rfl
 |c::d::r,cur,h=>by
  unfold Lib.index at h;rw[Z1]at h;by_cases h2:c=124/\d=124
  .simp[h2.1,h2.2]at h
  .have h3:(decide (c=124)&&decide (d=124))=false:=by rw[<-Bool.decide_and];exact dx h2
   rw[h3,aj bg]at h;have h4:Lib.index (d::r) [124,124]=-1:=by
    have:=Lib.index_ge (d::r) [124,124]
    grind
   rw[iD,aj h2,Ai (d::r) _ h4];simp
def Ah:∀(s cur:aU) (i:Nat),Lib.index s [124,124]=i->iD s cur=(cur++s.take i)::iD (s.drop (i+2)) []
 |[],cur,i,h=>by simp[Lib.index]at h
 |[c],cur,i,h=>by simp[Lib.index,List.isPrefixOf]at h
 |c::d::r,cur,i,h=>by
  unfold Lib.index at h;rw[Z1]at h;by_cases h2:c=124/\d=124
  .rw[h2.1,h2.2]at h;have hi:i=0:=by simp at h;omega
   subst hi;rw[iD,ay h2];simp
  .have h3:(decide (c=124)&&decide (d=124))=false:=by rw[<-Bool.decide_and];exact dx h2
   rw[h3,aj bg]at h;split at h
   .omega
   .obtain⟨j,rfl⟩:∃j,i=j+1:=⟨i-1,by
     have:=Lib.index_ge (d::r) [124,124];rename_i h5;have:Lib.index (d::r) [124,124]≠-1:=fun e=>h5 (beq_iff_eq.2 e)
     omega⟩
    rw[iD,aj h2,Ah (d::r) _ j ah];simp
def KX:∀(k:Nat) (s:ByteArray),Lib.countB s ⟨⟨[124,124]⟩⟩=k->(Lib.splitB ⟨⟨[124,124]⟩⟩ 0 k s).map (fun t=>t.data.toList)=iD s.data.toList []:=by
 intro k;induction k with
 |zero=>
  intro s h;rcases Lib.indexB_cases s ⟨⟨[124,124]⟩⟩with hi|⟨i,hi,_⟩
  .rw[Lib.splitB_zero]
   grind [Ai]
  .have:=Lib.countB_hit s ⟨⟨[124,124]⟩⟩ i bj hi;omega
 |succ k ih=>
  intro s h;rcases Lib.indexB_cases s ⟨⟨[124,124]⟩⟩with hi|⟨i,hi,_⟩
  .rw[Lib.countB_miss _ _ hi]at h;omega
  .have hc:=Lib.countB_hit s ⟨⟨[124,124]⟩⟩ i bj hi;rw[Lib.splitB_hit _ _ _ _ i hi,List.map_cons,ih _ ah,Ah _ _ i (show Lib.index s.data.toList [124,124]=i from hi),Lib.extract_from_zero,Lib.extract_to_end];rfl
def Aq {p:UInt8->Bool}:∀(l:aU),∀x∈l.takeWhile p,p x=true
 |[],x,h=>by cases h
 |a::r,x,h=>by
  rw[List.takeWhile_cons]at h;split at h
  .rename_i ha;rcases cM.1 h with rfl|h
   .exact ha
   .exact Aq r x h
  .cases h
theorem sT {p:UInt8->Bool}:∀(l:aU),(∀x∈l,p x=true)->l.dropWhile p=[]
 |[],_=>rfl
 |a::r,h=>by
  rw[List.dropWhile_cons,ay (h a (.head _))];exact sT r fun x hx=>h x (.tail _ hx)
def wD:∀s,tP s=s.dropWhile (· ==32)
 |[]=>rfl
 |c::r=>by
  unfold tP;by_cases h:c=32
  .rw[ay h,wD r];simp[h]
  .rw[aj h,List.dropWhile_cons,aj (by simpa using h)]
def LS (s:aU):Lib.trimB s 32=wE s:=by
 unfold Lib.trimB Lib.trimLeftB Lib.trimRightB wE;rw[wD,wD];generalize hp:(fun c:UInt8=>c==32)=p;have hs:s=s.takeWhile p++s.dropWhile p:=(List.takeWhile_append_dropWhile).symm;generalize ha:s.takeWhile p=a at hs;generalize hm:s.dropWhile p=m at hs;have hall:∀x∈a,p x=true:=by rw[<-ha];exact Aq s
 subst hs;rw[List.reverse_append,List.dropWhile_append];cases m with
 |nil=>
  grind [sT]
 |cons c r=>
  have hc:p c=false:=by
   have:=List.head_dropWhile_not p (l:=a++c::r) (by rw[hm];simp);simpa[hm]using this
  have hne:((c::r).reverse.dropWhile p)≠[]:=by
   rw[List.reverse_cons,List.dropWhile_append];split
   .simp[hc]
   .simp
  rw[aj (by simpa using hne),List.reverse_append,List.reverse_reverse,List.dropWhile_append,sT _ hall];simp only[List.isEmpty_nil,aY];rw[List.reverse_cons,List.dropWhile_append];split
  .simp[hc]
  .simp[hc]
def sL:∀s,(tP s).length<=s.length
 |[]=>aM _
 |c::r=>by
  unfold tP;split
  .have:=sL r;simp only[aT];omega
  .exact aM _
end
section
open Go.Proofs Go.Shelf Go.RowKit
section
variable [di] {P:Program}
def kS (U:TypeId)(w:World)(v:Value)(s:List UInt8):Prop:=
 (v=.slice none 0 0/\s=[])\/∃g t c,v=.slice (some ⟨g,0,none⟩) s.length t/\w.heap[g]? =some (.cells c U (0,0))/\c.size=t/\t<=maxLen/\s.length<=t/\∀i,i<s.length->c.getD i undef=.int .u8 (s.getD i 0).toNat
def gK (s:List UInt8):List Value:=s.map fun b=>Value.int .u8 b.toNat
def iv (s:List UInt8):(gK s).length=s.length:=by simp[gK]
theorem qE (s:List UInt8)(i:Nat)(h:i<s.length):(gK s).getD i undef=.int .u8 (s.getD i 0).toNat:=by simp[gK,List.getD,h]
def wG (s:List UInt8):∀u∈gK s,u.oneCell'=true:=by
 intro u hu;obtain⟨b,_,rfl⟩:=fF.1 hu;rfl
def HB {x y:List UInt8}{zs:Array Value}(i:Nat)(hi:i<(x++y).length):(((gK x++gK y).toArray++zs).getD i undef)=.int .u8 ((x++y).getD i 0).toNat:=by
 rw[<-cB]
 grind [cY,gK,qE]
def PB {U t u ty:TypeId}{i:TypeInfo}{w:World}(ht:P.underlying t=some (.slice U))(hi:P.info? U=some i)(hz:i.zero=some (.int .u8 0))(hs:i.size=1)(hby:i.bytes=1){v xv:Value}{s s2:List UInt8}
  (hv:kS U w v s) (h0:s2≠[]) (hsrc:Go.Src P 1 u xv s2.length (gK s2) w) (hle:s.length+s2.length<=1099511627776):
  ∃g' t' w',(Builtin.append_ #[t,u] ty #[v,xv]).run P w=.ok (.slice (some ⟨g',0,none⟩) (s++s2).length t') w'/\kS U w' (.slice (some ⟨g',0,none⟩) (s++s2).length t') (s++s2)/\w.grownBy w' v.ownBlock/\(v.ownBlock=some g'\/w.heap.size<=g')/\g'<w'.heap.size:=by
 have hp:0<s2.length:=List.length_pos_iff.2 h0;have hm:maxLen=9223372036854775807:=rfl;rw[<-hs]at hsrc;rcases hv with⟨rfl,rfl⟩|⟨g,cap,c,rfl,hg,hcs,hcm,hle2,hc⟩
 .have hr:=run_append_grow_src (P:=P) w t u ty U i _ ht hi hz none 0 0 [] (by simp[Builtin.firstCells,loadCells,loadCellsFrom]) xv s2.length (gK s2) hsrc ah (by simp only[aX]at hle;omega) (by rw[hby];exact growslice_fits ah (by simp only[aX]at hle;omega));have hge:=grownCap_ge w (0+s2.length) 0 U;have hcm2:grownCap w (0+s2.length) 0 U<=maxLen:=grownCap_le_maxLen w (0+s2.length) 0 U (by simp only[aX]at hle;omega);simp only[bq,fQ]at hr hge hcm2;refine⟨w.heap.size,_,_,hr,.inr ⟨w.heap.size,_,_,rfl,ea w.drew _, ?_,hcm2,hge,fun j hj=>?_⟩,⟨rfl,rfl,rfl, ?_,fun k hk _=>kd w.drew _ k hk⟩,.inr (aM _), ?_⟩
  .have hz1:(Value.int IntKind.u8 0).cells.size=1:=rfl;simp only[fQ,Array.size_append,List.size_toArray,iv,size_zeroCells,hz1];omega
  .exact HB (x:=[]) j hj
  .show w.heap.size<=(w.drew.heap.push _).size;rw[Array.size_push];exact Nat.le_succ _
  .show w.heap.size<(w.drew.heap.push _).size;rw[Array.size_push];exact Nat.lt_succ_self _
 .by_cases hroom:s.length+s2.length<=cap
  .have hr:=run_append_room_src (P:=P) w t u ty U i ht hi g 0 s.length cap xv s2.length (gK s2) hsrc hroom (fun j hj=>by
    rw[hs,cell_of_heap hg (by rw[iv]at hj;omega)];rfl) (fun j hj=>by simp[World.frozen?,hg])
   obtain⟨c',s1,s3,s4⟩:=kf g (gK s2) (0+s.length*i.size) w c U (0,0) hg (by rw[iv,hs];omega);obtain⟨f1,f2,f3,f4⟩:=jH g (gK s2) (0+s.length*i.size) w;have hlt:g<w.heap.size:=by
    rcases dQ g w.heap.size with h|h
    .exact h
    .simp[Array.getElem?_eq_none h]at hg
   refine⟨g,cap,_,by simpa using hr,.inr ⟨g,cap,c',bg,s1,ah,hcm,by rw[bS];exact hroom,fun j hj=>?_⟩,⟨f1,f2,f3,ah,fun k _ hk=>jI g _ _ _ k (fun e=>hk (by simp[Value.ownBlock,e]))⟩,.inl rfl,ah⟩;rw[s4,iv,hs];rw[bS]at hj;by_cases hj2:j<s.length
   .rw[aj ah,hc j hj2,cY,ay hj2]
   .rw[ay ah,qE _ _ ah,cY,aj hj2];congr 4;omega
  .have hold:(Builtin.firstCells i.size s.length (.slice (some ⟨g,0,none⟩) s.length cap)).run P w.drew=.ok (gK s).toArray w.drew:=by
    refine run_firstCells_some w.drew i.size s.length _ s.length cap _ (by simp[iv,hs]) (fun j u' hj=>?_);have hj2:j<s.length:=by
     have:=(List.getElem?_eq_some_iff.1 hj).1;rwa [iv]at this
    have hg':w.drew.heap[g]? =some (.cells c U (0,0)):=hg;rw[Addr.uC,cell_of_heap hg' ah,bq,hc j hj2,<-qE s j hj2];simp[List.getD,hj]
   have hr:=run_append_grow_src (P:=P) w t u ty U i _ ht hi hz (some ⟨g,0,none⟩) s.length cap (gK s) hold xv s2.length (gK s2) hsrc ah ah (by rw[hby];exact growslice_fits ah ah);have hge:=grownCap_ge w (s.length+s2.length) cap U;have hcm2:grownCap w (s.length+s2.length) cap U<=maxLen:=grownCap_le_maxLen w (s.length+s2.length) cap U ah;refine⟨w.heap.size,_,_,by simpa using hr,.inr ⟨w.heap.size,_,_,bg,ea w.drew _, ?_,hcm2,by simpa using hge,fun j hj=>?_⟩,⟨rfl,rfl,rfl, ?_,fun k hk _=>kd w.drew _ k hk⟩,.inr (aM _), ?_⟩
   .have hz1:(Value.int IntKind.u8 0).cells.size=1:=rfl;simp only[Array.size_append,List.size_toArray,bS,iv,size_zeroCells,hz1];omega
   .exact HB j hj
   .show w.heap.size<=(w.drew.heap.push _).size;rw[Array.size_push];exact Nat.le_succ _
   .show w.heap.size<(w.drew.heap.push _).size;rw[Array.size_push];exact Nat.lt_succ_self _
def yH {ops:Array Oper}{rest:List Oper}{o:Oper}{a:Act}{Q:Exit->Act->World->Prop}(hgd:o.guard=none)(sl x:Operand)(t u:TypeId)
  (ho:o.op=.call {callee:=.builtin .append,args:=#[sl,x],argTypes:=#[t,u]}) {U:TypeId} {i:TypeInfo} {w:World}
  (ht:P.underlying t=some (.slice U)) (hi:P.info? U=some i) (hz:i.zero=some (.int .u8 0)) (hsz:i.size=1) (hby:i.bytes=1) {v xv:Value} {s s2:List UInt8} (hs:a.eval sl=v) (hx:a.eval x=xv)
  (hv:kS U w v s) (h0:s2≠[]) (hsrc:Go.Src P 1 u xv s2.length (gK s2) w) (hle:s.length+s2.length<=1099511627776)
  (h:∀g' t' w',kS U w' (.slice (some ⟨g',0,none⟩) (s++s2).length t') (s++s2)->w.grownBy w' v.ownBlock->(v.ownBlock=some g'\/w.heap.size<=g')->g'<w'.heap.size->wpList P ops Q rest (a.put o.dst (.slice (some ⟨g',0,none⟩) (s++s2).length t')) w'):wpList P ops Q (o::rest) a w:=by
 refine wpList_plain hgd fun K hK=>?_
 obtain⟨g',t',w',hr,h2,h3,h4,h5⟩:=PB (P:=P) (ty:=o.type) ht hi hz hsz hby hv h0 hsrc hle;unfold Oper.wp execOp;simp only[ho,resolve,invoke,builtin,Sem.run_bind,Sem.run_pure,Result.andThen_ok,List.map_toArray,List.map_cons,List.map_nil,hs,hx,hr];exact hK _ _ (h g' t' w' h2 h3 h4 h5)
def Fm (w:World)(g n:Nat):(w.drew.freeze ⟨g,0,none⟩ n).os=w.os/\(w.drew.freeze ⟨g,0,none⟩ n).tape=w.tape/\(w.drew.freeze ⟨g,0,none⟩ n).output=w.output/\(w.drew.freeze ⟨g,0,none⟩ n).heap.size=w.heap.size/\∀k,k≠g->(w.drew.freeze ⟨g,0,none⟩ n).heap[k]? =w.heap[k]? :=by
 unfold World.freeze;split
 .exact⟨rfl,rfl,rfl,rfl,fun _ _=>rfl⟩
 .refine⟨rfl,rfl,rfl,bg,fun k hk=>?_⟩;simp only[Array.getElem?_modify];rw[aj (fun e=>hk e.symm)];rfl
def qg (b:Nat)(u:Bool)(v:Value)(T:TypeId):Obj:=.cells #[.pointer (if u=true then some ⟨b,0,none⟩else none),v] T (0,0)
variable {J:Ren}
def zj (L:Lays.n240 P J)(X:Builder.X72 P J){b:Nat}{u:Bool}{v:Value}{w:World}(h:w.heap[b]? =some (qg b u v (J.t 72))):
  Calls P (J.f 240) #[.pointer (some ⟨b,0,none⟩)] w fun e w'=>e=.returned (.tuple #[])/\w'.heap[b]? =some (qg b true v (J.t 72))/\w.grownBy w' (some b):=by
 unfold qg at h;cases u with
 |true=>
  refine(Any.Builder_copyCheck_used L X b w (by rw[Lib.cell_of_heap h];rfl)).mono ?_;rintro e w' ⟨rfl,rfl⟩;exact⟨rfl,h,⟨rfl,rfl,rfl,aM _,fun _ _ _=>rfl⟩⟩
 |false=>
  refine(Any.Builder_copyCheck_fresh L X b w (by rw[Lib.cell_of_heap h];rfl) (by simp[World.shape?,h]) (Lib.frozen_of_heap h 0)).mono ?_;rintro e w' ⟨rfl,rfl⟩;exact⟨rfl,by simp[World.setCell,Array.getElem?_modify,h,qg],⟨rfl,rfl,rfl,by simp[World.setCell],fun k _ hk=>Below.heap_setCell _ _ _ _ (fun e=>hk (by simp[e]))⟩⟩
def Cs (T U:TypeId)(b:Nat)(g:Option Nat)(s:List UInt8)(w w':World):Prop:=
 ∃g' t',w'.heap[b]? =some (qg b true (.slice (some ⟨g',0,none⟩) s.length t') T)/\kS U w' (.slice (some ⟨g',0,none⟩) s.length t') s/\(g=some g'\/w.heap.size<=g')/\g'<w'.heap.size/\g'≠b/\
  w'.os=w.os/\w'.tape=w.tape/\w'.output=w.output/\w.heap.size<=w'.heap.size/\∀k,k<w.heap.size->k≠b->some k≠g->w'.heap[k]? =w.heap[k]?
def kS.lK {U:TypeId}{w w':World}{v:Value}{s:List UInt8}(h:kS U w v s)(hk:∀g,v.ownBlock=some g->w'.heap[g]? =w.heap[g]?):kS U w' v s:=by
 rcases h with h|⟨g,t,c,rfl,hg,r⟩
 .exact .inl h
 .exact .inr ⟨g,t,c,rfl,(hk g rfl).trans hg,r⟩
def kS.lt {U:TypeId}{w:World}{v:Value}{s:List UInt8}(h:kS U w v s){g:Nat}(hg:v.ownBlock=some g):g<w.heap.size/\∃c,w.heap[g]? =some (.cells c U (0,0)):=by
 rcases h with⟨rfl,_⟩|⟨g',t,c,rfl,hg',r⟩
 .cases hg
 .simp only[Value.ownBlock,aP]at hg
  grind
set_option maxHeartbeats 2000000 in
set_option maxRecDepth 100000 in
theorem uD (L:Lays.n166 P J)(X:Builder.Extra P J){b:Nat}{u:Bool}{v:Value}{s s2:List UInt8}{w:World}(h:w.heap[b]? =some (qg b u v (J.t 72)))(hv:kS (J.t 5) w v s)(h0:s2≠[])(hm2:s2.length<=maxLen)(hle:s.length+s2.length<=1099511627776):
  Calls P (J.f 166) #[.pointer (some ⟨b,0,none⟩),.string ⟨⟨s2⟩⟩] w fun e w'=>(∃r,e=.returned r)/\Cs (J.t 72) (J.t 5) b v.ownBlock (s++s2) w w':=by
 obtain⟨i0,hi,hz0,hz1,hz2⟩:=info_parts X.infoByte;have mixed:=L.mixed;have t72:=L.t72;have a72:=L.a72;have z72:=L.z72;have v72:=L.v72;have u72:=run_underlying L.t72;have t70:=L.t70;have a70:=L.a70;have z70:=L.z70;have v70:=L.v70;have u70:=run_underlying L.t70;have t37:=L.t37;have a37:=L.a37;have z37:=L.z37;have v37:=L.v37;have u37:=run_underlying L.t37;have t3:=L.t3;have a3:=L.a3;have z3:=L.z3;have v3:=L.v3;have u3:=run_underlying L.t3;have t9:=L.t9;have a9:=L.a9;have z9:=L.z9;have v9:=L.v9;have u9:=run_underlying L.t9;have t4:=L.t4;have a4:=L.a4;have z4:=L.z4;have v4:=L.v4;have u4:=run_underlying L.t4;have t164:=L.t164;have a164:=L.a164;have z164:=L.z164;have v164:=L.v164;have u164:=run_underlying L.t164;have t5:=X.t5;have a5:=X.a5;have z5:=X.z5;have v5:=X.v5;have u5:=run_underlying X.t5;have e240:∀args w,(callFunc (J.f 240) args).run P w=.ok (.enter (J.f 240) args) w:=enters_of L.f240 sG rfl
 have hne:∀g,v.ownBlock=some g->g≠b:=by
  rintro g hg rfl;obtain⟨_,c,hc⟩:=hv.lt hg;rw[h]at hc;simp only[qg,aP,Obj.cells.injEq]at hc;exact X.neB5 hc.2.1
 go_enter L.f166,Body.n166_ntmps J
 go_wp2_with (go_at_fn (J.f 240);refine(zj {L with} X.toX72 h).mono ?_)
 rintro e w1 ⟨rfl,h1,hb1⟩;have hv1:kS (J.t 5) w1 v s:=hv.lK fun g hg=>hb1.block g (hv.lt hg).1 (fun e=>hne g hg (bd e))
 have c0:w1.cell? ⟨b,0,none⟩=some (.pointer (some ⟨b,0,none⟩)):=by rw[Lib.cell_of_heap h1];rfl
 have c1:w1.cell? ⟨b,1,none⟩=some v:=by rw[Lib.cell_of_heap h1];rfl
 have hsrc:Go.Src P 1 (J.t 9) (.string ⟨⟨s2⟩⟩) s2.length (gK s2) w1:=⟨.inr L.t9,fun _=>rfl,firstCells_string _ _,firstCells_string _ _,by rw[iv,Nat.mul_one],wG s2⟩;have key:=fun ops rest o a Q hgd ho hs hx h=>yH (P:=P) (ops:=ops) (rest:=rest) (o:=o) (a:=a) (Q:=Q) hgd (.tmp 12) (.tmp 13) (J.t 37) (J.t 9) ho L.t37 hi hz0 hz1 hz2 (v:=v) (xv:=.string ⟨⟨s2⟩⟩) hs hx hv1 h0 hsrc hle h
 go_wp2_with (at_builtin;refine key _ _ _ _ _ rfl rfl rfl rfl ?_)
 clear key;intro g' t' w2 hown' hgrow hg' hlt';have hlt:b<w1.heap.size:=by
  rcases dQ b w1.heap.size with h'|h'
  .exact h'
  .simp[Array.getElem?_eq_none h']at h1
 have pe:w2.heap[b]? =some (qg b true v (J.t 72)):=by
  rw[hgrow.block b hlt (fun e=>hne b e.symm rfl)];exact h1
 have hgb:g'≠b:=by
  rcases hg' with h'|h'
  .exact hne g' h'
  .omega
 have d0:w2.cell? ⟨b,0,none⟩=some (.pointer (some ⟨b,0,none⟩)):=by rw[Lib.cell_of_heap pe];rfl
 have d1:w2.cell? ⟨b,1,none⟩=some v:=by rw[Lib.cell_of_heap pe];rfl
 have f1:w2.frozen? ⟨b,1,none⟩=false:=Lib.frozen_of_heap pe 1
 go_wp2
 go_ret2
 have hsz:=hb1.size;refine⟨⟨_,rfl⟩, ?_⟩;unfold Cs;simp only[bS]at hown'⊢;refine⟨g',t',by simp[World.setCell,Array.getElem?_modify,pe,qg],hown'.lK fun g hg=>Below.heap_setCell w2 ⟨b,1,none⟩ _ g (fun e=>hgb ((bd hg).trans e)),hg'.imp id (fun h=>ah),by simpa[World.setCell]using hlt',hgb,hgrow.os.trans hb1.os,hgrow.tape.trans hb1.tape,hgrow.output.trans hb1.output,by have:=hgrow.size;simp[World.setCell];omega,fun k hk h1' h2'=>?_⟩;rw[Below.heap_setCell w2 ⟨b,1,none⟩ _ k h1',hgrow.block k ah h2',hb1.block k hk (fun e=>h1' (bd e))]
set_option maxHeartbeats 2000000 in
set_option maxRecDepth 100000 in
theorem yR (L:Lays.n167 P J)(X:Builder.Extra P J){b:Nat}{u:Bool}{v:Value}{s:List UInt8}{c:UInt8}{w:World}(h:w.heap[b]? =some (qg b u v (J.t 72)))(hv:kS (J.t 5) w v s)(hle:s.length+1<=1099511627776):
  Calls P (J.f 167) #[.pointer (some ⟨b,0,none⟩),.int .u8 c.toNat] w fun e w'=>(∃r,e=.returned r)/\Cs (J.t 72) (J.t 5) b v.ownBlock (s++[c]) w w':=by
 obtain⟨i0,hi,hz0,hz1,hz2⟩:=info_parts X.infoByte;have mixed:=L.mixed;have t72:=L.t72;have a72:=L.a72;have z72:=L.z72;have v72:=L.v72;have u72:=run_underlying L.t72;have t70:=L.t70;have a70:=L.a70;have z70:=L.z70;have v70:=L.v70;have u70:=run_underlying L.t70;have t37:=L.t37;have a37:=L.a37;have z37:=L.z37;have v37:=L.v37;have u37:=run_underlying L.t37;have t9:=L.t9;have a9:=L.a9;have z9:=L.z9;have v9:=L.v9;have u9:=run_underlying L.t9;have t4:=L.t4;have a4:=L.a4;have z4:=L.z4;have v4:=L.v4;have u4:=run_underlying L.t4;have t164:=L.t164;have a164:=L.a164;have z164:=L.z164;have v164:=L.v164;have u164:=run_underlying L.t164;have t5:=L.t5;have a5:=L.a5;have z5:=L.z5;have v5:=L.v5;have u5:=run_underlying L.t5;have e240:∀args w,(callFunc (J.f 240) args).run P w=.ok (.enter (J.f 240) args) w:=enters_of L.f240 sG rfl
 have hne:∀g,v.ownBlock=some g->g≠b:=by
  rintro g hg rfl;obtain⟨_,c,hc⟩:=hv.lt hg;rw[h]at hc;simp only[qg,aP,Obj.cells.injEq]at hc;exact X.neB5 hc.2.1
 go_enter L.f167,Body.n167_ntmps J
 go_wp2_with (go_at_fn (J.f 240);refine(zj {L with} X.toX72 h).mono ?_)
 rintro e w1 ⟨rfl,h1,hb1⟩;have hv1:kS (J.t 5) w1 v s:=hv.lK fun g hg=>hb1.block g (hv.lt hg).1 (fun e=>hne g hg (bd e))
 have c0:w1.cell? ⟨b,0,none⟩=some (.pointer (some ⟨b,0,none⟩)):=by rw[Lib.cell_of_heap h1];rfl
 have c1:w1.cell? ⟨b,1,none⟩=some v:=by rw[Lib.cell_of_heap h1];rfl
 have key:=fun ob ops rest o a Q sl x hgd ho hs hx hv2 hsrc h=>yH (P:=P) (w:=w1.alloc ob) (ops:=ops) (rest:=rest) (o:=o) (a:=a) (Q:=Q) hgd sl x (J.t 37) (J.t 37) ho L.t37 hi hz0 hz1 hz2 (v:=v) (xv:=.slice (some ⟨w1.heap.size,0,none⟩) 1 1) (s:=s) (s2:=[c]) hs hx hv2 (List.cons_ne_nil _ _) hsrc hle h
 go_wp2_with (at_builtin;refine key _ _ _ _ _ _ _ _ rfl rfl rfl rfl (hv1.lK fun g hg=>Lib.alloc_old w1 _ g (hv1.lt hg).1) ?hs ?_)
 case hs=>
  refine Go.Src.ofSlice _ L.t37 ⟨w1.heap.size,0,none⟩ 1 1 _ rfl (fun j u hj=>?_) (wG [c])
  match j,hj with
  |0,hj=>simp[gK]at hj;subst hj;simp[Addr.add]
 clear key;intro g' t' w2 hown' hgrow hg' hlt';have hlt:b<w1.heap.size:=by
  rcases dQ b w1.heap.size with h'|h'
  .exact h'
  .simp[Array.getElem?_eq_none h']at h1
 have pe:w2.heap[b]? =some (qg b true v (J.t 72)):=by
  rw[hgrow.block b dH (fun e=>hne b e.symm rfl),Lib.alloc_old w1 _ b hlt];exact h1
 have hgb:g'≠b:=by
  rcases hg' with h'|h'
  .exact hne g' h'
  .omega
 have d0:w2.cell? ⟨b,0,none⟩=some (.pointer (some ⟨b,0,none⟩)):=by rw[Lib.cell_of_heap pe];rfl
 have d1:w2.cell? ⟨b,1,none⟩=some v:=by rw[Lib.cell_of_heap pe];rfl
 have f1:w2.frozen? ⟨b,1,none⟩=false:=Lib.frozen_of_heap pe 1
 go_wp2
 go_ret
 have hsz:=hb1.size;refine⟨⟨_,rfl⟩, ?_⟩;unfold Cs;simp only[bS]at hown'⊢;refine⟨g',t',by simp[World.setCell,Array.getElem?_modify,pe,qg],hown'.lK fun g hg=>Below.heap_setCell w2 ⟨b,1,none⟩ _ g (fun e=>hgb ((bd hg).trans e)),hg'.imp id (fun h=>ah),by simpa[World.setCell]using hlt',hgb,hgrow.os.trans hb1.os,hgrow.tape.trans hb1.tape,hgrow.output.trans hb1.output,by have:=hgrow.size;simp at this;simp[World.setCell];omega,fun k hk h1' h2'=>?_⟩;rw[Below.heap_setCell w2 ⟨b,1,none⟩ _ k h1',hgrow.block k dH h2',Lib.alloc_old w1 _ k ah,hb1.block k hk (fun e=>h1' (bd e))]
set_option maxHeartbeats 1000000 in
set_option maxRecDepth 100000 in
theorem E8 (L:Lays.n169 P J)(X:Builder.Extra P J){b g t:Nat}{u:Bool}{s:List UInt8}{w:World}(h:w.heap[b]? =some (qg b u (.slice (some ⟨g,0,none⟩) s.length t) (J.t 72)))(hv:kS (J.t 5) w (.slice (some ⟨g,0,none⟩) s.length t) s)(h0:s≠[]):
  Calls P (J.f 169) #[.pointer (some ⟨b,0,none⟩)] w fun e w'=>e=.returned (.string ⟨⟨s⟩⟩)/\w'.os=w.os/\w'.tape=w.tape/\w'.output=w.output/\w'.heap.size=w.heap.size/\∀k,k≠g->w'.heap[k]? =w.heap[k]? :=by
 have hl0:s.length≠0:=by simpa using h0
 obtain⟨c,hg,hcs,hcm,hle,hc⟩:∃c,w.heap[g]? =some (.cells c (J.t 5) (0,0))/\c.size=t/\t<=maxLen/\s.length<=t/\∀i,i<s.length->c.getD i undef=.int .u8 (s.getD i 0).toNat:=by
  rcases hv with⟨h1,_⟩|⟨g',t',c,h1,r⟩
  .cases h1
  .simp only[Value.slice.injEq,aP,Addr.mk.injEq]at h1;obtain⟨⟨rfl,_⟩,_,rfl⟩:=h1;exact⟨c,r⟩
 have c1:w.drew.cell? ⟨b,1,none⟩=some (.slice (some ⟨g,0,none⟩) s.length t):=by
  have:w.drew.heap[b]? =some (qg b u (.slice (some ⟨g,0,none⟩) s.length t) (J.t 72)):=h;rw[Lib.cell_of_heap this];rfl
 have hSD:(Builtin.unsafeSliceData_ #[(J.t 37)] (J.t 127) #[.slice (some ⟨g,0,none⟩) s.length t]).run P w.drew=.ok (.pointer (some ⟨g,0,none⟩)) w.drew:=
  Lib.run_unsafeSliceData_row _ _ _ _ _ _ ah
 have hUS:(Builtin.unsafeString_ #[(J.t 127),(J.t 3)] (J.t 9) #[.pointer (some ⟨g,0,none⟩),.int .i64 s.length]).run P w.drew=.ok (.string ⟨s.toArray⟩) (w.drew.freeze ⟨g,0,none⟩ s.length):=by
  refine Lib.run_unsafeString_row w.drew (J.t 127) (J.t 3) (J.t 9) (J.t 5) L.t127 X.cellsByte g c.size (by have hg':w.drew.heap[g]? =some (.cells c (J.t 5) (0,0)):=hg;simp[World.shape?,hg']) s h0 ah (by unfold maxLen at hcm;omega) ?_;intro j x hx;have hj:=(List.getElem?_eq_some_iff.1 hx).1;have hg':w.drew.heap[g]? =some (.cells c (J.t 5) (0,0)):=hg;rw[Addr.uC,cell_of_heap hg' ah,bq,hc j hj];simp[List.getD,hx]
 have mixed:=L.mixed;have t72:=L.t72;have a72:=L.a72;have z72:=L.z72;have v72:=L.v72;have u72:=run_underlying L.t72;have t70:=L.t70;have a70:=L.a70;have z70:=L.z70;have v70:=L.v70;have u70:=run_underlying L.t70;have t37:=L.t37;have a37:=L.a37;have z37:=L.z37;have v37:=L.v37;have u37:=run_underlying L.t37;have t127:=L.t127;have a127:=L.a127;have z127:=L.z127;have v127:=L.v127;have u127:=run_underlying L.t127;have t3:=L.t3;have a3:=L.a3;have z3:=L.z3;have v3:=L.v3;have u3:=run_underlying L.t3;have t9:=L.t9;have a9:=L.a9;have z9:=L.z9;have v9:=L.v9;have u9:=run_underlying L.t9;have t5:=X.t5;have a5:=X.a5;have z5:=X.z5;have v5:=X.v5;have u5:=run_underlying X.t5
 go_enter L.f169,Body.n169_ntmps J
 go_wp2
 go_region_o
 all_goals (go_wp2;go_ret;exact⟨rfl,Fm _ _ _⟩)
end
end
section
open Go.Proofs Go.Shelf Go.RowKit
section
variable [di] {P:Program} {ν:List (Nat×Nat)} {cr:List Nat} {Y:Ctx} {x:X}
def E7 {m:List (Nat×bL)}{l:Nat}{t:List UInt8}{v:Value}(hs:eK ν x (look m))(hb:qo m l t)(hv:RD ν x v (.ptr l 2 0 0)):
  ∃b tot u w,v=.pointer (some ⟨b,0,none⟩)/\x.β l=some (b,0,tot)/\¬x.I b/\x.w.heap[b]? =some (qg b u w di.tB)/\kS di.tU x.w w t/\
   (w.ownBlock=none/\fD m l=m\/∃l2 g t2,w=.slice (some ⟨g,0,none⟩) t.length t2/\x.β l2=some (g,0,t2)/\¬x.I g/\look m l2=some (.row t)/\l2≠l/\fD m l=cA m l2):=by
 cases hv with
 |ptr _ _ _ _ b base tot at_ hβ hat=>
  rcases hb with⟨u,h1,rfl⟩|⟨l2,u,h1,h2⟩
  .obtain⟨o1,rfl,w,o2,_,rfl⟩:=hs.own l _ b base tot h1 hβ;simp only[Nat.zero_mul,Nat.add_zero]at hat;subst hat;exact⟨b,tot,u,_,rfl,hβ,o1,o2,.inl ⟨rfl,rfl⟩,.inl ⟨rfl,by simp only[fD,h1]⟩⟩
  .obtain⟨o1,rfl,w,o2,g,t2,rfl,o3,o4⟩:=hs.own l _ b base tot h1 hβ;simp only[Nat.zero_mul,Nat.add_zero]at hat;subst hat;obtain⟨p1,_,c,p2,p3,p4,p5,p6⟩:=hs.own l2 _ g 0 t2 h2 o4;have hne:l2≠l:=by rintro rfl;rw[h1]at h2;cases h2
   exact⟨b,tot,u,_,rfl,hβ,o1,o2,.inr ⟨g,t2,c,rfl,p2,p3,p4,p5,p6⟩,.inr ⟨l2,g,t2,rfl,o4,p1,h2,hne,by simp only[fD,h1]⟩⟩
def AB {st:St}{l:Nat}{t s:List UInt8}{b tot:Nat}{w:Value}{w':World}(hs:eK ν x (look st.m))(hf:ez st x)(hlive:look st.m l≠none)(hl:l<st.nx)
  (hβ:x.β l=some (b,0,tot)) (hI:¬x.I b)
  (hrow:w.ownBlock=none/\fD st.m l=st.m\/∃l2 g t2,w=.slice (some ⟨g,0,none⟩) t.length t2/\x.β l2=some (g,0,t2)/\¬x.I g/\look st.m l2=some (.row t)/\l2≠l/\fD st.m l=cA st.m l2)
  (hw:Cs di.tB di.tU b w.ownBlock s x.w w'):
  ∃x':X,x'.w=w'/\Step x x'/\eK ν x' (look (oS st.m l st.nx s))/\ez ⟨st.nx+1,oS st.m l st.nx s⟩ x':=by
 obtain⟨g',t',h1,h2,h3,h4,h5,k1,k2,k3,k4,k5⟩:=hw;have hn:=hf.β st.nx (aM _)

 have hg:∀g,w.ownBlock=some g->∃l2 t2,x.β l2=some (g,0,t2)/\¬x.I g/\look st.m l2=some (.row t)/\l2≠l/\fD st.m l=cA st.m l2:=by
  intro g hg;rcases hrow with⟨h,_⟩|⟨l2,g0,t2,rfl,q⟩
  .rw[h]at hg;cases hg
  .obtain rfl:=bd hg;exact⟨l2,t2,q⟩
 have hlook:∀l' blk,l'≠l->look (fD st.m l) l'=some blk->look st.m l'=some blk/\∀g,w.ownBlock=some g->∀p,x.β l'=some p->p.1≠g:=by
  intro l' blk hl' hk;rcases hrow with⟨h,e⟩|⟨l2,g0,t2,rfl,q1,q2,q3,q4,e⟩
  .rw[e]at hk;exact⟨hk,fun g hg=>by rw[h]at hg;cases hg⟩
  .rw[e,fo]at hk;split at hk
   .cases hk
   .rename_i hne;refine⟨hk,fun g hg p hp e=>?_⟩;obtain rfl:=bd hg;obtain⟨b',base',tot'⟩:=p;simp only at e;subst e;exact hne (hs.inj l' l2 _ _ _ _ _ (by rw[hk];simp) (by rw[q3];simp) hp q1)
 have hbg:∀l' p,x.β l'=some p->p.1<x.w.heap.size:=fun l' ⟨b',base',tot'⟩ hp=>hs.ek l' b' base' tot' hp
 have hkeep:∀k,k<x.w.heap.size->k≠b->some k≠w.ownBlock->w'.heap[k]? =x.w.heap[k]? :=k5
 let x':X:=⟨w',x.I,eu x.β st.nx (g',0,t')⟩
 have hst:Step x x':=by
  refine⟨k1,k2,k3,k4,fun _ h=>h,fun k hk=>hkeep k (hs.imm k hk) (fun e=>hI (e▸hk)) (fun e=>?_),fun l' p hp=>?_,fun k hk hn'=>hkeep k hk (fun e=>hn' l _ hβ e.symm) (fun e=>?_),fun _ h=>.inl h,fun l' p hp=>?_⟩
  .obtain⟨l2,t2,q1,q2,_⟩:=hg k e.symm;exact q2 hk
  .have:l'≠st.nx:=fun e=>by rw[e,hn]at hp;cases hp
   simp[x',eu,this,hp]
  .obtain⟨l2,t2,q1,_⟩:=hg k e.symm;exact hn' l2 _ q1 rfl
  .by_cases e1:l'=st.nx
   .simp only[x',eu,e1,aY,aP]at hp;subst hp;rcases h3 with h3|h3
    .obtain⟨l2,t2,q1,_⟩:=hg g' h3;exact .inr (.inr ⟨l2,_,q1,rfl⟩)
    .exact .inr (.inl h3)
   .simp only[x',eu,e1,aS]at hp;exact .inl hp
 have hle:=hst.le;have hlm:∀l',look (oS st.m l st.nx s) l'=if l'=st.nx then some (.row s)else if l'=l then some (.bld (some st.nx) s.length true)else look (fD st.m l) l':=by
  intro l';simp only[oS,look];by_cases e:l'=st.nx
  .rw[ay e.symm,ay e]
  .rw[aj (fun h=>e h.symm),aj e,cE]
 have hfr:∀l' p,l'≠st.nx->x.β l'=some p->l'≠l->look (fD st.m l) l'≠none->p.1≠g':=by
  intro l' p hl' hp hne hk e;cases hq:look (fD st.m l) l' with
  |none=>exact hk hq
  |some blk=>
   rcases h3 with h3|h3
   .exact(hlook l' blk hne hq).2 g' h3 p hp e
   .have:=hbg l' p hp;omega
 refine⟨x',rfl,hst,⟨fun l' blk b' base' tot' e1 e2=>?_,fun l1 l2 b' base1 tot1 base2 tot2 e1 e2 e3 e4=>?_,fun k hk=>iV (hs.imm k hk) k4,fun l' b' base' tot' e=>?_,og hle hs.gd⟩,⟨fun l' hl'=>?_,fun l' hl'=>?_⟩⟩
 .rw[hlm]at e1;by_cases c1:l'=st.nx
  .rw[ay c1]at e1;simp only[x',eu,ay c1,aP,dm]at e2;obtain⟨rfl,rfl,rfl⟩:=e2;obtain rfl:=bd e1;refine⟨fun h=>?_,rfl, ?_⟩
   .rcases h3 with h3|h3
    .obtain⟨l2,t2,_,q2,_⟩:=hg g' h3;exact q2 h
    .have:=hs.imm g' h;omega
   .rcases h2 with⟨h2,_⟩|⟨g2,t2,c,h2,r⟩
    .cases h2
    .simp only[Value.slice.injEq,aP,Addr.mk.injEq]at h2;obtain⟨⟨rfl,_⟩,_,rfl⟩:=h2;exact⟨c,r⟩
  .rw[aj c1]at e1;simp only[x',eu,aj c1]at e2;by_cases c2:l'=l
   .subst c2;rw[ay rfl]at e1;rw[hβ]at e2;simp only[aP,dm]at e2;obtain⟨rfl,rfl,rfl⟩:=e2;obtain rfl:=bd e1;refine⟨hI,rfl,_,h1,g',t',rfl, ?_,by simp[x',eu]⟩;rcases h2 with⟨h2,_⟩|⟨g2,t2,c,h2,_,_,_,r,_⟩
    .cases h2
    .simp only[Value.slice.injEq]at h2;obtain⟨_,_,rfl⟩:=h2;exact r
   .rw[aj c2]at e1;obtain⟨q1,q2⟩:=hlook l' blk c2 e1;obtain⟨o1,o2⟩:=hs.own l' blk b' base' tot' q1 e2;refine⟨o1,o2.mono hle (hkeep b' (hs.ek _ _ _ _ e2) (fun e=>?_) (fun e=>q2 b' e.symm _ e2 rfl))⟩;subst e;exact c2 (hs.inj l' l _ _ _ _ _ (by rw[q1];simp) hlive e2 hβ)
 .rw[hlm]at e1 e2;by_cases c1:l1=st.nx
  .by_cases c2:l2=st.nx
   .rw[c1,c2]
   .exfalso;rw[aj c2]at e2;simp only[x',eu,ay c1,aP,dm]at e3;simp only[x',eu,aj c2]at e4;obtain⟨rfl,_⟩:=e3;by_cases c3:l2=l
    .subst c3;rw[hβ]at e4;simp only[aP,dm]at e4;exact h5 e4.1.symm
    .rw[aj c3]at e2;exact hfr l2 _ c2 e4 c3 e2 rfl
  .rw[aj c1]at e1;simp only[x',eu,aj c1]at e3;by_cases c2:l2=st.nx
   .exfalso;simp only[x',eu,ay c2,aP,dm]at e4;obtain⟨rfl,_⟩:=e4;by_cases c3:l1=l
    .subst c3;rw[hβ]at e3;simp only[aP,dm]at e3;exact h5 e3.1.symm
    .rw[aj c3]at e1;exact hfr l1 _ c1 e3 c3 e1 rfl
   .rw[aj c2]at e2;simp only[x',eu,aj c2]at e4;have live:∀l',(if l'=l then some (bL.bld (some st.nx) s.length true)else look (fD st.m l) l')≠none->look st.m l'≠none:=by
     intro l' h;by_cases c:l'=l
     .rw[c];exact hlive
     .rw[aj c]at h;cases hq:look (fD st.m l) l' with
      |none=>exact absurd hq h
      |some blk=>rw[(hlook l' blk c hq).1];simp
    exact hs.inj l1 l2 b' base1 tot1 base2 tot2 (live l1 e1) (live l2 e2) e3 e4
 .by_cases c1:l'=st.nx
  .simp only[x',eu,ay c1,aP,dm]at e;obtain⟨rfl,_⟩:=e;exact h4
  .simp only[x',eu,aj c1]at e;exact iV (hs.ek _ _ _ _ e) k4
 .have hl':st.nx+1<=l':=hl';simp only[x',eu,aj (show ¬l'=st.nx by omega)];exact hf.β l' ah
 .show l'<st.nx+1;simp only[hlm]at hl';by_cases c1:l'=st.nx
  .omega
  .rw[aj c1]at hl';by_cases c2:l'=l
   .omega
   .rw[aj c2]at hl';cases hq:look (fD st.m l) l' with
    |none=>exact absurd hq hl'
    |some blk=>have:=hf.m l' (by rw[(hlook l' blk c2 hq).1];simp);omega
def qo.live {m:List (Nat×bL)}{l:Nat}{t:List UInt8}(h:qo m l t):look m l≠none:=by
 rcases h with⟨u,h,_⟩|⟨l2,u,h,_⟩<;>rw[h]<;>simp
variable {J:Ren}
def LP {args:Array Value}(h:args.size=2):args=#[args.getD 0 undef,args.getD 1 undef]:=by
 apply Array.ext
 .simpa using h
 .intro i h1 h2
  match i,h1 with
  |0,h1=>simp[Array.getD,h1]
  |1,h1=>simp[Array.getD,h1]
  |i+2,h1=>omega
def S7 {args:Array Value}(h:args.size=1):args=#[args.getD 0 undef]:=by
 apply Array.ext
 .simpa using h
 .intro i h1 h2
  match i,h1 with
  |0,h1=>simp[Array.getD,h1]
  |i+1,h1=>omega
def P7 (hB:di.tB=J.t 72)(hU:di.tU=J.t 5)(L:Lays.n166 P J)(X':Builder.Extra P J)(hen:∀args w,(callFunc (J.f 166) args).run P w=.ok (.enter (J.f 166) args) w):LA P ν Y cr trWS (J.f 166):=by
 rintro ds st K ⟨s,l,t,rfl,hb,hl,h0,hle,hK⟩ hok x args hl2 hargs hs hf;obtain⟨b,tot,u,w,e0,hβ,hI,hh,hv,hrow⟩:=E7 hs hb (hargs 0 bg);have h1:=hargs 1 bg;simp only[List.getD_cons_succ,gB]at h1;obtain⟨e1,hm⟩:=h1.ic;rw[hB]at hh;rw[hU]at hv;refine .inr ⟨J.f 166,args,hen args x.w, ?_⟩;rw[LP (args:=args) (by simpa using hl2),e0,e1];refine(uD L X' hh hv h0 hm hle).mono ?_;rintro e w' ⟨⟨r,rfl⟩,hw⟩;rw[<-hB,<-hU]at hw;obtain⟨x',q1,q2,q3,q4⟩:=AB hs hf hb.live hl hβ hI hrow hw;exact⟨x',q1,.any,_,hK,q2,.any _,q3,q4⟩
def P6 (hB:di.tB=J.t 72)(hU:di.tU=J.t 5)(L:Lays.n167 P J)(X':Builder.Extra P J)(hen:∀args w,(callFunc (J.f 167) args).run P w=.ok (.enter (J.f 167) args) w):LA P ν Y cr trWB (J.f 167):=by
 rintro ds st K ⟨c,l,t,rfl,hb,hl,h0,hle,hK⟩ hok x args hl2 hargs hs hf;obtain⟨b,tot,u,w,e0,hβ,hI,hh,hv,hrow⟩:=E7 hs hb (hargs 0 bg);have h1:=hargs 1 bg;simp only[List.getD_cons_succ,gB]at h1;have e1:=h1.dK;rw[hB]at hh;rw[hU]at hv;refine .inr ⟨J.f 167,args,hen args x.w, ?_⟩;rw[LP (args:=args) (by simpa using hl2),e0,e1];refine(yR L X' hh hv hle).mono ?_;rintro e w' ⟨⟨r,rfl⟩,hw⟩;rw[<-hB,<-hU]at hw;obtain⟨x',q1,q2,q3,q4⟩:=AB hs hf hb.live hl hβ hI hrow hw;exact⟨x',q1,.any,_,hK,q2,.any _,q3,q4⟩
def P5 (hB:di.tB=J.t 72)(hU:di.tU=J.t 5)(L:Lays.n169 P J)(X':Builder.Extra P J)(hen:∀args w,(callFunc (J.f 169) args).run P w=.ok (.enter (J.f 169) args) w):LA P ν Y cr trBS (J.f 169):=by
 rintro ds st K ⟨l,t,rfl,hb,h0,hK⟩ hok x args hl2 hargs hs hf;obtain⟨b,tot,u,w,e0,hβ,hI,hh,hv,hrow⟩:=E7 hs hb (hargs 0 bg);rcases hrow with⟨hn,_⟩|⟨l2,g,t2,rfl,q1,q2,q3,q4,q5⟩
 .exfalso;rcases hv with⟨_,h⟩|⟨g,t',c,rfl,_⟩
  .exact h0 h
  .cases hn
 rw[hB]at hh;rw[hU]at hv;have htm:t.length<=maxLen:=by
  rcases hv with⟨_,rfl⟩|⟨g',t',c,h1,_,_,h4,h5,_⟩
  .exact absurd rfl h0
  .omega
 refine .inr ⟨J.f 169,args,hen args x.w, ?_⟩;rw[S7 (args:=args) (by simpa using hl2),e0];refine(E8 L X' hh hv h0).mono ?_;rintro e w' ⟨rfl,k1,k2,k3,k4,k5⟩;have hkeep:∀k,(∀l' p,look (cA (fD st.m l) l) l'≠none->x.β l'=some p->p.1=k->False)->True:=fun _ _=>trivial
 have hst:Step x ⟨w',x.I,x.β⟩:=⟨k1,k2,k3,Nat.le_of_eq k4.symm,fun _ h=>h,fun k hk=>k5 k (fun e=>q2 (e▸hk)),fun _ _ h=>h,fun k hk hn=>k5 k (fun e=>hn l2 _ q1 e.symm),fun _ h=>.inl h,fun _ _ h=>.inl h⟩;have hlm:∀l',look (cA (fD st.m l) l) l'=if l'=l then none else if l'=l2 then none else look st.m l':=fun l'=>by rw[fo,q5,fo]
 refine⟨⟨w',x.I,x.β⟩,rfl,.str t,_,hK,hst,.str t htm,⟨fun l' blk b' base' tot' e1 e2=>?_,fun l1 l3 b' base1 tot1 base2 tot2 e1 e2 e3 e4=>?_,fun k hk=>by show k<w'.heap.size;rw[k4];exact hs.imm k hk,fun l' b' base' tot' e=>by show b'<w'.heap.size;rw[k4];exact hs.ek _ _ _ _ e,og hst.le hs.gd⟩,⟨hf.β,fun l' hl'=>?_⟩⟩
 .rw[hlm]at e1;split at e1
  .cases e1
  split at e1
  .cases e1
  rename_i c1 c2;obtain⟨o1,o2⟩:=hs.own l' blk b' base' tot' e1 e2;refine⟨o1,o2.mono hst.le (k5 b' (fun e=>c2 ?_))⟩;subst e;exact hs.inj l' l2 _ _ _ _ _ (by rw[e1];simp) (by rw[q3];simp) e2 q1
 .have live:∀l',look (cA (fD st.m l) l) l'≠none->look st.m l'≠none:=by
   intro l' h;rw[hlm]at h;split at h
   .exact absurd rfl h
   split at h
   .exact absurd rfl h
   .exact h
  exact hs.inj l1 l3 b' base1 tot1 base2 tot2 (live l1 e1) (live l3 e2) e3 e4
 .simp only[hlm]at hl';split at hl'
  .exact absurd rfl hl'
  split at hl'
  .exact absurd rfl hl'
  .exact hf.m l' hl'
end
end
section
open Go.Proofs
def Ns:Nat:=2
def uh:Tryz.prog.globalNamed "internal/strconv.uint64pow10" =some Ns:=sG
def wT:Nat:=0
instance seatGlob:di where
 tB:=216
 tU:=5
 gd x:=(x.I 1/\∃m,x.w.cell? ⟨1,0,none⟩=some (.int .i64 m))/\x.I Ns/\Lib.TabIs Tryz.prog x.w "internal/strconv.uint64pow10" .u64 Lib.pow10Tab/\x.I wT/\∀j,j<5->x.w.cell? ⟨wT,j,none⟩=some (RQ j)
 le x x' hI hk h:=by
  obtain⟨⟨h1,m,h2⟩,h3,h4,h5,h6⟩:=h;refine⟨⟨hI _ h1,m,gU (hk _ h1) h2⟩,hI _ h3, ?_,hI _ h5,fun j hj=>gU (hk _ h5) (h6 j hj)⟩;unfold Lib.TabIs World.var? at h4⊢;rw[uh]at h4⊢;simp only[Option.bind_some]at h4⊢;rw[hk _ h3];exact h4
 gz g:=g=wT
 gzr x g h hg j hj:=by subst hg;exact h.2.2.2.2 j hj
def zn {fid:Nat}{x:X}{args:Array Value}{d:D}(hn:(Tryz.prog.funcs[fid]?).map (fun f=>f.name== "runtime.NumGoroutine" ||!f.body.isSome)=some false)
  (himm:∀b,x.I b->b<x.w.heap.size)
  (hc:Calls Tryz.prog fid args x.w fun e w'=>∃v,e=.returned v/\fU x.w w'/\∃I:Nat->Prop,(∀b,x.I b->I b)/\(∀b,I b->x.I b\/x.w.heap.size<=b/\b<w'.heap.size)/\RD uP ⟨w',I,x.β⟩ v d):
  iI Tryz.prog x (fun v x'=>lE x x'/\RD uP x' v d) ((callFunc fid args).run Tryz.prog x.w):=by
 cases h:Tryz.prog.funcs[fid]? with
 |none=>rw[h]at hn;cases hn
 |some fn=>
  rw[h]at hn;have h2:(fn.name== "runtime.NumGoroutine" ||!fn.body.isSome)=false:=bd hn;rw[gA,dS]at h2;refine .inr ⟨fid,args,fY h h2.1 h2.2 args x.w,Calls.mono hc fun e w' he=>?_⟩;obtain⟨v,rfl,hg,I,h3,h4,hr⟩:=he;refine⟨⟨w',I,x.β⟩,rfl,⟨hg,h3,fun b hb=>(h4 b hb).imp id And.left,fun b hb=>?_,rfl⟩,hr⟩;rcases h4 b hb with h5|h5
  .exact iV (himm b h5) hg.size
  .exact h5.2
def Fp (w:World):∀n,fU w (w.drewN n)
 |n=>⟨rfl,rfl,rfl,aM _,fun _ _=>rfl⟩
def lv {fid:Nat}{x:X}{args:Array Value}{d:D}{v:Value}(hn:(Tryz.prog.funcs[fid]?).map (fun f=>f.name== "runtime.NumGoroutine" ||!f.body.isSome)=some false)
  (himm:∀b,x.I b->b<x.w.heap.size) (hc:Calls Tryz.prog fid args x.w fun e w'=>e=.returned v/\fU x.w w') (hr:∀x',RD uP x' v d):
  iI Tryz.prog x (fun v x'=>lE x x'/\RD uP x' v d) ((callFunc fid args).run Tryz.prog x.w):=
 zn hn himm (Calls.mono hc fun e w' ⟨h1,h2⟩=>⟨v,h1,h2,x.I,fun _ h=>h,fun _ h=>.inl h,hr _⟩)
def jg {x:X}{v:Value}{s:aU}(h:RD uP x v (.str s)):v=.string ⟨⟨s⟩⟩/\s.length<=maxLen:=by
 cases h with
 |str s h=>exact⟨rfl,h⟩
def Qa {x:X}{v:Value}{k:IntKind}{n:Int}(h:RD uP x v (.int k n)):v=.int k n:=by
 cases h with
 |int k n=>rfl
def zg {args:Array Value}(h:args.size=2):args=#[args.getD 0 undef,args.getD 1 undef]:=by
 obtain⟨l⟩:=args
 match l,h with
 |[a,b],_=>rfl
def Zl {args:Array Value}(h:args.size=1):args=#[args.getD 0 undef]:=by
 obtain⟨l⟩:=args
 match l,h with
 |[a],_=>rfl
def QF {x:X}{a b:Value}{d e:D}(h1:RD uP x a d)(h2:RD uP x b e):RD uP x (.tuple #[a,b]) (.tup [d,e]):=by
 refine .tup _ _ rfl fun i hi=>?_
 match i,hi with
 |0,_=>exact h1
 |1,_=>exact h2
def QG {x:X}{a b c:Value}{d e f:D}(h1:RD uP x a d)(h2:RD uP x b e)(h3:RD uP x c f):RD uP x (.tuple #[a,b,c]) (.tup [d,e,f]):=by
 refine .tup _ _ rfl fun i hi=>?_
 match i,hi with
 |0,_=>exact h1
 |1,_=>exact h2
 |2,_=>exact h3
def tz {x:X}(s:aU)(h:s.length<=4294967296):RD uP x (.string ⟨s.toArray⟩) (.str s):=.str s (by simp only[maxLen];omega)
def JO (s:aU)(b:UInt8):(qh s b).2.1.length<=s.length:=by
 unfold qh;split<;>simp
def E487:Ow 218 487:=by
 refine bz rfl ?_;rintro s b hp hok x args hl hargs hnl himm ⟨⟨_,m,hm⟩,_⟩;obtain⟨h0,hs⟩:=jg (hargs 0 bg);obtain⟨h1,_⟩:=jg (hargs 1 bg);rw[zg hl,h0,h1];refine lv sG himm (Calls.mono (Tryz.strings_Cut ⟨⟨s⟩⟩ ⟨⟨[b]⟩⟩ m x.w (by show s.length<_;omega) hm) fun e w' ⟨h1,n,h2⟩=>⟨h1,h2▸Fp _ n⟩) (fun x'=>?_);have hc:Lib.cut (⟨⟨s⟩⟩:ByteArray).data.toList (⟨⟨[b]⟩⟩:ByteArray).data.toList=qh s b:=Td s b;rw[hc];have:=(L1 s b).1;have:=JO s b;exact QG (tz _ ah) (tz _ ah) (.bool _)
def E254:Ow 217 254:=by
 refine bz rfl ?_;rintro s p hp hp2 hok x args hl hargs hnl himm _;obtain⟨h0,hs⟩:=jg (hargs 0 bg);obtain⟨h1,_⟩:=jg (hargs 1 bg);rw[zg hl,h0,h1];refine lv sG himm (Calls.mono (Tryz.strings_CutPrefix ⟨⟨s⟩⟩ ⟨⟨p⟩⟩ x.w) fun e w' ⟨h1,h2⟩=>⟨h1,h2▸fU.refl _⟩) (fun x'=>?_);have hc:(Lib.trimPrefix s p,Lib.hasPrefix s p)=nL s p:=JP s p;have:=Fg s p;rw[<-hc]at this⊢;have h9:(Lib.trimPrefix s p).length<=s.length:=this;exact QF (tz (Lib.trimPrefix s p) ah) (.bool _)
def E336:Ow 221 336:=by
 refine bz rfl ?_;rintro n hp hok x args hl hargs hnl himm ⟨_,_,ht,_⟩;have h0:=Qa (hargs 0 bg);rw[Zl hl,h0];refine lv sG himm (Calls.mono (Tryz.strconv_Itoa n ah ah x.w ht) fun e w' ⟨h1,k,os,h2⟩=>⟨h1, ?_⟩) (fun x'=>?_)
 .subst h2;refine⟨rfl,rfl,rfl,by simp[Sort.grow],fun b hb=>?_⟩;show(x.w.heap++os)[b]? =x.w.heap[b]?;rw[Array.getElem?_append,ay hb]
 .rw[Qe hp.1];have:=gh 4 n.toNat ah ah;exact tz _ ah
def Gz {fid:Nat}{x:X}{args:Array Value}{ts:List ByteArray}{cap:Nat}{ty:TypeId}{L:List aU}(hn:(Tryz.prog.funcs[fid]?).map (fun f=>f.name== "runtime.NumGoroutine" ||!f.body.isSome)=some false)(himm:∀b,x.I b->b<x.w.heap.size)
  (hL:ts.map (fun t=>t.data.toList)=L) (hcap:ts.length<=cap) (hm:cap<=maxLen) (hs:∀t∈L,t.length<=maxLen)
  (hc:Calls Tryz.prog fid args x.w fun e w'=>e=.returned (.slice (some ⟨x.w.heap.size,0,none⟩) ts.length cap)/\w'=x.w.alloc (.cells (Lib.cellsOf ts cap) ty)):
  iI Tryz.prog x (fun v x'=>lE x x'/\RD uP x' v (.sl 1 (L.map D.str))) ((callFunc fid args).run Tryz.prog x.w):=by
 refine zn hn himm (Calls.mono hc fun e w' ⟨h1,h2⟩=>?_);subst h2;refine⟨_,h1,fU.alloc _ _,fun q=>x.I q\/q=x.w.heap.size,fun _ h=>.inl h,fun q hq=>hq.imp id fun h=>⟨ah,by rw[h];show _<(x.w.heap.push _).size;simp⟩, ?_⟩;have hsl:L.length=ts.length:=by rw[<-hL];simp
 have hget:∀i,i<ts.length->(L.map D.str).getD i .any=.str (ts.getD i default).data.toList:=fun i hi=>by
  rw[<-hL];simp[hi]
 refine .sl _ x.w.heap.size 0 ts.length cap 1 _ (fun i _=>.string (ts.getD i default)) (by simp[hsl]) (.inr ⟨rfl,.inr rfl⟩) hcap hm (fun i hi=>by rw[hget i hi];rfl) (fun i hi=>by rw[hget i hi];rfl) (fun i j hi hj=>?_) (fun i j hi hj=>rfl) (fun i j hi hj=>?_)
 .obtain rfl:j=0:=ah;have:=ea x.w (.cells (Lib.cellsOf ts cap) ty);refine(cell_of_heap (c:=Lib.cellsOf ts cap) (T:=ty) (fr:=(0,0)) this (by rw[Lib.cellsOf_size hcap];omega)).trans ?_;have hi2:i<(ts.map Value.string).length:=by simpa using hi
  simp only[Lib.cellsOf];simp[hi,List.getElem?_append_left hi2]
 .obtain rfl:j=0:=ah;rw[hget i hi];show RD uP _ (.string (ts.getD i default)) (.str (ts.getD i default).data.toList);generalize hq:ts.getD i default=q;have hmem:q.data.toList∈L:=by
   rw[<-hL];refine fF.2 ⟨q, ?_,rfl⟩;rw[<-hq];simp[hi]
  have:=hs _ hmem;obtain⟨⟨ql⟩⟩:=q;exact .str ql this
def Am {x:X}{s p:aU}{m:Int}{L:List aU}(hL:∀ts,ts=Lib.splitB ⟨⟨p⟩⟩ 0 (Lib.countB ⟨⟨s⟩⟩ ⟨⟨p⟩⟩) ⟨⟨s⟩⟩->ts.map (fun t=>t.data.toList)=L)(himm:∀b,x.I b->b<x.w.heap.size)(h1:1<=p.length)(hs:s.length<=1048576)(hl:L.length<=1048577)(hb:∀t∈L,t.length<=1048576)
  (hm:x.w.cell? ⟨1,0,none⟩=some (.int .i64 m)):iI Tryz.prog x (fun v x'=>lE x x'/\RD uP x' v (.sl 1 (L.map D.str))) ((callFunc 213 #[.string ⟨⟨s⟩⟩,.string ⟨⟨p⟩⟩]).run Tryz.prog x.w):=by
 have h2:1<=(⟨⟨p⟩⟩:ByteArray).size:=h1;have hlen:=Lib.splitB_all ⟨⟨p⟩⟩ h2 0 _ (⟨⟨s⟩⟩:ByteArray) rfl;have hc:=Tryz.strings_Split ⟨⟨s⟩⟩ ⟨⟨p⟩⟩ m x.w (by show s.length<_;omega) hm h2;rw[<-hlen,<-Lib.cellsOf_full]at hc;have hL2:=hL _ rfl;have hle:(Lib.splitB ⟨⟨p⟩⟩ 0 (Lib.countB ⟨⟨s⟩⟩ ⟨⟨p⟩⟩) ⟨⟨s⟩⟩).length<=maxLen:=by
  have:L.length=(Lib.splitB ⟨⟨p⟩⟩ 0 (Lib.countB ⟨⟨s⟩⟩ ⟨⟨p⟩⟩) ⟨⟨s⟩⟩).length:=by rw[<-hL2];simp
  simp only[maxLen];omega
 exact Gz sG himm hL2 (aM _) hle (fun t ht=>by have:=hb t ht;simp only[maxLen];omega) hc
def tI:∀(s cur:aU),(iD s cur).length<=s.length+1/\∀t∈iD s cur,t.length<=cur.length+s.length
 |[],cur=>by simp[iD]
 |[c],cur=>by simp[iD]
 |c::d::r,cur=>by
  unfold iD;split
  .obtain⟨h1,h2⟩:=tI r [];refine⟨by simp only[aT];omega,fun t ht=>?_⟩;rcases cM.1 ht with rfl|ht
   .omega
   .have:=h2 t ht;simp only[aT,aX]at this⊢;omega
  .obtain⟨h1,h2⟩:=tI (d::r) (cur++[c]);refine⟨by simp only[aT]at h1⊢;omega,fun t ht=>?_⟩;have:=h2 t ht;simp only[bS,aT,aX]at this⊢;omega
def E124:Ow 213 124:=by
 refine bz rfl ⟨?_, ?_⟩
 .rintro s b hp hok x args hl hargs hnl himm ⟨⟨_,m,hm⟩,_⟩;obtain⟨h0,hs⟩:=jg (hargs 0 bg);obtain⟨h1,_⟩:=jg (hargs 1 bg);rw[zg hl,h0,h1];have:=n8 s b.toNat;exact Am (fun ts e=>by rw[e];exact KW b _ (⟨⟨s⟩⟩:ByteArray) rfl) himm (aM 1) hp ah (fun t ht=>eP (Gy s b.toNat ht) hp) hm
 .rintro s hp hok x args hl hargs hnl himm ⟨⟨_,m,hm⟩,_⟩;obtain⟨h0,hs⟩:=jg (hargs 0 bg);obtain⟨h1,_⟩:=jg (hargs 1 bg);rw[zg hl,h0,h1];obtain⟨q1,q2⟩:=tI s [];exact Am (fun ts e=>by rw[e];exact KX _ (⟨⟨s⟩⟩:ByteArray) rfl) himm bj hp ah (fun t ht=>by have:=q2 t ht;simp only[aX]at this;omega) hm
def E683:Ow 232 683:=by
 refine bz rfl ?_;rintro s b rfl hp hok x args hl hargs hnl himm _;obtain⟨h0,hs⟩:=jg (hargs 0 bg);obtain⟨h1,_⟩:=jg (hargs 1 bg);rw[zg hl,h0,h1];refine lv sG himm (Calls.mono (Tryz.strings_Trim_one ⟨⟨s⟩⟩ 32 bj x.w (by show s.length<=_;omega)) fun e w' ⟨h1,h2⟩=>⟨h1, ?_⟩) (fun x'=>?_)
 .rcases h2 with rfl|rfl
  .exact fU.refl _
  .exact⟨rfl,rfl,rfl,aM _,fun _ _=>rfl⟩
 .have:Lib.trimB (⟨⟨s⟩⟩:ByteArray).data.toList 32=wE s:=LS s;rw[this];have hb:(wE s).length<=s.length:=by
   unfold wE;have h1:=sL s;have h2:=sL (tP s).reverse;simp only[List.length_reverse]at h2⊢;omega
  exact tz _ ah
def E489:Ow 198 489:=uQ rfl fun ds st K h hok=>P7 rfl rfl Tryz.G2 Tryz.Ta (Go.Proofs.enters_of Tryz.G2.f166 sG rfl) ds st K h hok
def E664:Ow 199 664:=uQ rfl fun ds st K h hok=>P6 rfl rfl Tryz.G3 Tryz.Ta (Go.Proofs.enters_of Tryz.G3.f167 sG rfl) ds st K h hok
def E452:Ow 180 452:=uQ rfl fun ds st K h hok=>P5 rfl rfl Tryz.G4 Tryz.Ta (Go.Proofs.enters_of Tryz.G4.f169 sG rfl) ds st K h hok
def xg (sep:aU)(B:Nat):∀l:List aU,(∀t∈l,t.length<=B)->(cL sep l).length<=l.length*(B+sep.length)
 |[],_=>by simp[cL]
 |[t],h=>by have:=h t (.head _);simp only[cL,aT,aX];omega
 |t::u::r,h=>by
  have h1:=h t (.head _);have h2:=xg sep B (u::r) fun x hx=>h x (.tail _ hx)
  rw[qP _ _ _ bg];rw[aT,Nat.succ_mul];simp only[bS];omega
def E242:Ow 179 242:=by
 refine bz rfl ?_;rintro l sep hp1 hp2 hp3 hok x args hl hargs hnl himm _;have h0:=hargs 0 bg;obtain⟨h1,_⟩:=jg (hargs 1 bg);rw[zg hl,h1];have hj:=xg sep 2097200 l hp3;have hj2:=fg (2097200+sep.length) hp1;have hj3:1048600*(2097200+sep.length)<=140737488355328:=by
  have:=Nat.mul_le_mul_left 1048600 (show 2097200+sep.length<=2097204 by omega);omega
 have hjm:(cL sep l).length<=140737488355328:=ah;simp only[gB]at h0;generalize args.getD 0 undef=v0 at h0⊢;cases h0 with
 |sl a b off len cap k es c hlen ha hcap hm hk hn hc h1 h=>
  simp only[bc]at hlen;subst hlen;rcases ha with he|⟨rfl,hI⟩
  .have hnil:l=[]:=by simpa using he
   subst hnil;refine lv sG himm (Calls.mono (Tryz.strings_Join_none a cap ⟨⟨sep⟩⟩ x.w) fun e w' ⟨h1,h2⟩=>⟨h1,h2▸fU.refl _⟩) (fun x'=>?_);exact tz [] bg
  .have hcell:∀i,(hi:i<l.length)->x.w.cell? ⟨b,off+i,none⟩=some (.string ⟨⟨l[i]⟩⟩):=fun i hi=>by
    have q1:=hc i 0 hi ah;have q2:=h i 0 hi ah;have e:((l.map D.str).getD i .any).cells.getD 0 .any=.str l[i]:=by simp[hi,D.cells]
    rw[e]at q2;rw[(jg q2).1]at q1;simpa using q1
   have e2:(l.map fun t=>(⟨⟨t⟩⟩:ByteArray)).map (fun t=>t.data.toList)=l:=by rw[List.map_map];exact List.map_id l
   have hjl:Lib.join ((l.map fun t=>(⟨⟨t⟩⟩:ByteArray)).map (fun t=>t.data.toList)) (⟨⟨sep⟩⟩:ByteArray).data.toList=cL sep l:=by rw[e2];exact(C2 sep l).symm
   have key:=Tryz.strings_Join b off cap (l.map fun t=>⟨⟨t⟩⟩) ⟨⟨sep⟩⟩ x.w (fun j y hy=>by
    rw[List.getElem?_map,cS]at hy;obtain⟨t,ht,rfl⟩:=hy;obtain⟨hlt,rfl⟩:=List.getElem?_eq_some_iff.1 ht;exact hcell j hlt) (himm b hI) dH (by simpa using hcap) (by rw[hjl];exact hjm)
   rw[hjl,bc]at key;refine lv sG himm (Calls.mono key fun e w' ⟨h1,h2⟩=>⟨h1,h2.os,h2.tape,h2.output,h2.size,h2.block⟩) (fun x'=>?_);exact .str _ (by simp only[maxLen];omega)
end
def hv (c:UInt8):Nat:=if cn c.toNat=true then c.toNat-48 else c.toNat-87
def mJ (s:aU):Nat:=s.foldl (fun n c=>n*16+hv c) 0
def cU.wf (x:cU):Prop:=0<=x.sum/\x.sum<18446744073709551616
def gT.wf (l:gT):Prop:=∀x∈l.lines,x.wf
end Go.Abs
