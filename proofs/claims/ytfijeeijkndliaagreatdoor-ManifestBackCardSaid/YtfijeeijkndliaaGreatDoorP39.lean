/- A part of the proofs. -/
import Derived.KernelRfl
import Derived.Shelf.Strings.Builder2
import Derived.Test.YtfijeeijkndliaaGreatDoorProg
import Derived.WalkKit
import Derived.WideMake
import Derived.Test.YtfijeeijkndliaaGreatDoorP38
import Derived.Test.YtfijeeijkndliaaGreatDoorP08
set_option linter.all false
set_option maxRecDepth 60000
set_option maxHeartbeats 2000000
section
namespace Go.Proofs
open Go.Shelf
def Tryz.sO:Go.Shelf.Ren:=⟨fun|166=>71|167=>157|169=>72|240=>132|276=>185|n=>n,fun|70=>127|9=>9|0=>0|72=>130|37=>128|3=>3|5=>5|4=>4|20=>20|75=>133|80=>136|164=>219|127=>187|n=>n,fun|n=>n⟩
def Tryz.l9:Go.Proofs.Lays.n166 Tryz.prog Tryz.sO:={
 mixed:=by kernel_rfl
 f166:=Tryz.func71.trans (congrArg some (by kernel_rfl))
 f240:=Tryz.func132.trans (congrArg some (by kernel_rfl))
 f276:=Tryz.func185.trans (congrArg some (by kernel_rfl))
 t0:=Tryz.underlying0
 a0:=Tryz.isAgg0
 z0:=Tryz.sizeOf0
 v0:=Tryz.zeroValue0
 t3:=Tryz.underlying3
 a3:=Tryz.isAgg3
 z3:=Tryz.sizeOf3
 v3:=Tryz.zeroValue3
 t4:=Tryz.underlying4
 a4:=Tryz.isAgg4
 z4:=Tryz.sizeOf4
 v4:=Tryz.zeroValue4
 t9:=Tryz.underlying9
 a9:=Tryz.isAgg9
 z9:=Tryz.sizeOf9
 v9:=Tryz.zeroValue9
 t20:=Tryz.underlying20
 a20:=Tryz.isAgg20
 z20:=Tryz.sizeOf20
 v20:=Tryz.zeroValue20
 t37:=Tryz.underlying128
 a37:=Tryz.isAgg128
 z37:=Tryz.sizeOf128
 v37:=Tryz.zeroValue128
 t70:=Tryz.underlying127
 a70:=Tryz.isAgg127
 z70:=Tryz.sizeOf127
 v70:=Tryz.zeroValue127
 t72:=Tryz.underlying130
 a72:=Tryz.isAgg130
 z72:=Tryz.sizeOf130
 v72:=Tryz.zeroValue130
 t75:=Tryz.underlying133
 a75:=Tryz.isAgg133
 z75:=Tryz.sizeOf133
 v75:=Tryz.zeroValue133
 t164:=Tryz.underlying219
 a164:=Tryz.isAgg219
 z164:=Tryz.sizeOf219
 v164:=Tryz.zeroValue219}
def Tryz.ma:Go.Proofs.Lays.n167 Tryz.prog Tryz.sO:={
 mixed:=by kernel_rfl
 f167:=Tryz.func157.trans (congrArg some (by kernel_rfl))
 f240:=Tryz.func132.trans (congrArg some (by kernel_rfl))
 f276:=Tryz.func185.trans (congrArg some (by kernel_rfl))
 t0:=Tryz.underlying0
 a0:=Tryz.isAgg0
 z0:=Tryz.sizeOf0
 v0:=Tryz.zeroValue0
 t4:=Tryz.underlying4
 a4:=Tryz.isAgg4
 z4:=Tryz.sizeOf4
 v4:=Tryz.zeroValue4
 t5:=Tryz.underlying5
 a5:=Tryz.isAgg5
 z5:=Tryz.sizeOf5
 v5:=Tryz.zeroValue5
 t9:=Tryz.underlying9
 a9:=Tryz.isAgg9
 z9:=Tryz.sizeOf9
 v9:=Tryz.zeroValue9
 t20:=Tryz.underlying20
 a20:=Tryz.isAgg20
 z20:=Tryz.sizeOf20
 v20:=Tryz.zeroValue20
 t37:=Tryz.underlying128
 a37:=Tryz.isAgg128
 z37:=Tryz.sizeOf128
 v37:=Tryz.zeroValue128
 t70:=Tryz.underlying127
 a70:=Tryz.isAgg127
 z70:=Tryz.sizeOf127
 v70:=Tryz.zeroValue127
 t72:=Tryz.underlying130
 a72:=Tryz.isAgg130
 z72:=Tryz.sizeOf130
 v72:=Tryz.zeroValue130
 t75:=Tryz.underlying133
 a75:=Tryz.isAgg133
 z75:=Tryz.sizeOf133
 v75:=Tryz.zeroValue133
 t164:=Tryz.underlying219
 a164:=Tryz.isAgg219
 z164:=Tryz.sizeOf219
 v164:=Tryz.zeroValue219}
def Tryz.mb:Go.Proofs.Lays.n169 Tryz.prog Tryz.sO:={
 mixed:=by kernel_rfl
 f169:=Tryz.func72.trans (congrArg some (by kernel_rfl))
 t0:=Tryz.underlying0
 a0:=Tryz.isAgg0
 z0:=Tryz.sizeOf0
 v0:=Tryz.zeroValue0
 t3:=Tryz.underlying3
 a3:=Tryz.isAgg3
 z3:=Tryz.sizeOf3
 v3:=Tryz.zeroValue3
 t9:=Tryz.underlying9
 a9:=Tryz.isAgg9
 z9:=Tryz.sizeOf9
 v9:=Tryz.zeroValue9
 t37:=Tryz.underlying128
 a37:=Tryz.isAgg128
 z37:=Tryz.sizeOf128
 v37:=Tryz.zeroValue128
 t70:=Tryz.underlying127
 a70:=Tryz.isAgg127
 z70:=Tryz.sizeOf127
 v70:=Tryz.zeroValue127
 t72:=Tryz.underlying130
 a72:=Tryz.isAgg130
 z72:=Tryz.sizeOf130
 v72:=Tryz.zeroValue130
 t127:=Tryz.underlying187
 a127:=Tryz.isAgg187
 z127:=Tryz.sizeOf187
 v127:=Tryz.zeroValue187}
def Tryz.xu:Builder.Extra Tryz.prog Tryz.sO:={
 sizeBuilder:=by kernel_rfl
 liesBuilder:=by kernel_rfl
 t5:=Tryz.underlying5
 a5:=Tryz.isAgg5
 z5:=Tryz.sizeOf5
 v5:=Tryz.zeroValue5
 infoByte:=by kernel_rfl
 cellsByte:=by kernel_rfl
 sizeByte:=by kernel_rfl
 neB5:=by decide}
end Go.Proofs
end
namespace Go.Abs
section
open Go.Proofs
def qF:Nat:=3
def gC:Tryz.prog.globalNamed "internal/strconv.uint64pow10" =some qF:=c8
instance Ga:df where
 tB:=130
 tU:=5
 gd x:=(x.I 0/\∃m,x.w.cell? ⟨0,0,none⟩=some (.int .i64 m))/\x.I qF/\Lib.TabIs Tryz.prog x.w "internal/strconv.uint64pow10" .u64 Lib.pow10Tab
 le x x' hI hk h:=by
  obtain⟨⟨h1,m,h2⟩,h3,h4⟩:=h;refine⟨⟨hI _ h1,m,im (hk _ h1) h2⟩,hI _ h3, ?_⟩;unfold Lib.TabIs World.var? at h4⊢;rw[gC]at h4⊢;simp only[Option.bind_some]at h4⊢;rw[hk _ h3];exact h4
def eR {fid:Nat}{x:X}{args:Array Value}{d:D}(hn:(Tryz.prog.funcs[fid]?).map (fun f=>f.name== "runtime.NumGoroutine" ||!f.body.isSome)=some false)
  (himm:∀b,x.I b->b<x.w.heap.size)
  (hc:Calls Tryz.prog fid args x.w fun e w'=>∃v,e=.returned v/\dR x.w w'/\∃I:Nat->Prop,(∀b,x.I b->I b)/\(∀b,I b->x.I b\/x.w.heap.size<=b/\b<w'.heap.size)/\RD fB ⟨w',I,x.β⟩ v d):
  iu Tryz.prog x (fun v x'=>gW x x'/\RD fB x' v d) ((callFunc fid args).run Tryz.prog x.w):=by
 cases h:Tryz.prog.funcs[fid]? with
 |none=>rw[h]at hn;cases hn
 |some fn=>
  rw[h]at hn;have h2:(fn.name== "runtime.NumGoroutine" ||!fn.body.isSome)=false:=bQ hn;rw[dt,cq]at h2;refine .inr ⟨fid,args,gx h h2.1 h2.2 args x.w,Calls.mono hc fun e w' he=>?_⟩;obtain⟨v,rfl,hg,I,h3,h4,hr⟩:=he;refine⟨⟨w',I,x.β⟩,rfl,⟨hg,h3,fun b hb=>(h4 b hb).imp id And.left,fun b hb=>?_,rfl⟩,hr⟩;rcases h4 b hb with h5|h5
  .exact cz (himm b h5) hg.size
  .exact h5.2
def lB (w:World):∀n,dR w (w.drewN n)
 |n=>⟨rfl,rfl,rfl,aH _,fun _ _=>rfl⟩
def cx {fid:Nat}{x:X}{args:Array Value}{d:D}{v:Value}(hn:(Tryz.prog.funcs[fid]?).map (fun f=>f.name== "runtime.NumGoroutine" ||!f.body.isSome)=some false)
  (himm:∀b,x.I b->b<x.w.heap.size) (hc:Calls Tryz.prog fid args x.w fun e w'=>e=.returned v/\dR x.w w') (hr:∀x',RD fB x' v d):
  iu Tryz.prog x (fun v x'=>gW x x'/\RD fB x' v d) ((callFunc fid args).run Tryz.prog x.w):=
 eR hn himm (Calls.mono hc fun e w' ⟨h1,h2⟩=>⟨v,h1,h2,x.I,fun _ h=>h,fun _ h=>.inl h,hr _⟩)
def bn {x:X}{v:Value}{s:av}(h:RD fB x v (.str s)):v=.string ⟨⟨s⟩⟩/\s.length<=maxLen:=by
 cases h with
 |str s h=>exact⟨rfl,h⟩
def gO {x:X}{v:Value}{k:IntKind}{n:Int}(h:RD fB x v (.int k n)):v=.int k n:=by
 cases h with
 |int k n=>rfl
def gw {args:Array Value}(h:args.size=2):args=#[args.getD 0 undef,args.getD 1 undef]:=by
 obtain⟨l⟩:=args
 match l,h with
 |[a,b],_=>rfl
def Ey {args:Array Value}(h:args.size=3):args=#[args.getD 0 undef,args.getD 1 undef,args.getD 2 undef]:=by
 obtain⟨l⟩:=args
 match l,h with
 |[a,b,c],_=>rfl
def ua {args:Array Value}(h:args.size=1):args=#[args.getD 0 undef]:=by
 obtain⟨l⟩:=args
 match l,h with
 |[a],_=>rfl
def Og:Ow 74 491:=by
 refine aA rfl ?_;rintro s b hp hok x args hl hargs hnl himm ⟨⟨_,m,hm⟩,_⟩;obtain⟨h0,hs⟩:=bn (hargs 0 aI);obtain⟨h1,_⟩:=bn (hargs 1 aI);rw[gw hl,h0,h1];refine cx c8 himm (Calls.mono (Tryz.strings_Contains ⟨⟨s⟩⟩ ⟨⟨[b]⟩⟩ m x.w (by show s.length<_;omega) hm) fun e w' ⟨h1,h2⟩=>⟨h1,h2▸dR.refl _⟩) (fun x'=>?_);show RD fB x' (.bool (Lib.contains s [b])) _;rw[contains_eq];exact .bool _
def mB {x:X}{a b:Value}{d e:D}(h1:RD fB x a d)(h2:RD fB x b e):RD fB x (.tuple #[a,b]) (.tup [d,e]):=by
 refine .tup _ _ rfl fun i hi=>?_
 match i,hi with
 |0,_=>exact h1
 |1,_=>exact h2
def tm {x:X}{a b c:Value}{d e f:D}(h1:RD fB x a d)(h2:RD fB x b e)(h3:RD fB x c f):RD fB x (.tuple #[a,b,c]) (.tup [d,e,f]):=by
 refine .tup _ _ rfl fun i hi=>?_
 match i,hi with
 |0,_=>exact h1
 |1,_=>exact h2
 |2,_=>exact h3
def fu {x:X}(s:av)(h:s.length<=4294967296):RD fB x (.string ⟨s.toArray⟩) (.str s):=.str s (by simp only[maxLen];omega)
def nk (s:av)(b:UInt8):(gT s b).2.1.length<=s.length:=by
 unfold gT;split<;>simp
def Oe:Ow 67 487:=by
 refine aA rfl ?_;rintro s b hp hok x args hl hargs hnl himm ⟨⟨_,m,hm⟩,_⟩;obtain⟨h0,hs⟩:=bn (hargs 0 aI);obtain⟨h1,_⟩:=bn (hargs 1 aI);rw[gw hl,h0,h1];refine cx c8 himm (Calls.mono (Tryz.strings_Cut ⟨⟨s⟩⟩ ⟨⟨[b]⟩⟩ m x.w (by show s.length<_;omega) hm) fun e w' ⟨h1,n,h2⟩=>⟨h1,h2▸lB _ n⟩) (fun x'=>?_);have hc:Lib.cut (⟨⟨s⟩⟩:ByteArray).data.toList (⟨⟨[b]⟩⟩:ByteArray).data.toList=gT s b:=Jl s b;rw[hc];have:=(yR s b).1;have:=nk s b;exact tm (fu _ ae) (fu _ ae) (.bool _)
def N9:Ow 155 254:=by
 refine aA rfl ?_;rintro s p hp hp2 hok x args hl hargs hnl himm _;obtain⟨h0,hs⟩:=bn (hargs 0 aI);obtain⟨h1,_⟩:=bn (hargs 1 aI);rw[gw hl,h0,h1];refine cx c8 himm (Calls.mono (Tryz.strings_CutPrefix ⟨⟨s⟩⟩ ⟨⟨p⟩⟩ x.w) fun e w' ⟨h1,h2⟩=>⟨h1,h2▸dR.refl _⟩) (fun x'=>?_);have hc:(Lib.trimPrefix s p,Lib.hasPrefix s p)=gy s p:=vY s p;have:=sV s p;rw[<-hc]at this⊢;have h9:(Lib.trimPrefix s p).length<=s.length:=this;exact mB (fu (Lib.trimPrefix s p) ae) (.bool _)
def Ob:Ow 194 336:=by
 refine aA rfl ?_;rintro n hp hok x args hl hargs hnl himm ⟨_,_,ht⟩;have h0:=gO (hargs 0 aI);rw[ua hl,h0];refine cx c8 himm (Calls.mono (Tryz.strconv_Itoa n ae ae x.w ht) fun e w' ⟨h1,k,os,h2⟩=>⟨h1, ?_⟩) (fun x'=>?_)
 .subst h2;refine⟨rfl,rfl,rfl,by simp[Sort.grow],fun b hb=>?_⟩;show(x.w.heap++os)[b]? =x.w.heap[b]?;rw[Array.getElem?_append,aC hb]
 .rw[CW hp.1];have:=eJ 4 n.toNat ae ae;exact fu _ ae
def dU {fid:Nat}{x:X}{args:Array Value}{ts:List ByteArray}{cap:Nat}{ty:TypeId}{L:List av}(hn:(Tryz.prog.funcs[fid]?).map (fun f=>f.name== "runtime.NumGoroutine" ||!f.body.isSome)=some false)(himm:∀b,x.I b->b<x.w.heap.size)
  (hL:ts.map (fun t=>t.data.toList)=L) (hcap:ts.length<=cap) (hm:cap<=maxLen) (hs:∀t∈L,t.length<=maxLen)
  (hc:Calls Tryz.prog fid args x.w fun e w'=>e=.returned (.slice (some ⟨x.w.heap.size,0,none⟩) ts.length cap)/\w'=x.w.alloc (.cells (Lib.cellsOf ts cap) ty)):
  iu Tryz.prog x (fun v x'=>gW x x'/\RD fB x' v (.sl 1 (L.map D.str))) ((callFunc fid args).run Tryz.prog x.w):=by
 refine eR hn himm (Calls.mono hc fun e w' ⟨h1,h2⟩=>?_);subst h2;refine⟨_,h1,dR.alloc _ _,fun q=>x.I q\/q=x.w.heap.size,fun _ h=>.inl h,fun q hq=>hq.imp id fun h=>⟨ae,by rw[h];show _<(x.w.heap.push _).size;simp⟩, ?_⟩;have hsl:L.length=ts.length:=by rw[<-hL];simp
 have hget:∀i,i<ts.length->(L.map D.str).getD i .any=.str (ts.getD i default).data.toList:=fun i hi=>by
  rw[<-hL];simp[hi]
 refine .sl _ x.w.heap.size 0 ts.length cap 1 _ (fun i _=>.string (ts.getD i default)) (by simp[hsl]) (.inr ⟨rfl,.inr rfl⟩) hcap hm (fun i hi=>by rw[hget i hi];rfl) (fun i hi=>by rw[hget i hi];rfl) (fun i j hi hj=>?_) (fun i j hi hj=>rfl) (fun i j hi hj=>?_)
 .obtain rfl:j=0:=ae;have:=cR x.w (.cells (Lib.cellsOf ts cap) ty);refine(cell_of_heap (c:=Lib.cellsOf ts cap) (T:=ty) (fr:=(0,0)) this (by rw[Lib.cellsOf_size hcap];omega)).trans ?_;have hi2:i<(ts.map Value.string).length:=by simpa using hi
  simp only[Lib.cellsOf];simp[hi,List.getElem?_append_left hi2]
 .obtain rfl:j=0:=ae;rw[hget i hi];show RD fB _ (.string (ts.getD i default)) (.str (ts.getD i default).data.toList);generalize hq:ts.getD i default=q;have hmem:q.data.toList∈L:=by
   rw[<-hL];refine eG.2 ⟨q, ?_,rfl⟩;rw[<-hq];simp[hi]
  have:=hs _ hmem;obtain⟨⟨ql⟩⟩:=q;exact .str ql this
def iU {x:X}{s p:av}{m:Int}{L:List av}(hL:∀ts,ts=Lib.splitB ⟨⟨p⟩⟩ 0 (Lib.countB ⟨⟨s⟩⟩ ⟨⟨p⟩⟩) ⟨⟨s⟩⟩->ts.map (fun t=>t.data.toList)=L)(himm:∀b,x.I b->b<x.w.heap.size)(h1:1<=p.length)(hs:s.length<=1048576)(hl:L.length<=1048577)(hb:∀t∈L,t.length<=1048576)
  (hm:x.w.cell? ⟨0,0,none⟩=some (.int .i64 m)):iu Tryz.prog x (fun v x'=>gW x x'/\RD fB x' v (.sl 1 (L.map D.str))) ((callFunc 57 #[.string ⟨⟨s⟩⟩,.string ⟨⟨p⟩⟩]).run Tryz.prog x.w):=by
 have h2:1<=(⟨⟨p⟩⟩:ByteArray).size:=h1;have hlen:=Lib.splitB_all ⟨⟨p⟩⟩ h2 0 _ (⟨⟨s⟩⟩:ByteArray) rfl;have hc:=Tryz.strings_Split ⟨⟨s⟩⟩ ⟨⟨p⟩⟩ m x.w (by show s.length<_;omega) hm h2;rw[<-hlen,<-Lib.cellsOf_full]at hc;have hL2:=hL _ rfl;have hle:(Lib.splitB ⟨⟨p⟩⟩ 0 (Lib.countB ⟨⟨s⟩⟩ ⟨⟨p⟩⟩) ⟨⟨s⟩⟩).length<=maxLen:=by
  have:L.length=(Lib.splitB ⟨⟨p⟩⟩ 0 (Lib.countB ⟨⟨s⟩⟩ ⟨⟨p⟩⟩) ⟨⟨s⟩⟩).length:=by rw[<-hL2];simp
  simp only[maxLen];omega
 exact dU c8 himm hL2 (aH _) hle (fun t ht=>by have:=hb t ht;simp only[maxLen];omega) hc
def gp:∀(s cur:av),(aT s cur).length<=s.length+1/\∀t∈aT s cur,t.length<=cur.length+s.length
 |[],cur=>by simp[aT]
 |[c],cur=>by simp[aT]
 |c::d::r,cur=>by
  unfold aT;split
  .obtain⟨h1,h2⟩:=gp r [];refine⟨by simp only[aM];omega,fun t ht=>?_⟩;rcases ca.1 ht with rfl|ht
   .omega
   .have:=h2 t ht;simp only[aM,aX]at this⊢;omega
  .obtain⟨h1,h2⟩:=gp (d::r) (cur++[c]);refine⟨by simp only[aM]at h1⊢;omega,fun t ht=>?_⟩;have:=h2 t ht;simp only[bH,aM,aX]at this⊢;omega
def N4:Ow 57 124:=by
 refine aA rfl ⟨?_, ?_⟩
 .rintro s b hp hok x args hl hargs hnl himm ⟨⟨_,m,hm⟩,_⟩;obtain⟨h0,hs⟩:=bn (hargs 0 aI);obtain⟨h1,_⟩:=bn (hargs 1 aI);rw[gw hl,h0,h1];have:=cJ s b.toNat;exact iU (fun ts e=>by rw[e];exact lP b _ (⟨⟨s⟩⟩:ByteArray) rfl) himm (aH 1) hp ae (fun t ht=>c7 (cG s b.toNat ht) hp) hm
 .rintro s hp hok x args hl hargs hnl himm ⟨⟨_,m,hm⟩,_⟩;obtain⟨h0,hs⟩:=bn (hargs 0 aI);obtain⟨h1,_⟩:=bn (hargs 1 aI);rw[gw hl,h0,h1];obtain⟨q1,q2⟩:=gp s [];exact iU (fun ts e=>by rw[e];exact wC _ (⟨⟨s⟩⟩:ByteArray) rfl) himm aG hp ae (fun t ht=>by have:=q2 t ht;simp only[aX]at this;omega) hm
def sU (n:Nat)(h:1<=n)(s:av):(kL n (ai s 32)).length<=s.length+1/\∀t∈kL n (ai s 32),t.length<=s.length:=by
 have hl:=cJ s 32;have hj:aO [32] (ai s 32)=s:=by
  have:=jo 32 s [];simpa[ai]using this
 unfold kL;split
 .exact⟨hl,fun t ht=>cG s 32 ht⟩
 .rename_i hn;refine⟨by simp only[bH,eF,aM,aX];omega,fun t ht=>?_⟩;rcases List.mem_append.1 ht with ht|ht
  .exact cG s 32 (jN ht)
  .rw[cT.1 ht];have h2:(aO [32] (ai s 32)).length=s.length:=by rw[hj]
   have h3:∀(l:List av) (k:Nat),(aO [32] (l.drop k)).length<=(aO [32] l).length:=by
    intro l;induction l with
    |nil=>simp
    |cons a l ih=>
     intro k;cases k with
     |zero=>simp
     |succ k=>
      refine c7 (ih k) ?_;cases l with
      |nil=>simp[aO]
      |cons b l=>rw[eK [32] a (b::l) aI];simp only[bH];omega
   have:=h3 (ai s 32) (n-1);omega
def N8:Ow 38 245:=by
 refine aA rfl ?_;rintro s n hp hn hok x args hl hargs hnl himm ⟨⟨_,m,hm⟩,_⟩;obtain⟨h0,hs⟩:=bn (hargs 0 aI);obtain⟨h1,_⟩:=bn (hargs 1 aI);have h2:=gO (hargs 2 aI);rw[Ey hl,h0,h1,h2];rcases hn with rfl|⟨hn1,hn2⟩
 .have hc:=tq Tryz.lays147 c8 ⟨⟨s⟩⟩ ⟨⟨[32]⟩⟩ m x.w (by show s.length<_;omega) hm (aH 1);have hlen:=Lib.splitB_all ⟨⟨[32]⟩⟩ (aH 1) 0 _ (⟨⟨s⟩⟩:ByteArray) rfl;have hL:(Lib.splitB ⟨⟨[32]⟩⟩ 0 (Lib.countB ⟨⟨s⟩⟩ ⟨⟨[32]⟩⟩) ⟨⟨s⟩⟩).map (fun t=>t.data.toList)=eZ (-1) s:=lP 32 _ (⟨⟨s⟩⟩:ByteArray) rfl;have hsl:=cJ s 32;have hll:(eZ (-1) s).length=(Lib.splitB ⟨⟨[32]⟩⟩ 0 (Lib.countB ⟨⟨s⟩⟩ ⟨⟨[32]⟩⟩) ⟨⟨s⟩⟩).length:=by rw[<-hL];simp
  have hw:eZ (-1) s=ai s 32:=rfl;rw[hw]at hll;exact dU c8 himm hL ae (by simp only[maxLen];omega) (fun t ht=>by have:=cG s 32 ht;simp only[maxLen];omega) hc
 .obtain⟨k,rfl⟩:∃k:Nat,n=k:=⟨n.toNat,ae⟩
  have hc:=Tryz.strings_SplitN ⟨⟨s⟩⟩ ⟨⟨[32]⟩⟩ k m x.w (by show s.length<_;omega) hm (aH 1) ae ae;have hle:=Lib.splitB_length_le ⟨⟨[32]⟩⟩ 0 (min k ((⟨⟨s⟩⟩:ByteArray).size+1) -1) ⟨⟨s⟩⟩;have hsz:(⟨⟨s⟩⟩:ByteArray).size=s.length:=rfl;obtain⟨q1,q2⟩:=sU k ae s;refine dU c8 himm (L:=eZ (k:Int) s) ?_ ae (by simp only[maxLen];omega) (fun t ht=>?_) hc
  .rw[Lib.splitB_data];exact tv k ae s
  .have:eZ (k:Int) s=kL k (ai s 32):=by unfold eZ;rw[ar ae,Int.toNat_natCast]
   rw[this]at ht;have:=q2 t ht;simp only[maxLen];omega
def Ez {args:Array Value}(h:args.size=4):args=#[args.getD 0 undef,args.getD 1 undef,args.getD 2 undef,args.getD 3 undef]:=by
 obtain⟨l⟩:=args
 match l,h with
 |[a,b,c,d],_=>rfl
def Oa:Ow 66 331:=by
 refine aA rfl ?_;rintro s hp hok x args hl hargs hnl himm ⟨⟨_,m,hm⟩,_⟩;obtain⟨h0,hs⟩:=bn (hargs 0 aI);obtain⟨h1,_⟩:=bn (hargs 1 aI);have h2:=gO (hargs 2 aI);have h3:=gO (hargs 3 aI);rw[Ez hl,h0,h1,h2,h3];have hle:=Lib.countB_le ⟨⟨[10]⟩⟩ (aH 1) (⟨⟨s⟩⟩:ByteArray).size ⟨⟨s⟩⟩ (aH _);have hlen:=Lib.splitB_all ⟨⟨[10]⟩⟩ (aH 1) 1 _ (⟨⟨s⟩⟩:ByteArray) rfl;have hc:=Any.strings_genSplit Tryz.lays221 c8 ⟨⟨s⟩⟩ ⟨⟨[10]⟩⟩ 1 (-1) (Lib.countB ⟨⟨s⟩⟩ ⟨⟨[10]⟩⟩+1) m x.w (by show s.length<_;omega) hm (aH 1) (aH 1) aG aG (by rw[aC aG];omega);rw[Nat.add_sub_cancel]at hc;obtain⟨q1,q2⟩:=C1 s;have hL:=yJ _ (⟨⟨s⟩⟩:ByteArray) rfl;have hsz:(⟨⟨s⟩⟩:ByteArray).size=s.length:=rfl;exact dU c8 himm hL ae (by simp only[maxLen];omega) (fun t ht=>by have:=q2 t ht;simp only[maxLen];omega) hc
def N7:Ow 37 244:=by
 refine aA rfl ?_;rintro s hp hok x args hl hargs hnl himm _;obtain⟨h0,hs⟩:=bn (hargs 0 aI);obtain⟨h1,_⟩:=bn (hargs 1 aI);rw[gw hl,h0,h1];refine cx c8 himm (Calls.mono (Tryz.strings_CutSuffix ⟨⟨s⟩⟩ ⟨⟨[10]⟩⟩ x.w (by show s.length<=_;omega)) fun e w' ⟨h1,h2⟩=>⟨h1,h2▸dR.refl _⟩) (fun x'=>?_);have hc:(Lib.trimSuffix s [10],Lib.hasSuffix s [10])=fR s:=wD s;have:=qP s;rw[<-hc]at this⊢;have h9:(Lib.trimSuffix s [10]).length<=s.length:=this;exact mB (fu (Lib.trimSuffix s [10]) ae) (.bool _)
def Oi:Ow 59 683:=by
 refine aA rfl ?_;rintro s b rfl hp hok x args hl hargs hnl himm _;obtain⟨h0,hs⟩:=bn (hargs 0 aI);obtain⟨h1,_⟩:=bn (hargs 1 aI);rw[gw hl,h0,h1];refine cx c8 himm (Calls.mono (Tryz.strings_Trim_one ⟨⟨s⟩⟩ 32 aG x.w (by show s.length<=_;omega)) fun e w' ⟨h1,h2⟩=>⟨h1, ?_⟩) (fun x'=>?_)
 .rcases h2 with rfl|rfl
  .exact dR.refl _
  .exact⟨rfl,rfl,rfl,aH _,fun _ _=>rfl⟩
 .have:Lib.trimB (⟨⟨s⟩⟩:ByteArray).data.toList 32=eB s:=yM s;rw[this];have hb:(eB s).length<=s.length:=by
   unfold eB;have h1:=jF s;have h2:=jF (kF s).reverse;simp only[List.length_reverse]at h2⊢;omega
  exact fu _ ae
def Od:Ow 131 469:=by
 refine aA rfl ?_;rintro l hp hok x args hl hargs hnl himm _;have h0:=hargs 0 aI;rw[ua hl];simp only[gL]at h0;generalize args.getD 0 undef=v0 at h0⊢;cases h0 with
 |sl a b off len cap k es c hlen ha hcap hm hk hn hc h1 h=>
  simp only[bB]at hlen;subst hlen;have fin:∀(e:Ending) (w':World) v' ty,e=.returned v'->w'.ownsRow x.w.heap.size ty 1 v' l.length (l.map fun t=>Value.string ⟨⟨t⟩⟩)->Go.RowKit.Below x.w.heap.size x.w w'->
    ∃v,e=.returned v/\dR x.w w'/\∃I:Nat->Prop,(∀b,x.I b->I b)/\(∀b,I b->x.I b\/x.w.heap.size<=b/\b<w'.heap.size)/\RD fB ⟨w',I,x.β⟩ v (.sl 1 (l.map D.str)):=by
   rintro e w' v' ty rfl ⟨hxl,ho⟩ hB;refine⟨v',rfl,⟨hB.os,hB.tape,hB.output,hB.size,hB.block⟩, ?_⟩;rcases ho with⟨rfl,hl0⟩|⟨g,cap',cur,rfl,hg,hh,hle,hml,hcs,htk⟩
   .have:l=[]:=pB.1 hl0;subst this;exact⟨x.I,fun _ h=>h,fun _ h=>.inl h,.sl none 0 0 0 0 1 [] (fun _ _=>.nilIface) rfl (.inl rfl) (aH _) (by simp[maxLen]) (fun i hi=>ae) (fun i hi=>ae) (fun i j hi=>ae) (fun i j hi=>ae) (fun i j hi=>ae)⟩
   .have hgl:g<w'.heap.size:=(Array.getElem?_eq_some_iff.1 hh).1;have hgt:∀i (hi:i<l.length),((l.map D.str).getD i .any)=.str l[i]:=fun i hi=>by simp[hi]
    refine⟨fun q=>x.I q\/q=g,fun _ h=>.inl h,fun q hq=>hq.imp id fun h=>by subst h;exact⟨hg,hgl⟩, ?_⟩;refine .sl _ g 0 l.length cap' 1 _ (fun i _=>.string ⟨⟨l.getD i []⟩⟩) aI (.inr ⟨rfl,.inr rfl⟩) hle hml (fun i hi=>by rw[hgt i hi];rfl) (fun i hi=>by rw[hgt i hi];rfl) (fun i j hi hj=>?_) (fun _ _ _ _=>rfl) (fun i j hi hj=>?_)
    .obtain rfl:j=0:=ae;refine(cell_of_heap (c:=cur) (T:=ty) (fr:=(0,0)) hh ae).trans ?_;have e1:cur.toList[i]? =some (.string ⟨⟨l.getD i []⟩⟩):=by
      have e2:(cur.toList.take (l.length*1))[i]? =(l.map fun t=>Value.string ⟨⟨t⟩⟩)[i]? :=by rw[htk]
      rw[List.getElem?_take,aC ae]at e2;rw[e2];simp[hi]
     have e3:cur[i]? =some (.string ⟨⟨l.getD i []⟩⟩):=by rw[<-e1];simp
     rw[show(0+i*1+0:Nat)=i by omega,Array.getD_eq_getD_getElem?,e3];rfl
    .obtain rfl:j=0:=ae;rw[hgt i hi];have q2:=h i 0 hi ae;rw[hgt i hi]at q2;obtain⟨_,q3⟩:=bn q2;have:l.getD i []=l[i]:=by simp[hi]
     rw[this];exact .str _ q3
  rcases ha with he|⟨rfl,hI⟩
  .have hnil:l=[]:=by simpa using he
   subst hnil;cases a with
   |none=>exact cx c8 himm (Calls.mono (Tryz.slices_Clone_string_nil 0 cap x.w) fun e w' ⟨h1,h2⟩=>⟨h1,h2▸dR.refl _⟩) (fun x'=>.sl none 0 0 0 0 1 [] (fun _ _=>.nilIface) rfl (.inl rfl) (aH _) (by simp[maxLen]) (fun i hi=>ae) (fun i hi=>ae) (fun i j hi=>ae) (fun i j hi=>ae) (fun i j hi=>ae))
   |some a=>exact eR c8 himm (Calls.mono (Tryz.slices_Clone_string_zero a cap x.w) fun e w' ⟨v',h1,h2,_,h3⟩=>fin e w' v' _ h1 h2 h3)
  .have hcell:∀i,(hi:i<l.length)->x.w.cell? ⟨b,off+i,none⟩=some (.string ⟨⟨l[i]⟩⟩):=fun i hi=>by
    have q1:=hc i 0 hi ae;have q2:=h i 0 hi ae;have e:((l.map D.str).getD i .any).cells.getD 0 .any=.str l[i]:=by simp[hi,D.cells]
    rw[e]at q2;rw[(bn q2).1]at q1;simpa using q1
   refine eR c8 himm (Calls.mono (Tryz.slices_Clone_string b off l.length cap (l.map fun t=>⟨⟨t⟩⟩) x.w aI ae (fun j hj=>?_)) fun e w' ⟨v',h1,h2,_,h3⟩=>?_)
   .rw[bB]at hj;rw[hcell j hj];simp[hj]
   .have:((l.map fun t=>(⟨⟨t⟩⟩:ByteArray)).take l.length).map Value.string=l.map fun t=>Value.string ⟨⟨t⟩⟩:=by
     rw[fq aI,List.map_map];rfl
    rw[this]at h2;exact fin e w' v' _ h1 h2 h3
def Of:Ow 71 489:=dn rfl fun ds st K h hok=>CU rfl rfl Tryz.l9 Tryz.xu (Go.Proofs.enters_of Tryz.l9.f166 c8 rfl) ds st K h hok
def Oh:Ow 157 664:=dn rfl fun ds st K h hok=>CT rfl rfl Tryz.ma Tryz.xu (Go.Proofs.enters_of Tryz.ma.f167 c8 rfl) ds st K h hok
def Oc:Ow 72 452:=dn rfl fun ds st K h hok=>CS rfl rfl Tryz.mb Tryz.xu (Go.Proofs.enters_of Tryz.mb.f169 c8 rfl) ds st K h hok
def hE (sep:av)(B:Nat):∀l:List av,(∀t∈l,t.length<=B)->(aO sep l).length<=l.length*(B+sep.length)
 |[],_=>by simp[aO]
 |[t],h=>by have:=h t (.head _);simp only[aO,aM,aX];omega
 |t::u::r,h=>by
  have h1:=h t (.head _);have h2:=hE sep B (u::r) fun x hx=>h x (.tail _ hx)
  rw[eK _ _ _ aI];rw[aM,Nat.succ_mul];simp only[bH];omega
def N5:Ow 35 242:=by
 refine aA rfl ?_;rintro l sep hp1 hp2 hp3 hok x args hl hargs hnl himm _;have h0:=hargs 0 aI;obtain⟨h1,_⟩:=bn (hargs 1 aI);rw[gw hl,h1];have hj:=hE sep 2097200 l hp3;have hj2:=fF (2097200+sep.length) hp1;have hj3:1048600*(2097200+sep.length)<=140737488355328:=by
  have:=Nat.mul_le_mul_left 1048600 (show 2097200+sep.length<=2097204 by omega);omega
 have hjm:(aO sep l).length<=140737488355328:=ae;simp only[gL]at h0;generalize args.getD 0 undef=v0 at h0⊢;cases h0 with
 |sl a b off len cap k es c hlen ha hcap hm hk hn hc h1 h=>
  simp only[bB]at hlen;subst hlen;rcases ha with he|⟨rfl,hI⟩
  .have hnil:l=[]:=by simpa using he
   subst hnil;refine cx c8 himm (Calls.mono (Tryz.strings_Join_none a cap ⟨⟨sep⟩⟩ x.w) fun e w' ⟨h1,h2⟩=>⟨h1,h2▸dR.refl _⟩) (fun x'=>?_);exact fu [] aI
  .have hcell:∀i,(hi:i<l.length)->x.w.cell? ⟨b,off+i,none⟩=some (.string ⟨⟨l[i]⟩⟩):=fun i hi=>by
    have q1:=hc i 0 hi ae;have q2:=h i 0 hi ae;have e:((l.map D.str).getD i .any).cells.getD 0 .any=.str l[i]:=by simp[hi,D.cells]
    rw[e]at q2;rw[(bn q2).1]at q1;simpa using q1
   have e2:(l.map fun t=>(⟨⟨t⟩⟩:ByteArray)).map (fun t=>t.data.toList)=l:=by rw[List.map_map];exact List.map_id l
   have hjl:Lib.join ((l.map fun t=>(⟨⟨t⟩⟩:ByteArray)).map (fun t=>t.data.toList)) (⟨⟨sep⟩⟩:ByteArray).data.toList=aO sep l:=by rw[e2];exact(uG sep l).symm
   have key:=Tryz.strings_Join b off cap (l.map fun t=>⟨⟨t⟩⟩) ⟨⟨sep⟩⟩ x.w (fun j y hy=>by
    rw[List.getElem?_map,eg]at hy;obtain⟨t,ht,rfl⟩:=hy;obtain⟨hlt,rfl⟩:=List.getElem?_eq_some_iff.1 ht;exact hcell j hlt) (himm b hI) dk (by simpa using hcap) (by rw[hjl];exact hjm)
   rw[hjl,bB]at key;refine cx c8 himm (Calls.mono key fun e w' ⟨h1,h2⟩=>⟨h1,h2.os,h2.tape,h2.output,h2.size,h2.block⟩) (fun x'=>?_);exact .str _ (by simp only[maxLen];omega)
def fA {P:Program}(w:World)(mty kt et:TypeId)(r clock:Nat)(e:MapEntry)(s:ByteArray)(val:Value)(hf:Instr.findNow .string (.string s) [e] 0=some none)(hm:P.underlying mty=some (.map kt et))(hk:P.underlying kt=some .string)(hb:w.heap[r]? =some (.map #[e] clock)):
  (Instr.mapUpdate mty (.map (some r)) (.string s) val).run P w=.ok () {w with heap:=w.heap.setIfInBounds r (.map #[e,{key:=.string s,val:=val,born:=clock}] (clock+1))}:=by
 have hc:(Instr.checkKey false 10000 kt (.string s)).run P w=.ok () w:=MapKept.run_checkKey (k:=.string s) hk (by simp[MapKept.IsKey]) false 9999;simp[Instr.mapUpdate,run_underlying hm,MapKept.run_getObj_map hb,hc,MapKept.run_findKey hk hf,MapKept.run_setObj_map _ hb,Result.andThen]
def EZ (f b:Nat):Value:=.func (.func f) #[] #[.pointer (some ⟨b,0,none⟩)]
def qm (s:List UInt8)(f b k:Nat):MapEntry:={key:=.string ⟨⟨s⟩⟩,val:=EZ f b,born:=k}
def eI (w:World)(o:Obj):(w.alloc o).heap.size=w.heap.size+1:=by show(w.heap.push o).size=_;simp
def sJ (w:World)(a o:Obj):((w.alloc a).alloc o).heap[w.heap.size+1]? =some o:=by
 have:=cR (w.alloc a) o
 rwa [eI]at this
def yq {h:Array Obj}{r:Nat}{o o2:Obj}(hh:h[r]? =some o):(h.setIfInBounds r o2)[r]? =some o2:=by
 have:=(Array.getElem?_eq_some_iff.1 hh).1;simp[this]
def tn {h:Array Obj}{r b:Nat}{o2:Obj}(hb:b≠r):(h.setIfInBounds r o2)[b]? =h[b]? :=by
 simp[Ne.symm hb]
set_option maxHeartbeats 2000000 in
set_option maxRecDepth 100000 in
theorem ju (ad:Addr)(w:World):Calls Tryz.prog 36 #[.pointer (some ad)] w fun e w'=>e=.returned (.map (some (w.heap.size+1)))/\dR w w'/\w'.heap.size=w.heap.size+2/\w'.heap[w.heap.size]? =some (.cells #[.pointer (some ad)] 81 (0,0))/\
  w'.heap[w.heap.size+1]? =some (.map #[qm [112,105,110] 73 w.heap.size 0,qm [104,111,108,100] 75 w.heap.size 1] 2):=by
 have t79:=Tryz.underlying79;have t9:=Tryz.underlying9;have mixed:Tryz.prog.follows .mixedOrders=true:=c8;have h2:=sJ w (.cells #[.pointer (some ad)] 81) (.map #[] 0)
 go_enter Tryz.func36,Tryz.ntmps36
 go_wp2
 rw[run_makeMap_plain]
 go_wp2
 rw[run_mapUpdate_first _ 79 9 86 (w.heap.size+1) 0 _ _ t79 t9 h2]
 go_wp2
 rw[fA _ 79 9 86 (w.heap.size+1) 1 (qm [112,105,110] 73 w.heap.size 0) _ _ (by rfl) t79 t9 (yq h2)]
 go_wp2
 have h3:((w.alloc (Obj.cells #[.pointer (some ad)] 81)).alloc (Obj.map #[] 0)).heap.size=w.heap.size+2:=by rw[eI,eI]
 unfold bodyPost;simp[results,Tryz.f36];refine⟨⟨rfl,rfl,rfl, ?_,fun b hb=>?_⟩, ?_, ?_⟩
 .show w.heap.size<=(Array.setIfInBounds _ _ _).size;rw[Array.size_setIfInBounds,h3];omega
 .show(Array.setIfInBounds _ _ _)[b]? =_;rw[tn ae,dx _ _ b (by rw[eI];omega),dx _ _ b hb]
 .rw[dx _ _ _ (by rw[eI];omega)];exact cR w _
 .rfl
def N6:Ow 36 243:=by
 refine dn rfl ?_;intro lm nx m K hK hok x args hl hargs hs hfr;have hv0:RD fB x (args.getD 0 undef) (.ptr lm 11 0 0):=hargs 0 aI;obtain⟨ad,had⟩:∃ad,args.getD 0 undef=.pointer (some ad):=by
  generalize args.getD 0 undef=v at hv0;cases hv0;exact⟨_,rfl⟩
 obtain rfl:args=#[.pointer (some ad)]:=by
  have h1:args.size=1:=hl;apply Array.ext
  .simp[h1]
  .intro i h2 h3;obtain rfl:i=0:=ae;simpa[Array.getD,h1]using had
 have hv:RD fB x (.pointer (some ad)) (.ptr lm 11 0 0):=hv0;refine .inr ⟨36,#[.pointer (some ad)],Go.Proofs.enters_of Tryz.func36 c8 rfl _ _,Calls.mono (ju ad x.w) ?_⟩;rintro e w' ⟨rfl,hg,hsz,hb,hm⟩
 let x':X:=⟨w',fun b=>x.I b\/b=x.w.heap.size\/b=x.w.heap.size+1,x.β⟩
 have hp:gW x x':=⟨hg,fun b h=>.inl h,fun b h=>h.imp id fun h=>ae,fun b h=>by
  rcases h with h|h
  .exact cz (hs.imm b h) hg.size
  .show b<w'.heap.size;omega,rfl⟩
 refine⟨x',rfl,_,_,hK,hp.step hs.imm, ?_,hp.pR hs,⟨hfr.β,hfr.m⟩⟩;have hv':RD fB x' (.pointer (some ad)) (.ptr lm 11 0 0):=hv.mono (hp.step hs.imm).le;have hbx:∀f n,dI fB f=some n->RD fB x' (EZ f x.w.heap.size) (.fn n [.fn 3000000 [.ptr lm 11 0 0]]):=fun f n hn=>
  .fn f n _ _ hn rfl fun i hi=>by
   obtain rfl:i=0:=by simp at hi;omega
   exact .bx _ 0 [.ptr lm 11 0 0] (.pointer (some ad)) (.inr (.inl rfl)) (by rw[cell_of_heap hb aI];rfl) rfl rfl fun i hi=>by
    obtain rfl:i=0:=by simp at hi;omega
    exact hv'
 refine .mp _ _ 2 _ (.inr (.inr rfl)) hm rfl fun i hi=>?_
 match i,hi with
 |0,_=>exact .str _ aG
 |1,_=>exact hbx 73 490 c8
 |2,_=>exact .str _ aG
 |3,_=>exact hbx 75 492 c8
end
end Go.Abs
