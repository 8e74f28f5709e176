/- linchpin: RecordBent answers true for every list of numbers, places and text. -/
import Derived.Carry
import Derived.ChangeArms
import Derived.ChangeSame
import Derived.Deep.DeepHandedRow
import Derived.Lib.LaidTab
import Derived.OpenShut
import Derived.RowKit
import Derived.Test.YtpdlhpamcaocgaaGreatDoorCards
import Derived.Test.YtpdlhpamcaocgaaGreatDoorTie
import Derived.WideKeyArgs
import Derived.WideShapes
import Derived.Test.YtpdlhpamcaocgaaGreatDoorP11
set_option linter.all false
set_option maxRecDepth 4000
namespace Go.Abs
section
open Go.Proofs
def K0:Nat:=3
def vV:Tryz.prog.globalNamed "internal/strconv.uint64pow10" =some K0:=pH
instance UH:dy where
 tB:=133
 tU:=5
 gd x:=(x.I 0/\∃m,x.w.cell? ⟨0,0,none⟩=some (.int .i64 m))/\x.I K0/\Lib.TabIs Tryz.prog x.w "internal/strconv.uint64pow10" .u64 Lib.pow10Tab
 le x x' hI hk h:=by
  obtain⟨⟨h1,m,h2⟩,h3,h4⟩:=h;refine⟨⟨hI _ h1,m,oT (hk _ h1) h2⟩,hI _ h3, ?_⟩;unfold Lib.TabIs World.var? at h4⊢;rw[vV]at h4⊢;simp only[Option.bind_some]at h4⊢;rw[hk _ h3];exact h4
def rR {fid:Nat}{x:X}{args:Array Value}{d:D}(hn:(Tryz.prog.funcs[fid]?).map (fun f=>f.name== "runtime.NumGoroutine" ||!f.body.isSome)=some false)
  (himm:∀b,x.I b->b<x.w.heap.size)
  (hc:Calls Tryz.prog fid args x.w fun e w'=>∃v,e=.returned v/\hH x.w w'/\∃I:Nat->Prop,(∀b,x.I b->I b)/\(∀b,I b->x.I b\/x.w.heap.size<=b/\b<w'.heap.size)/\RD wz ⟨w',I,x.β⟩ v d):
  j6 Tryz.prog x (fun v x'=>nV x x'/\RD wz x' v d) ((callFunc fid args).run Tryz.prog x.w):=by
 cases h:Tryz.prog.funcs[fid]? with
 |none=>rw[h]at hn;cases hn
 |some fn=>
  rw[h]at hn;have h2:(fn.name== "runtime.NumGoroutine" ||!fn.body.isSome)=false:=bC hn;rw[c9,bP]at h2;refine .inr ⟨fid,args,iZ h h2.1 h2.2 args x.w,Calls.mono hc fun e w' he=>?_⟩;obtain⟨v,rfl,hg,I,h3,h4,hr⟩:=he;refine⟨⟨w',I,x.β⟩,rfl,⟨hg,h3,fun b hb=>(h4 b hb).imp id And.left,fun b hb=>?_,rfl⟩,hr⟩;rcases h4 b hb with h5|h5
  ·exact eX (himm b h5) hg.size
  ·exact h5.2
def EG (w:World):∀n,hH w (w.drewN n)
 |n=>⟨rfl,rfl,rfl,aM _,fun _ _=>rfl⟩
def lK {fid:Nat}{x:X}{args:Array Value}{d:D}{v:Value}(hn:(Tryz.prog.funcs[fid]?).map (fun f=>f.name== "runtime.NumGoroutine" ||!f.body.isSome)=some false)
  (himm:∀b,x.I b->b<x.w.heap.size) (hc:Calls Tryz.prog fid args x.w fun e w'=>e=.returned v/\hH x.w w') (hr:∀x',RD wz x' v d):
  j6 Tryz.prog x (fun v x'=>nV x x'/\RD wz x' v d) ((callFunc fid args).run Tryz.prog x.w):=
 rR hn himm (Calls.mono hc fun e w' ⟨h1,h2⟩=>⟨v,h1,h2,x.I,fun _ h=>h,fun _ h=>.inl h,hr _⟩)
def gR {x:X}{v:Value}{s:aq}(h:RD wz x v (.str s)):v=.string ⟨⟨s⟩⟩/\s.length<=maxLen:=by
 cases h with
 |str s h=>exact⟨rfl,h⟩
def Gk {x:X}{v:Value}{k:IntKind}{n:Int}(h:RD wz x v (.int k n)):v=.int k n:=by
 cases h with
 |int k n=>rfl
def zO {args:Array Value}(h:args.size=2):args=#[args.getD 0 undef,args.getD 1 undef]:=by
 obtain⟨l⟩:=args
 match l,h with
 |[a,b],_=>rfl
def Uc {args:Array Value}(h:args.size=3):args=#[args.getD 0 undef,args.getD 1 undef,args.getD 2 undef]:=by
 obtain⟨l⟩:=args
 match l,h with
 |[a,b,c],_=>rfl
def Ov {args:Array Value}(h:args.size=1):args=#[args.getD 0 undef]:=by
 obtain⟨l⟩:=args
 match l,h with
 |[a],_=>rfl
def NM {x:X}{a b:Value}{d e:D}(h1:RD wz x a d)(h2:RD wz x b e):RD wz x (.tuple #[a,b]) (.tup [d,e]):=by
 refine .tup _ _ rfl fun i hi=>?_
 match i,hi with
 |0,_=>exact h1
 |1,_=>exact h2
def NN {x:X}{a b c:Value}{d e f:D}(h1:RD wz x a d)(h2:RD wz x b e)(h3:RD wz x c f):RD wz x (.tuple #[a,b,c]) (.tup [d,e,f]):=by
 refine .tup _ _ rfl fun i hi=>?_
 match i,hi with
 |0,_=>exact h1
 |1,_=>exact h2
 |2,_=>exact h3
def vo {x:X}(s:aq)(h:s.length<=4294967296):RD wz x (.string ⟨s.toArray⟩) (.str s):=.str s (by simp only[maxLen];omega)
def Hy (s:aq)(b:UInt8):(hX s b).2.1.length<=s.length:=by
 unfold hX;split<;>simp
def E487:Ow 129 487:=by
 refine bO rfl ?_;rintro s b hp hok x args hl hargs hnl himm ⟨⟨_,m,hm⟩,_⟩;obtain⟨h0,hs⟩:=gR (hargs 0 aN);obtain⟨h1,_⟩:=gR (hargs 1 aN);rw[zO hl,h0,h1];refine lK pH himm (Calls.mono (Tryz.strings_Cut ⟨⟨s⟩⟩ ⟨⟨[b]⟩⟩ m x.w (by show s.length<_;omega) hm) fun e w' ⟨h1,n,h2⟩=>⟨h1,h2▸EG _ n⟩) (fun x'=>?_);have hc:Lib.cut (⟨⟨s⟩⟩:ByteArray).data.toList (⟨⟨[b]⟩⟩:ByteArray).data.toList=hX s b:=Qa s b;rw[hc];have:=(JR s b).1;have:=Hy s b;exact NN (vo _ ae) (vo _ ae) (.bool _)
def E254:Ow 128 254:=by
 refine bO rfl ?_;rintro s p hp hp2 hok x args hl hargs hnl himm _;obtain⟨h0,hs⟩:=gR (hargs 0 aN);obtain⟨h1,_⟩:=gR (hargs 1 aN);rw[zO hl,h0,h1];refine lK pH himm (Calls.mono (Tryz.strings_CutPrefix ⟨⟨s⟩⟩ ⟨⟨p⟩⟩ x.w) fun e w' ⟨h1,h2⟩=>⟨h1,h2▸hH.refl _⟩) (fun x'=>?_);have hc:(Lib.trimPrefix s p,Lib.hasPrefix s p)=fm s p:=HA s p;have:=EA s p;rw[<-hc]at this⊢;have h9:(Lib.trimPrefix s p).length<=s.length:=this;exact NM (vo (Lib.trimPrefix s p) ae) (.bool _)
def E336:Ow 165 336:=by
 refine bO rfl ?_;rintro n hp hok x args hl hargs hnl himm ⟨_,_,ht⟩;have h0:=Gk (hargs 0 aN);rw[Ov hl,h0];refine lK pH himm (Calls.mono (Tryz.strconv_Itoa n ae ae x.w ht) fun e w' ⟨h1,k,os,h2⟩=>⟨h1, ?_⟩) (fun x'=>?_)
 ·subst h2;refine⟨rfl,rfl,rfl,by simp[Sort.grow],fun b hb=>?_⟩;show(x.w.heap++os)[b]? =x.w.heap[b]?;rw[Array.getElem?_append,av hb]
 ·rw[Nk hp.1];have:=eG 4 n.toNat ae ae;exact vo _ ae
def tu {fid:Nat}{x:X}{args:Array Value}{ts:List ByteArray}{cap:Nat}{ty:TypeId}{L:List aq}(hn:(Tryz.prog.funcs[fid]?).map (fun f=>f.name== "runtime.NumGoroutine" ||!f.body.isSome)=some false)(himm:∀b,x.I b->b<x.w.heap.size)
  (hL:ts.map (fun t=>t.data.toList)=L) (hcap:ts.length<=cap) (hm:cap<=maxLen) (hs:∀t∈L,t.length<=maxLen)
  (hc:Calls Tryz.prog fid args x.w fun e w'=>e=.returned (.slice (some ⟨x.w.heap.size,0,none⟩) ts.length cap)/\w'=x.w.alloc (.cells (Lib.cellsOf ts cap) ty)):
  j6 Tryz.prog x (fun v x'=>nV x x'/\RD wz x' v (.sl 1 (L.map D.str))) ((callFunc fid args).run Tryz.prog x.w):=by
 refine rR hn himm (Calls.mono hc fun e w' ⟨h1,h2⟩=>?_);subst h2;refine⟨_,h1,hH.alloc _ _,fun q=>x.I q\/q=x.w.heap.size,fun _ h=>.inl h,fun q hq=>hq.imp id fun h=>⟨ae,by rw[h];show _<(x.w.heap.push _).size;simp⟩, ?_⟩;have hsl:L.length=ts.length:=by rw[<-hL];simp
 have hget:∀i,i<ts.length->(L.map D.str).getD i .any=.str (ts.getD i default).data.toList:=fun i hi=>by
  rw[<-hL];simp[hi]
 refine .sl _ x.w.heap.size 0 ts.length cap 1 _ (fun i _=>.string (ts.getD i default)) (by simp[hsl]) (.inr ⟨rfl,.inr rfl⟩) hcap hm (fun i hi=>by rw[hget i hi];rfl) (fun i hi=>by rw[hget i hi];rfl) (fun i j hi hj=>?_) (fun i j hi hj=>rfl) (fun i j hi hj=>?_)
 ·obtain rfl:j=0:=ae;have:=eD x.w (.cells (Lib.cellsOf ts cap) ty);refine(cell_of_heap (c:=Lib.cellsOf ts cap) (T:=ty) (fr:=(0,0)) this (by rw[Lib.cellsOf_size hcap];omega)).trans ?_;have hi2:i<(ts.map Value.string).length:=by simpa using hi
  simp only[Lib.cellsOf];simp[hi,List.getElem?_append_left hi2]
 ·obtain rfl:j=0:=ae;rw[hget i hi];show RD wz _ (.string (ts.getD i default)) (.str (ts.getD i default).data.toList);generalize hq:ts.getD i default=q;have hmem:q.data.toList∈L:=by
   rw[<-hL];refine fQ.2 ⟨q, ?_,rfl⟩;rw[<-hq];simp[hi]
  have:=hs _ hmem;obtain⟨⟨ql⟩⟩:=q;exact .str ql this
def AM {x:X}{s p:aq}{m:Int}{L:List aq}(hL:∀ts,ts=Lib.splitB ⟨⟨p⟩⟩ 0 (Lib.countB ⟨⟨s⟩⟩ ⟨⟨p⟩⟩) ⟨⟨s⟩⟩->ts.map (fun t=>t.data.toList)=L)(himm:∀b,x.I b->b<x.w.heap.size)(h1:1<=p.length)(hs:s.length<=1048576)(hl:L.length<=1048577)(hb:∀t∈L,t.length<=1048576)
  (hm:x.w.cell? ⟨0,0,none⟩=some (.int .i64 m)):j6 Tryz.prog x (fun v x'=>nV x x'/\RD wz x' v (.sl 1 (L.map D.str))) ((callFunc 28 #[.string ⟨⟨s⟩⟩,.string ⟨⟨p⟩⟩]).run Tryz.prog x.w):=by
 have h2:1<=(⟨⟨p⟩⟩:ByteArray).size:=h1;have hlen:=Lib.splitB_all ⟨⟨p⟩⟩ h2 0 _ (⟨⟨s⟩⟩:ByteArray) rfl;have hc:=Tryz.strings_Split ⟨⟨s⟩⟩ ⟨⟨p⟩⟩ m x.w (by show s.length<_;omega) hm h2;rw[<-hlen,<-Lib.cellsOf_full]at hc;have hL2:=hL _ rfl;have hle:(Lib.splitB ⟨⟨p⟩⟩ 0 (Lib.countB ⟨⟨s⟩⟩ ⟨⟨p⟩⟩) ⟨⟨s⟩⟩).length<=maxLen:=by
  have:L.length=(Lib.splitB ⟨⟨p⟩⟩ 0 (Lib.countB ⟨⟨s⟩⟩ ⟨⟨p⟩⟩) ⟨⟨s⟩⟩).length:=by rw[<-hL2];simp
  simp only[maxLen];omega
 exact tu pH himm hL2 (aM _) hle (fun t ht=>by have:=hb t ht;simp only[maxLen];omega) hc
def vx:∀(s cur:aq),(aL s cur).length<=s.length+1/\∀t∈aL s cur,t.length<=cur.length+s.length
 |[],cur=>by simp[aL]
 |[c],cur=>by simp[aL]
 |c::d::r,cur=>by
  unfold aL;split
  ·obtain⟨h1,h2⟩:=vx r [];refine⟨by simp only[ax];omega,fun t ht=>?_⟩;rcases dr.1 ht with rfl|ht
   ·omega
   ·have:=h2 t ht;simp only[ax,az]at this⊢;omega
  ·obtain⟨h1,h2⟩:=vx (d::r) (cur++[c]);refine⟨by simp only[ax]at h1⊢;omega,fun t ht=>?_⟩;have:=h2 t ht;simp only[bE,ax,az]at this⊢;omega
def E124:Ow 28 124:=by
 refine bO rfl ⟨?_, ?_⟩
 ·rintro s b hp hok x args hl hargs hnl himm ⟨⟨_,m,hm⟩,_⟩;obtain⟨h0,hs⟩:=gR (hargs 0 aN);obtain⟨h1,_⟩:=gR (hargs 1 aN);rw[zO hl,h0,h1];have:=de s b.toNat;exact AM (fun ts e=>by rw[e];exact AH b _ (⟨⟨s⟩⟩:ByteArray) rfl) himm (aM 1) hp ae (fun t ht=>cW (en s b.toNat ht) hp) hm
 ·rintro s hp hok x args hl hargs hnl himm ⟨⟨_,m,hm⟩,_⟩;obtain⟨h0,hs⟩:=gR (hargs 0 aN);obtain⟨h1,_⟩:=gR (hargs 1 aN);rw[zO hl,h0,h1];obtain⟨q1,q2⟩:=vx s [];exact AM (fun ts e=>by rw[e];exact IQ _ (⟨⟨s⟩⟩:ByteArray) rfl) himm aF hp ae (fun t ht=>by have:=q2 t ht;simp only[az]at this;omega) hm
def ML (n:Nat)(h:1<=n)(s:aq):(qj n (ai s 32)).length<=s.length+1/\∀t∈qj n (ai s 32),t.length<=s.length:=by
 have hl:=de s 32;have hj:bc [32] (ai s 32)=s:=by
  have:=nC 32 s [];simpa[ai]using this
 unfold qj;split
 ·exact⟨hl,fun t ht=>en s 32 ht⟩
 ·rename_i hn;refine⟨by simp only[bE,dq,ax,az];omega,fun t ht=>?_⟩;rcases List.mem_append.1 ht with ht|ht
  ·exact en s 32 (m8 ht)
  ·rw[cK.1 ht];have h2:(bc [32] (ai s 32)).length=s.length:=by rw[hj]
   have h3:∀(l:List aq) (k:Nat),(bc [32] (l.drop k)).length<=(bc [32] l).length:=by
    intro l;induction l with
    |nil=>simp
    |cons a l ih=>
     intro k;cases k with
     |zero=>simp
     |succ k=>
      refine cW (ih k) ?_;cases l with
      |nil=>simp[bc]
      |cons b l=>rw[ik [32] a (b::l) aN];simp only[bE];omega
   have:=h3 (ai s 32) (n-1);omega
def E245:Ow 112 245:=by
 refine bO rfl ?_;rintro s n hp hn hok x args hl hargs hnl himm ⟨⟨_,m,hm⟩,_⟩;obtain⟨h0,hs⟩:=gR (hargs 0 aN);obtain⟨h1,_⟩:=gR (hargs 1 aN);have h2:=Gk (hargs 2 aN);rw[Uc hl,h0,h1,h2];rcases hn with rfl|⟨hn1,hn2⟩
 ·have hc:=FJ Tryz.lays147 pH ⟨⟨s⟩⟩ ⟨⟨[32]⟩⟩ m x.w (by show s.length<_;omega) hm (aM 1);have hlen:=Lib.splitB_all ⟨⟨[32]⟩⟩ (aM 1) 0 _ (⟨⟨s⟩⟩:ByteArray) rfl;have hL:(Lib.splitB ⟨⟨[32]⟩⟩ 0 (Lib.countB ⟨⟨s⟩⟩ ⟨⟨[32]⟩⟩) ⟨⟨s⟩⟩).map (fun t=>t.data.toList)=lg (-1) s:=AH 32 _ (⟨⟨s⟩⟩:ByteArray) rfl;have hsl:=de s 32;have hll:(lg (-1) s).length=(Lib.splitB ⟨⟨[32]⟩⟩ 0 (Lib.countB ⟨⟨s⟩⟩ ⟨⟨[32]⟩⟩) ⟨⟨s⟩⟩).length:=by rw[<-hL];simp
  have hw:lg (-1) s=ai s 32:=rfl;rw[hw]at hll;exact tu pH himm hL ae (by simp only[maxLen];omega) (fun t ht=>by have:=en s 32 ht;simp only[maxLen];omega) hc
 ·obtain⟨k,rfl⟩:∃k:Nat,n=k:=⟨n.toNat,ae⟩
  have hc:=Tryz.strings_SplitN ⟨⟨s⟩⟩ ⟨⟨[32]⟩⟩ k m x.w (by show s.length<_;omega) hm (aM 1) ae ae;have hle:=Lib.splitB_length_le ⟨⟨[32]⟩⟩ 0 (min k ((⟨⟨s⟩⟩:ByteArray).size+1) -1) ⟨⟨s⟩⟩;have hsz:(⟨⟨s⟩⟩:ByteArray).size=s.length:=rfl;obtain⟨q1,q2⟩:=ML k ae s;refine tu pH himm (L:=lg (k:Int) s) ?_ ae (by simp only[maxLen];omega) (fun t ht=>?_) hc
  ·rw[Lib.splitB_data];exact FU k ae s
  ·have:lg (k:Int) s=qj k (ai s 32):=by unfold lg;rw[aj ae,Int.toNat_natCast]
   rw[this]at ht;have:=q2 t ht;simp only[maxLen];omega
def E683:Ow 155 683:=by
 refine bO rfl ?_;rintro s b rfl hp hok x args hl hargs hnl himm _;obtain⟨h0,hs⟩:=gR (hargs 0 aN);obtain⟨h1,_⟩:=gR (hargs 1 aN);rw[zO hl,h0,h1];refine lK pH himm (Calls.mono (Tryz.strings_Trim_one ⟨⟨s⟩⟩ 32 aF x.w (by show s.length<=_;omega)) fun e w' ⟨h1,h2⟩=>⟨h1, ?_⟩) (fun x'=>?_)
 ·rcases h2 with rfl|rfl
  ·exact hH.refl _
  ·exact⟨rfl,rfl,rfl,aM _,fun _ _=>rfl⟩
 ·have:Lib.trimB (⟨⟨s⟩⟩:ByteArray).data.toList 32=ee s:=JK s;rw[this];have hb:(ee s).length<=s.length:=by
   unfold ee;have h1:=oR s;have h2:=oR (kJ s).reverse;simp only[List.length_reverse]at h2⊢;omega
  exact vo _ ae
def E469:Ow 65 469:=by
 refine bO rfl ?_;rintro l hp hok x args hl hargs hnl himm _;have h0:=hargs 0 aN;rw[Ov hl];simp only[iw]at h0;generalize args.getD 0 undef=v0 at h0⊢;cases h0 with
 |sl a b off len cap k es c hlen ha hcap hm hk hn hc h1 h=>
  simp only[bI]at hlen;subst hlen;have fin:∀(e:Ending) (w':World) v' ty,e=.returned v'->w'.ownsRow x.w.heap.size ty 1 v' l.length (l.map fun t=>Value.string ⟨⟨t⟩⟩)->Go.RowKit.Below x.w.heap.size x.w w'->
    ∃v,e=.returned v/\hH x.w w'/\∃I:Nat->Prop,(∀b,x.I b->I b)/\(∀b,I b->x.I b\/x.w.heap.size<=b/\b<w'.heap.size)/\RD wz ⟨w',I,x.β⟩ v (.sl 1 (l.map D.str)):=by
   rintro e w' v' ty rfl ⟨hxl,ho⟩ hB;refine⟨v',rfl,⟨hB.os,hB.tape,hB.output,hB.size,hB.block⟩, ?_⟩;rcases ho with⟨rfl,hl0⟩|⟨g,cap',cur,rfl,hg,hh,hle,hml,hcs,htk⟩
   ·have:l=[]:=oP.1 hl0;subst this;exact⟨x.I,fun _ h=>h,fun _ h=>.inl h,.sl none 0 0 0 0 1 [] (fun _ _=>.nilIface) rfl (.inl rfl) (aM _) (by simp[maxLen]) (fun i hi=>ae) (fun i hi=>ae) (fun i j hi=>ae) (fun i j hi=>ae) (fun i j hi=>ae)⟩
   ·have hgl:g<w'.heap.size:=(Array.getElem?_eq_some_iff.1 hh).1;have hgt:∀i (hi:i<l.length),((l.map D.str).getD i .any)=.str l[i]:=fun i hi=>by simp[hi]
    refine⟨fun q=>x.I q\/q=g,fun _ h=>.inl h,fun q hq=>hq.imp id fun h=>by subst h;exact⟨hg,hgl⟩, ?_⟩;refine .sl _ g 0 l.length cap' 1 _ (fun i _=>.string ⟨⟨l.getD i []⟩⟩) aN (.inr ⟨rfl,.inr rfl⟩) hle hml (fun i hi=>by rw[hgt i hi];rfl) (fun i hi=>by rw[hgt i hi];rfl) (fun i j hi hj=>?_) (fun _ _ _ _=>rfl) (fun i j hi hj=>?_)
    ·obtain rfl:j=0:=ae;refine(cell_of_heap (c:=cur) (T:=ty) (fr:=(0,0)) hh ae).trans ?_;have e1:cur.toList[i]? =some (.string ⟨⟨l.getD i []⟩⟩):=by
      have e2:(cur.toList.take (l.length*1))[i]? =(l.map fun t=>Value.string ⟨⟨t⟩⟩)[i]? :=by rw[htk]
      rw[List.getElem?_take,av ae]at e2;rw[e2];simp[hi]
     have e3:cur[i]? =some (.string ⟨⟨l.getD i []⟩⟩):=by rw[<-e1];simp
     rw[show(0+i*1+0:Nat)=i by omega,Array.getD_eq_getD_getElem?,e3];rfl
    ·obtain rfl:j=0:=ae;rw[hgt i hi];have q2:=h i 0 hi ae;rw[hgt i hi]at q2;obtain⟨_,q3⟩:=gR q2;have:l.getD i []=l[i]:=by simp[hi]
     rw[this];exact .str _ q3
  rcases ha with he|⟨rfl,hI⟩
  ·have hnil:l=[]:=by simpa using he
   subst hnil;cases a with
   |none=>exact lK pH himm (Calls.mono (Tryz.slices_Clone_string_nil 0 cap x.w) fun e w' ⟨h1,h2⟩=>⟨h1,h2▸hH.refl _⟩) (fun x'=>.sl none 0 0 0 0 1 [] (fun _ _=>.nilIface) rfl (.inl rfl) (aM _) (by simp[maxLen]) (fun i hi=>ae) (fun i hi=>ae) (fun i j hi=>ae) (fun i j hi=>ae) (fun i j hi=>ae))
   |some a=>exact rR pH himm (Calls.mono (Tryz.slices_Clone_string_zero a cap x.w) fun e w' ⟨v',h1,h2,_,h3⟩=>fin e w' v' _ h1 h2 h3)
  ·have hcell:∀i,(hi:i<l.length)->x.w.cell? ⟨b,off+i,none⟩=some (.string ⟨⟨l[i]⟩⟩):=fun i hi=>by
    have q1:=hc i 0 hi ae;have q2:=h i 0 hi ae;have e:((l.map D.str).getD i .any).cells.getD 0 .any=.str l[i]:=by simp[hi,D.cells]
    rw[e]at q2;rw[(gR q2).1]at q1;simpa using q1
   refine rR pH himm (Calls.mono (Tryz.slices_Clone_string b off l.length cap (l.map fun t=>⟨⟨t⟩⟩) x.w aN ae (fun j hj=>?_)) fun e w' ⟨v',h1,h2,_,h3⟩=>?_)
   ·rw[bI]at hj;rw[hcell j hj];simp[hj]
   ·have:((l.map fun t=>(⟨⟨t⟩⟩:ByteArray)).take l.length).map Value.string=l.map fun t=>Value.string ⟨⟨t⟩⟩:=by
     rw[eK aN,List.map_map];rfl
    rw[this]at h2;exact fin e w' v' _ h1 h2 h3
def E489:Ow 131 489:=nD rfl fun ds st K h hok=>M7 rfl rfl Tryz.F6 Tryz.P8 (Go.Proofs.enters_of Tryz.F6.f166 pH rfl) ds st K h hok
def E664:Ow 132 664:=nD rfl fun ds st K h hok=>M6 rfl rfl Tryz.F7 Tryz.P8 (Go.Proofs.enters_of Tryz.F7.f167 pH rfl) ds st K h hok
def E452:Ow 96 452:=nD rfl fun ds st K h hok=>M5 rfl rfl Tryz.F8 Tryz.P8 (Go.Proofs.enters_of Tryz.F8.f169 pH rfl) ds st K h hok
def xR (sep:aq)(B:Nat):∀l:List aq,(∀t∈l,t.length<=B)->(bc sep l).length<=l.length*(B+sep.length)
 |[],_=>by simp[bc]
 |[t],h=>by have:=h t (.head _);simp only[bc,ax,az];omega
 |t::u::r,h=>by
  have h1:=h t (.head _);have h2:=xR sep B (u::r) fun x hx=>h x (.tail _ hx)
  rw[ik _ _ _ aN];rw[ax,Nat.succ_mul];simp only[bE];omega
def E242:Ow 95 242:=by
 refine bO rfl ?_;rintro l sep hp1 hp2 hp3 hok x args hl hargs hnl himm _;have h0:=hargs 0 aN;obtain⟨h1,_⟩:=gR (hargs 1 aN);rw[zO hl,h1];have hj:=xR sep 2097200 l hp3;have hj2:=ff (2097200+sep.length) hp1;have hj3:1048600*(2097200+sep.length)<=140737488355328:=by
  have:=Nat.mul_le_mul_left 1048600 (show 2097200+sep.length<=2097204 by omega);omega
 have hjm:(bc sep l).length<=140737488355328:=ae;simp only[iw]at h0;generalize args.getD 0 undef=v0 at h0⊢;cases h0 with
 |sl a b off len cap k es c hlen ha hcap hm hk hn hc h1 h=>
  simp only[bI]at hlen;subst hlen;rcases ha with he|⟨rfl,hI⟩
  ·have hnil:l=[]:=by simpa using he
   subst hnil;refine lK pH himm (Calls.mono (Tryz.strings_Join_none a cap ⟨⟨sep⟩⟩ x.w) fun e w' ⟨h1,h2⟩=>⟨h1,h2▸hH.refl _⟩) (fun x'=>?_);exact vo [] aN
  ·have hcell:∀i,(hi:i<l.length)->x.w.cell? ⟨b,off+i,none⟩=some (.string ⟨⟨l[i]⟩⟩):=fun i hi=>by
    have q1:=hc i 0 hi ae;have q2:=h i 0 hi ae;have e:((l.map D.str).getD i .any).cells.getD 0 .any=.str l[i]:=by simp[hi,D.cells]
    rw[e]at q2;rw[(gR q2).1]at q1;simpa using q1
   have e2:(l.map fun t=>(⟨⟨t⟩⟩:ByteArray)).map (fun t=>t.data.toList)=l:=by rw[List.map_map];exact List.map_id l
   have hjl:Lib.join ((l.map fun t=>(⟨⟨t⟩⟩:ByteArray)).map (fun t=>t.data.toList)) (⟨⟨sep⟩⟩:ByteArray).data.toList=bc sep l:=by rw[e2];exact(CX sep l).symm
   have key:=Tryz.strings_Join b off cap (l.map fun t=>⟨⟨t⟩⟩) ⟨⟨sep⟩⟩ x.w (fun j y hy=>by
    rw[List.getElem?_map,dM]at hy;obtain⟨t,ht,rfl⟩:=hy;obtain⟨hlt,rfl⟩:=List.getElem?_eq_some_iff.1 ht;exact hcell j hlt) (himm b hI) cX (by simpa using hcap) (by rw[hjl];exact hjm)
   rw[hjl,bI]at key;refine lK pH himm (Calls.mono key fun e w' ⟨h1,h2⟩=>⟨h1,h2.os,h2.tape,h2.output,h2.size,h2.block⟩) (fun x'=>?_);exact .str _ (by simp only[maxLen];omega)
end
section
section
variable [dy]
def H69:Ow 12 69:=bO rfl (bd bH ck rfl (w69 (aV _ _ _ _) G72 G76))
def H77:Ow 14 77:=bO rfl fun s=>bd bH ck rfl (w77 (aV _ _ _ _) G71 G223 G224 s)
def H211:Ow 44 211:=bO rfl fun r name rng hp0=>bd bH ck rfl (w211 (aV _ _ _ _) PI G444 r name rng hp0)
def H217:Ow 51 217:=bO rfl fun v hp0=>bd bH ck rfl (w217 (aV _ _ _ _) G455 G456 v hp0)
def H225:Ow 32 225:=bO rfl fun a b=>bd bH ck rfl (w225 (aV _ _ _ _) G477 a b)
def H231:Ow 38 231:=bO rfl fun l i hp0=>bd bH ck rfl (w231 (aV _ _ _ _) Jw Ts l i hp0)
def H357:Ow 140 357:=bO rfl fun s=>bd bH ck rfl (w357 (aV _ _ _ _) To PK s)
def H445:Ow 88 445:=bO rfl fun s=>bd bH ck rfl (w445 (aV _ _ _ _) Mv G660 Tv s)
def H451:Ow 94 451:=bO rfl fun v hp0=>bd bH ck rfl (w451 (aV _ _ _ _) Mw Tx v hp0)
def H458:Ow 102 458:=bO rfl fun r b hp0=>bd bH ck rfl (w458 (aV _ _ _ _) Mx Tt Ty r b hp0)
def H466:Ow 62 466:=bO rfl fun s hp0=>bd bH ck rfl (w466 (aV _ _ _ _) Mw Tn MA PQ G675 s hp0)
def H473:Ow 69 473:=nD rfl fun x t hp0 hp1 hp2 hp3 hp4 nx j0 j1 j2 j3 j4 m K h1 h2 h3 hK=>rm rfl bH ck rfl h1 h2 h3 hK (w473 (aV _ _ _ _) t x.r.name x.r.v x.r.needs x.r.bars x.r.feats x.st PL hp0 hp1 hp2 hp3 hp4)
def H479:Ow 40 479:=bO rfl fun l i=>bd bH ck rfl (w479 (aV _ _ _ _) l i)
def H495:Ow 123 495:=bO rfl fun s hp0=>bd bH ck rfl (w495 (aV _ _ _ _) Mv G682 G683 PT G685 TH s hp0)
def H658:Ow 116 658:=bO rfl fun s=>bd bH ck rfl (w658 (aV _ _ _ _) s)
def H665:Ow 133 665:=bO rfl fun n hp0=>bd bH ck rfl (w665 (aV _ _ _ _) G336 n hp0)
def H671:Ow 142 671:=bO rfl fun l of hp0=>bd bH ck rfl (w671 (aV _ _ _ _) Tz TE G816 l of hp0)
def H677:Ow 120 677:=nD rfl fun c hp0 nx m K hK=>IY rfl rfl bH ck rfl rfl hK (w677 (aV _ _ _ _) c TC hp0)
def H741:Ow 151 741:=bO rfl fun s b=>bd bH ck rfl (w741 (aV _ _ _ _) s b)
def H810:Ow 160 810:=bO rfl fun l=>bd bH ck rfl (w810 (aV _ _ _ _) Hi l)
def H816:Ow 173 816:=bO rfl fun l nm=>bd bH ck rfl (w816 (aV _ _ _ _) G955 l nm)
def H897:Ow 204 897:=bO rfl fun s hp0=>bd bH ck rfl (w897 (aV _ _ _ _) zi PN S0 S1 S2 s hp0)
def H947:Ow 191 947:=nD rfl fun w nd b nx lp ln m K h1 h2 h3 h4 hK=>vj q9 aF rfl (fun _=>rfl) bH ck rfl h1 h2 h3 h4 hK (w947 (aV _ _ _ _) w nd b PW)
def H953:Ow 201 953:=bO rfl fun m=>bd bH ck rfl (w953 (aV _ _ _ _) TN S4 m)
def TQ:Ow 225 1007:=bO rfl fun s=>bd bH ck rfl (UO (aV _ _ _ _) s)
def TX:Ow 222 1035:=bO rfl fun l hp0=>bd bH ck rfl (UU (aV _ _ _ _) S7 l hp0)
def T3:Ow 236 1100:=bO rfl fun s b hp0=>bd bH ck rfl (U1 (aV _ _ _ _) s b hp0)
end
end
section
section
variable [dy]
def H70:Ow 20 70:=bO rfl fun r hp0=>bd bH ck rfl (w70 (aV _ _ _ _) PI Mw G210 Tb Tc G213 G214 Td r hp0)
def H78:Ow 15 78:=bO rfl fun a b=>bd bH ck rfl (w78 (aV _ _ _ _) G225 Tf a b)
def H212:Ow 45 212:=bO rfl fun s=>bd bH ck rfl (w212 (aV _ _ _ _) G445 G446 s)
def H218:Ow 52 218:=bO rfl fun r hp0=>bd bH ck rfl (w218 (aV _ _ _ _) G457 G458 G459 G460 r hp0)
def H226:Ow 33 226:=bO rfl fun a b=>bd bH ck rfl (w226 (aV _ _ _ _) a b)
def H232:Ow 39 232:=bO rfl fun l i r hp0 hp1=>bd bH ck rfl (w232 (aV _ _ _ _) Jx PM G483 l i r hp0 hp1)
def H440:Ow 82 440:=bO rfl fun n=>bd bH ck rfl (w440 (aV _ _ _ _) n)
def H446:Ow 89 446:=bO rfl fun m=>bd bH ck rfl (w446 (aV _ _ _ _) Tv Tw m)
def H453:Ow 97 453:=bO rfl fun c=>bd bH ck rfl (w453 (aV _ _ _ _) c)
def H459:Ow 103 459:=bO rfl fun l hp0=>bd bH ck rfl (w459 (aV _ _ _ _) Hj G671 l hp0)
def H467:Ow 63 467:=QE rfl SX fun r hp0=>CS 2 bH ck rfl rfl (w467 (aV _ _ _ _) Mv Tp Tq r hp0)
def H474:Ow 70 474:=bO rfl fun l n=>bd bH ck rfl (w474 (aV _ _ _ _) l n)
def H480:Ow 78 480:=bO rfl fun l i own alone hp0 hp1=>bd bH ck rfl (w480 (aV _ _ _ _) Tg Jw Th l i own alone hp0 hp1)
def H496:Ow 124 496:=bO rfl fun r hp0=>bd bH ck rfl (w496 (aV _ _ _ _) PT r hp0)
def H659:Ow 122 659:=bO rfl fun t=>bd bH ck rfl (w659 (aV _ _ _ _) t)
def H666:Ow 135 666:=bO rfl fun t=>bd bH ck rfl (w666 (aV _ _ _ _) t)
def H672:Ow 143 672:=bO rfl fun s hp0=>bd bH ck rfl (w672 (aV _ _ _ _) Mx Hj zi s hp0)
def H678:Ow 121 678:=bO rfl fun op=>bd bH ck rfl (w678 (aV _ _ _ _) op)
def H742:Ow 152 742:=bO rfl fun l=>bd bH ck rfl (w742 (aV _ _ _ _) PS l)
def H811:Ow 161 811:=bO rfl fun l i hp0=>bd bH ck rfl (w811 (aV _ _ _ _) TJ l i (On (aM _)) (TK (aM _)) hp0)
def H819:Ow 180 819:=bO rfl fun s hp0=>bd bH ck rfl (w819 (aV _ _ _ _) MA PQ PU TF G956 TO s hp0)
def H898:Ow 205 898:=bO rfl fun s=>bd bH ck rfl (w898 (aV _ _ _ _) s)
def H948:Ow 192 948:=nD rfl fun x w nd b hp0 nx lp ln m K h1 h2 h3 h4 hK=>gz q9 aF rfl (fun _=>rfl) bH ck rfl h1 h2 h3 h4 hK (w948 (aV _ _ _ _) x w nd b hp0)
def H954:Ow 202 954:=bO rfl fun l hp0=>bd bH ck rfl (w954 (aV _ _ _ _) S5 l hp0)
def TR:Ow 226 1008:=bO rfl fun l=>bd bH ck rfl (UP (aV _ _ _ _) PS l)
def TY:Ow 223 1036:=bO rfl fun l i hp0=>bd bH ck rfl (UW (aV _ _ _ _) Ol S8 l i (PH (aM _)) hp0)
def T4:Ow 245 1126:=nD rfl fun W w nd hp0 hp1 nx lp ln m K h1 h2 h3 h4 hK=>gz (tk _) aF rfl (fun _=>rfl) bH ck rfl h1 h2 h3 h4 hK (U2 (aV _ _ _ _) W w nd Hj FZ Ol Ta hp0 hp1)
end
end
section
section
variable [dy]
def H71:Ow 23 71:=bO rfl fun r hp0=>bd bH ck rfl (w71 (aV _ _ _ _) Mx My G218 Te r hp0)
def H79:Ow 17 79:=bO rfl fun l i own hp0 hp1=>bd bH ck rfl (w79 (aV _ _ _ _) Tg Jw G229 Th Ti G232 l i own hp0 hp1)
def H213:Ow 46 213:=bO rfl fun l hp0=>bd bH ck rfl (w213 (aV _ _ _ _) Hi G447 Tm G449 l hp0)
def H219:Ow 34 219:=bO rfl fun r hp0=>bd bH ck rfl (w219 (aV _ _ _ _) Mz G316 G461 G462 r hp0)
def H227:Ow 35 227:=bO rfl fun n=>bd bH ck rfl (w227 (aV _ _ _ _) Jx n)
def H246:Ow 113 246:=bO rfl fun l x=>bd bH ck rfl (w246 (aV _ _ _ _) G494 l x)
def H441:Ow 83 441:=bO rfl fun s hp0=>bd bH ck rfl (w441 (aV _ _ _ _) Tl MA PQ G659 s hp0)
def H447:Ow 90 447:=bO rfl fun l=>bd bH ck rfl (w447 (aV _ _ _ _) l)
def H454:Ow 98 454:=bO rfl fun c=>bd bH ck rfl (w454 (aV _ _ _ _) c)
def H460:Ow 104 460:=bO rfl fun r of hp0=>bd bH ck rfl (w460 (aV _ _ _ _) Tz G673 G674 r of hp0)
def H468:Ow 64 468:=QE rfl SY fun r hp0=>CS 2 bH ck rfl rfl (w468 (aV _ _ _ _) Tp r hp0)
def H475:Ow 71 475:=bO rfl fun s n hp0 hp1=>bd bH ck rfl (w475 (aV _ _ _ _) Mz zi s n hp0 hp1)
def H481:Ow 79 481:=bO rfl fun n=>bd bH ck rfl (w481 (aV _ _ _ _) Jx n)
def H533:Ow 115 533:=bO rfl fun s b hp0=>bd bH ck rfl (w533 (aV _ _ _ _) s b hp0)
def H660:Ow 125 660:=nD rfl fun w nd hp0 nx lp ln m K h1 h2 h3 h4 hK=>gz q9 aF rfl (fun _=>rfl) bH ck rfl h1 h2 h3 h4 hK (w660 (aV _ _ _ _) w nd (Om (Nat.le_of_eq (oe (c:=fun _=>4) h1).symm)) hp0)
def H667:Ow 136 667:=bO rfl fun s=>bd bH ck rfl (w667 (aV _ _ _ _) PK s)
def H673:Ow 144 673:=bO rfl fun r x=>bd bH ck rfl (w673 (aV _ _ _ _) r x)
def H682:Ow 154 682:=bO rfl fun s hp0=>bd bH ck rfl (w682 (aV _ _ _ _) G819 s hp0)
def H744:Ow 170 744:=bO rfl fun s hp0=>bd bH ck rfl (w744 (aV _ _ _ _) zi G896 G897 G898 TG PV s hp0)
def H812:Ow 167 812:=bO rfl fun l al=>bd bH ck rfl (w812 (aV _ _ _ _) Hj TE l al)
def H827:Ow 188 827:=bO rfl fun c hp0=>bd bH ck rfl (w827 (aV _ _ _ _) Mw c hp0)
def H899:Ow 206 899:=bO rfl fun r hp0=>bd bH ck rfl (w899 (aV _ _ _ _) TA r hp0)
def H949:Ow 193 949:=nD rfl fun w nd hp0 nx lp ln m K h1 h2 h3 h4 hK=>gz q9 aF rfl (fun _=>rfl) bH ck rfl h1 h2 h3 h4 hK (w949 (aV _ _ _ _) w nd (Tu (Nat.le_of_eq (oe (c:=fun _=>0) h1).symm)) MB MC (Oo (Nat.le_of_eq (oe (c:=fun _=>0) h1).symm)) S3 hp0)
def H955:Ow 209 955:=bO rfl fun l nm=>bd bH ck rfl (w955 (aV _ _ _ _) l nm)
def TS:Ow 217 1031:=nD rfl fun k w nd b hp0 nx lp ln m K h1 h2 h3 h4 hK=>gz q9 aF rfl (fun _=>rfl) bH ck rfl h1 h2 h3 h4 hK (UQ (aV _ _ _ _) k w nd b Hi MB MC TJ hp0)
def TZ:Ow 237 1079:=bO rfl fun s w=>bd bH ck rfl (UX (aV _ _ _ _) s w)
def T5:Ow 248 1141:=nD rfl fun W w nd b hp0 nx lp ln m K h1 h2 h3 h4 hK=>vj (tk _) aF rfl (fun _=>rfl) bH ck rfl h1 h2 h3 h4 hK (U3 (aV _ _ _ _) W w nd b hp0)
end
end
section
section
variable [dy]
def H72:Ow 21 72:=bO rfl fun r hp0=>bd bH ck rfl (w72 (aV _ _ _ _) G70 Td r hp0)
def H208:Ow 41 208:=bO rfl fun s=>bd bH ck rfl (w208 (aV _ _ _ _) s)
def H214:Ow 47 214:=bO rfl fun r s hp0=>bd bH ck rfl (w214 (aV _ _ _ _) Tm r s hp0)
def H222:Ow 29 222:=QE rfl SV fun r hp0=>CS 2 bH ck rfl rfl (w222 (aV _ _ _ _) G466 G467 Tq G469 TI r hp0)
def H228:Ow 19 228:=bO rfl fun l i n hp0=>bd bH ck rfl (w228 (aV _ _ _ _) Jx PM l i n hp0)
def H249:Ow 77 249:=bO rfl fun l x hp0=>bd bH ck rfl (w249 (aV _ _ _ _) l x hp0)
def H442:Ow 84 442:=bO rfl fun s hp0=>bd bH ck rfl (w442 (aV _ _ _ _) MA s hp0)
def H448:Ow 91 448:=bO rfl fun s hp0=>bd bH ck rfl (w448 (aV _ _ _ _) PI G254 Hi G487 s hp0)
def H455:Ow 99 455:=bO rfl fun n=>bd bH ck rfl (w455 (aV _ _ _ _) n)
def H461:Ow 75 461:=bO rfl fun w hp0=>bd bH ck rfl (w461 (aV _ _ _ _) Mz w hp0)
def H470:Ow 66 470:=bO rfl fun s b hp0=>bd bH ck rfl (w470 (aV _ _ _ _) s b hp0)
def H476:Ow 72 476:=nD rfl fun x l hp0 hp1 nx j0 j1 j2 j3 j4 m K h1 h2 h3 hK=>rm (by simp only[bx,D.bG,iO]) bH ck rfl h1 h2 h3 hK (w476 (aV _ _ _ _) l x.r.name x.r.v x.r.needs x.r.bars x.r.feats x.st Tr hp0 hp1)
def H482:Ow 80 482:=bO rfl fun c hp0=>bd bH ck rfl (w482 (aV _ _ _ _) Mz TA G677 TB c hp0)
def H554:Ow 118 554:=bO rfl fun v hp0=>bd bH ck rfl (w554 (aV _ _ _ _) TC v hp0)
def H661:Ow 126 661:=bO rfl fun m=>bd bH ck rfl (w661 (aV _ _ _ _) Tw G810 m)
def H668:Ow 137 668:=bO rfl fun t=>bd bH ck rfl (w668 (aV _ _ _ _) t)
def H674:Ow 145 674:=bO rfl fun r x=>bd bH ck rfl (w674 (aV _ _ _ _) r x)
def H684:Ow 156 684:=bO rfl fun r hp0=>bd bH ck rfl (w684 (aV _ _ _ _) PJ PU TF r hp0)
def H745:Ow 171 745:=bO rfl fun r hp0=>bd bH ck rfl (w745 (aV _ _ _ _) PV G901 r hp0)
def H813:Ow 168 813:=bO rfl fun s=>bd bH ck rfl (w813 (aV _ _ _ _) zi G952 TM s)
def H828:Ow 189 828:=bO rfl fun c hp0=>bd bH ck rfl (w828 (aV _ _ _ _) Tx PU TO c hp0)
def H900:Ow 207 900:=bO rfl fun r hp0=>bd bH ck rfl (w900 (aV _ _ _ _) PN r hp0)
def H950:Ow 194 950:=bO rfl (bd bH ck rfl (w950 (aV _ _ _ _)))
def H956:Ow 212 956:=bO rfl fun s w=>bd bH ck rfl (w956 (aV _ _ _ _) s w)
def TU:Ow 219 1032:=nD rfl fun W w nd hp0 hp1 nx lp ln m K h1 h2 h3 h4 hK=>gz (tk _) aF rfl (fun _=>rfl) bH ck rfl h1 h2 h3 h4 hK (UR (aV _ _ _ _) W w nd Ju FZ (Jv (Nat.le_of_eq (td (c:=fun _=>1) hp0.1 h1).symm)) hp0 hp1)
def T0:Ow 233 1097:=nD rfl fun W w nd hp0 hp1 nx lp ln m K h1 h2 h3 h4 hK=>gz (tk _) aF rfl (fun _=>rfl) bH ck rfl h1 h2 h3 h4 hK (UY (aV _ _ _ _) W w nd (TL (Nat.le_of_eq (td (c:=fun _=>0) hp0.1 h1).symm)) Ju FZ (Jv (Nat.le_of_eq (td (c:=fun _=>0) hp0.1 h1).symm)) S9 hp0 hp1)
def T6:Ow 4 1190:=bO rfl fun l a c b=>bd bH ck rfl (U4 (aV _ _ _ _) G69 G73 G76 G77 G78 G79 Jx l a c b)
end
end
section
section
variable [dy]
def H73:Ow 16 73:=bO rfl fun r hp0=>bd bH ck rfl (w73 (aV _ _ _ _) G71 Te r hp0)
def H209:Ow 42 209:=bO rfl fun v hp0=>bd bH ck rfl (w209 (aV _ _ _ _) G440 G441 Tl v hp0)
def H215:Ow 48 215:=bO rfl fun r hp0=>bd bH ck rfl (w215 (aV _ _ _ _) PJ G450 Tn G452 r hp0)
def H223:Ow 30 223:=bO rfl fun s hp0=>bd bH ck rfl (w223 (aV _ _ _ _) zi s hp0)
def H229:Ow 36 229:=bO rfl fun l i own hp0 hp1=>bd bH ck rfl (w229 (aV _ _ _ _) Jw Ti PM G480 Ts l i own hp0 hp1)
def H316:Ow 74 316:=bO rfl fun v hp0=>bd bH ck rfl (w316 (aV _ _ _ _) My G554 v hp0)
def H443:Ow 85 443:=bO rfl fun r w al hp0=>bd bH ck rfl (w443 (aV _ _ _ _) Tb Hi r w al hp0)
def H449:Ow 92 449:=bO rfl fun l nm=>bd bH ck rfl (w449 (aV _ _ _ _) G663 l nm)
def H456:Ow 100 456:=bO rfl fun s p hp0=>bd bH ck rfl (w456 (aV _ _ _ _) zi G666 PS G668 s p hp0)
def H462:Ow 76 462:=bO rfl fun s hp0=>bd bH ck rfl (w462 (aV _ _ _ _) s hp0)
def H471:Ow 67 471:=nD rfl fun x l hp0 nx j0 j1 j2 j3 j4 m K h1 h2 h3 hK=>rm (by simp only[bx,D.bG,iO]) bH ck rfl h1 h2 h3 hK (w471 (aV _ _ _ _) l x.r.name x.r.v x.r.needs x.r.bars x.r.feats x.st G568 hp0)
def H477:Ow 73 477:=bO rfl fun a b=>bd bH ck rfl (w477 (aV _ _ _ _) Tf a b)
def H483:Ow 81 483:=bO rfl fun l s hp0=>bd bH ck rfl (w483 (aV _ _ _ _) l s hp0)
def H568:Ow 117 568:=bO rfl fun s hp0=>bd bH ck rfl (w568 (aV _ _ _ _) My zi G741 G742 s hp0)
def H662:Ow 127 662:=bO rfl fun l hp0=>bd bH ck rfl (w662 (aV _ _ _ _) G811 l hp0)
def H669:Ow 138 669:=bO rfl fun r w al hp0=>bd bH ck rfl (w669 (aV _ _ _ _) Mx Tt G812 r w al hp0)
def H675:Ow 114 675:=bO rfl fun s b=>bd bH ck rfl (w675 (aV _ _ _ _) s b)
def H685:Ow 157 685:=bO rfl fun r hp0=>bd bH ck rfl (w685 (aV _ _ _ _) PT r hp0)
def H808:Ow 158 808:=nD rfl ⟨fun w nd hp0 nx lp ln m K h1 h2 h3 h4 hK=>gz q9 aF rfl (fun _=>rfl) bH ck rfl h1 h2 h3 h4 hK (U6 (aV _ _ _ _) kM 809 qt 4 w nd PW MB MC hp0 xq aF aF (fun w2 nd2 hl hp=>TD (aM _) w2 nd2 hp (by rw[oe h1];exact(show 6*w2.length+2<6*w.length+3 by omega)))),fun w nd hp0 nx lp ln m K h1 h2 h3 h4 hK=>gz q9 aF rfl (fun _=>rfl) bH ck rfl h1 h2 h3 h4 hK (U6 (aV _ _ _ _) j7 949 lG 3 w nd PW MB MC hp0 uL aF aF (fun w2 nd2 hl hp=>Oo (aM _) w2 nd2 hp (by rw[oe h1];exact(show 6*w2.length+0<6*w.length+1 by omega))))⟩
def H814:Ow 169 814:=bO rfl fun m=>bd bH ck rfl (w814 (aV _ _ _ _) TM TN m)
def H882:Ow 179 882:=bO rfl fun n hp0=>bd bH ck rfl (w882 (aV _ _ _ _) n hp0)
def H901:Ow 208 901:=bO rfl fun r hp0=>bd bH ck rfl (w901 (aV _ _ _ _) TG PV r hp0)
def H951:Ow 195 951:=bO rfl fun l i b hp0=>bd bH ck rfl (w951 (aV _ _ _ _) l i b (On (aM _)) hp0)
def H957:Ow 213 957:=bO rfl fun op=>bd bH ck rfl (w957 (aV _ _ _ _) op)
def TV:Ow 220 1033:=nD rfl fun s W w nd b hp0 nx lp ln m K h1 h2 h3 h4 hK=>vj (tk _) aF rfl (fun _=>rfl) bH ck rfl h1 h2 h3 h4 hK (US (aV _ _ _ _) s W w nd b hp0)
def T1:Ow 234 1098:=bO rfl fun n=>bd bH ck rfl (UZ (aV _ _ _ _) Hj n)
end
end
section
section
variable [dy]
def H76:Ow 13 76:=bO rfl fun s=>bd bH ck rfl (w76 (aV _ _ _ _) G70 Mv G222 s)
def H210:Ow 43 210:=bO rfl fun r n hp0=>bd bH ck rfl (w210 (aV _ _ _ _) Tc Hi G443 r n hp0)
def H216:Ow 50 216:=bO rfl fun s=>bd bH ck rfl (w216 (aV _ _ _ _) To PK s)
def H224:Ow 31 224:=nD rfl fun x t hp0 hp1 hp2 nx j0 j1 j2 j3 j4 m K h1 h2 h3 hK=>rm rfl bH ck rfl h1 h2 h3 hK (w224 (aV _ _ _ _) t x.r.name x.r.v x.r.needs x.r.bars x.r.feats x.st zi G471 G472 G473 Tr PL G476 hp2 hp0.1 hp0.2.1 hp0.2.2 (by unfold iX.sz at hp1;omega))
def H230:Ow 37 230:=bO rfl fun l i hp0=>bd bH ck rfl (w230 (aV _ _ _ _) Jw PN l i hp0)
def H349:Ow 86 349:=bO rfl fun s=>bd bH ck rfl (w349 (aV _ _ _ _) s)
def H444:Ow 87 444:=bO rfl fun s hp0=>bd bH ck rfl (w444 (aV _ _ _ _) G495 G496 s hp0)
def H450:Ow 93 450:=nD rfl fun ws t l lw nx m K h1 h2 h3 h4 hp2 hK=>H8 bH ck rfl h1 h2 h3 h4 hK fun m0 hp0 hp1=>w450 (aV _ _ _ _) ws t m0 PJ G489 G664 hp0 hp1 hp2
def H457:Ow 101 457:=bO rfl fun r n hp0=>bd bH ck rfl (w457 (aV _ _ _ _) Hj G669 Ty r n hp0)
def H465:Ow 61 465:=Uo rfl SW (fun r w n op hp0 hp1 hp2=>CS 2 bH ck rfl rfl (U5 (aV _ _ _ _) Tj Tk r w n op hp0 hp1 hp2)) fun r w n op l nx m K hp0 hp1 hp2 hl hK=>M4 (CS 2 bH ck rfl rfl (U5 (aV _ _ _ _) Tj Tk r w n op hp0 hp1 hp2)) hl rfl rfl hK
def H472:Ow 68 472:=nD rfl fun x t hp0 hp1 hp2 hp3 nx j0 j1 j2 j3 j4 m K h1 h2 h3 hK=>rm rfl bH ck rfl h1 h2 h3 hK (w472 (aV _ _ _ _) t x.r.name x.r.v x.r.needs x.r.bars x.r.feats x.st zi PL hp0 hp1 hp2 hp3)
def H478:Ow 18 478:=bO rfl fun v n hp0=>bd bH ck rfl (w478 (aV _ _ _ _) v n hp0)
def H494:Ow 150 494:=bO rfl fun l x=>bd bH ck rfl (w494 (aV _ _ _ _) l x)
def H572:Ow 141 572:=bO rfl fun s hp0=>bd bH ck rfl (w572 (aV _ _ _ _) G744 G745 s hp0)
def H663:Ow 130 663:=bO rfl fun l nm=>bd bH ck rfl (w663 (aV _ _ _ _) l nm)
def H670:Ow 139 670:=bO rfl fun s=>bd bH ck rfl (w670 (aV _ _ _ _) G813 G814 s)
def H676:Ow 119 676:=bO rfl fun c hp0=>bd bH ck rfl (w676 (aV _ _ _ _) My c hp0)
def H734:Ow 153 734:=bO rfl fun n hp0=>bd bH ck rfl (w734 (aV _ _ _ _) G882 n hp0)
def H809:Ow 159 809:=nD rfl fun w nd hp0 nx lp ln m K h1 h2 h3 h4 hK=>gz q9 aF rfl (fun _=>rfl) bH ck rfl h1 h2 h3 h4 hK (w809 (aV _ _ _ _) w nd (Om (Nat.le_of_eq (oe (c:=fun _=>2) h1).symm)) hp0)
def H815:Ow 172 815:=bO rfl fun l=>bd bH ck rfl (w815 (aV _ _ _ _) l)
def H896:Ow 203 896:=bO rfl fun s hp0=>bd bH ck rfl (w896 (aV _ _ _ _) s hp0)
def H946:Ow 190 946:=bO rfl fun w es b=>bd bH ck rfl (w946 (aV _ _ _ _) w es b)
def H952:Ow 200 952:=nD rfl fun W w nd hp0 hp1 nx lp ln m K h1 h2 h3 h4 hK=>gz (tk _) aF rfl (fun _=>rfl) bH ck rfl h1 h2 h3 h4 hK (w952 (aV _ _ _ _) W w nd (PG (Nat.le_of_eq (td (c:=fun _=>2) hp0.1 h1).symm)) Ju FZ hp0 hp1)
def TP:Ow 224 1006:=bO rfl fun s=>bd bH ck rfl (UN (aV _ _ _ _) TB S6 s)
def TW:Ow 221 1034:=nD rfl fun x W w nd b hp0 nx lp ln m K h1 h2 h3 h4 hK=>gz (tk _) aF rfl (fun _=>rfl) bH ck rfl h1 h2 h3 h4 hK (UT (aV _ _ _ _) x W w nd b hp0)
def T2:Ow 235 1099:=bO rfl fun k hp0=>bd bH ck rfl (U0 (aV _ _ _ _) k hp0)
end
end
def Mh:List (Nat×Nat)->Prop
 |[]=>True
 |p::r=>Ow p.1 p.2/\Mh r
def Mh.mem:∀{l:List (Nat×Nat)},Mh l->∀p∈l,Ow p.1 p.2
 |p::r,h,q,hq=>by
  rcases dr.1 hq with rfl|hq
  ·exact h.1
  ·exact h.2.mem q hq
def allY:Mh wz:=⟨T6,H69,H76,H77,H78,H73,H79,H478,H228,H70,H72,H71,E124,H222,H223,H224,H225,H226,H219,H227,H229,H230,H231,H232,H479,H208,H209,H210,H211,H212,H213,H214,H215,H216,H217,H218,H465,H466,H467,H468,E469,H470,H471,H472,H473,H474,H475,H476,H477,H316,H461,H462,H249,H480,H481,H482,H483,H440,H441,H442,H443,H349,H444,H445,H446,H447,H448,H449,H450,H451,E242,E452,H453,H454,H455,H456,H457,H458,H459,H460,E245,H246,H675,H533,H658,H568,H554,H676,H677,H678,H659,H495,H496,H660,H661,H662,E254,E487,H663,E489,E664,H665,H666,H667,H668,H669,H670,H357,H572,H671,H672,H673,H674,H494,H741,H742,H734,H682,E683,H684,H685,H808,H809,H810,H811,E336,H812,H813,H814,H744,H745,H815,H816,H882,H819,H827,H828,H946,H947,H948,H949,H950,H951,H952,H953,H954,H896,H897,H898,H899,H900,H901,H955,H956,H957,TS,TU,TV,TW,TX,TY,TP,TQ,TR,T0,T1,T2,T3,TZ,T4,T5,trivial⟩
def uC:∀{l:List (Nat×Nat)}{a b:Nat},fE l a=some b->(a,b)∈l
 |[],_,_,h=>by simp[fE]at h
 |(c,d)::r,a,b,h=>by
  simp only[fE]at h;split at h
  ·rename_i e;simp_all
  ·exact .tail _ (uC h)
def okY:Ok (Go.Proofs.Tryz.prog) wz JX (zn bp):=okA (fun fid n hn=>(show ∀p∈wz,p.2<1000000 by decide+kernel) _ (uC hn)) (fun t ht=>by simp[JX]at ht;show t=133;omega) fun fid n hn=>allY.mem (fid,n) (uC hn)
section
open Go.RowKit Go.ChangeShapes
def hH.below {w w':World}(h:hH w w'):Below w.heap.size w w':=⟨h.os,h.tape,h.output,h.size,h.old⟩
section
variable {H:Type} {enc:TypeId×Value->H} {P:Program}
def zD {f:Func}{s:ChangeSpec}{apart fresh handsOn again:Bool}{W W':World}{args:Array Value}{v:Value}{ds gs:List (DataW H)}{before pa pv:List MemPlace}
  (hW:DataW.Whole enc P f.params.toList s.vars apart W args.toList ds gs before)
  (hres:∀(b:Nat) (sp:Nat->Bool) (hd:Bool),DataW.TrodAll enc P W' b sp hd f.resultTypes.toList (v.resultList f.resultTypes.size) (s.fn H (ds++gs)).results [])
  (hargs:∀sp:Nat->Bool,(∀p∈before,sp p.block=true)->DataW.TrodAll enc P W' 0 sp true f.params.toList args.toList (s.fn H (ds++gs)).args pa)
  (hvars:∀sp:Nat->Bool,(∀p∈before,sp p.block=true)->DataW.TrodVars enc P W' sp s.vars (s.fn H (ds++gs)).vars pv)
  (hps:before=pa++pv) (hb:Below W.heap.size W W')
  (hok:∀(j:Nat) (t:TypeId) (r:Value),f.resultTypes[j]? =some t->(v.resultList f.resultTypes.size)[j]? =some r->Value.okWide P W' .any 0 t r):
  s.post enc P f apart fresh handsOn again W args v W':=by
 have hold:∀p∈before,(fun b=>decide (b<W.heap.size)) p.block=true:=fun p hp=>by simpa using hW.lt p hp
 refine⟨ds,gs,before,[],pa,pv,hW,hres _ _ _,hargs _ hold,hvars _ hold,World.keptBut_mono (fun p hp=>⟨hp, ?_⟩) (hb.frame (· ∈before)),fun _=>?_⟩
 ·rw[hps,List.mem_append]at hp;exact Or.inr hp
 ·have hlt:=hW.lt;obtain⟨_,_,_,_,_,hz,hn⟩:=hW;refine⟨hok,_,_,([]++pa)++pv,⟨[]++pa,pv,trodAll_append (hargs _ (fun _ _=>rfl)) (hres _ _ _),hvars _ (fun _ _=>rfl),rfl, ?_, ?_⟩, ?_⟩
  ·intro b off hp;have hmem:MemPlace.cell b off∈before:=by rw[hps];simpa using hp
   have hq:=hz b off hmem;have hl:b<W.heap.size:=hlt _ hmem;simpa only[World.frozen?,hb.block b hl]using hq
  ·intro ha;have:=hn ha;rw[hps]at this;simpa using this
  ·intro p hp _;rw[hps];simpa using hp
end
end
section
inductive Lf
 |str
 |int (k:IntKind)
 |bool
 |sl (ag:Bool) (k:Nat) (cs:List Lf)
mutual
def fit:Lf->D->Nat->Prop
 | .str,d,n=>∃s,d=.str s/\s.length+1<=n
 | .int k,d,n=>(∃m,d=.int k m/\(Lit.int k m).wf=true)/\1<=n
 | .bool,d,n=>(∃b,d=.bool b)/\1<=n
 | .sl ag k cs,d,n=>∃es,d=.sl k es/\∃ns:List Nat,ns.length=es.length/\ns.sum+1<=n/\∀i,i<es.length->∃ds,es.getD i .any=(bif ag then .agg ds else ds.getD 0 .any)/\lv cs ds (ns.getD i 0)
def lv:List Lf->List D->Nat->Prop
 |[],ds,_=>ds=[]
 |c::r,ds,n=>∃d ds' n1 n2,ds=d::ds'/\n1+n2<=n/\fit c d n1/\lv r ds' n2
end
def tP:∀{cs:List Lf}{ds:List D}{n:Nat},lv cs ds n->ds.length=cs.length
 |[],ds,n,h=>by simp only[lv]at h;simp[h]
 |c::r,ds,n,h=>by
  simp only[lv]at h;obtain⟨d,ds',n1,n2,rfl,_,_,h2⟩:=h;simp[tP h2]
def vO:∀{a b:List Lf}{da db:List D}{n m:Nat},lv a da n->lv b db m->lv (a++b) (da++db) (n+m)
 |[],b,da,db,n,m,h1,h2=>by
  simp only[lv]at h1;subst h1;simp only[eY];exact fitL_mono h2 ae
 |c::r,b,da,db,n,m,h1,h2=>by
  simp only[lv]at h1;obtain⟨d,ds',n1,n2,rfl,h3,h4,h5⟩:=h1;simp only[fu,lv];exact⟨d,ds'++db,n1,n2+m,rfl,ae,h4,vO h5 h2⟩
where
 fitL_mono:∀{cs:List Lf} {ds:List D} {n m:Nat},lv cs ds n->n<=m->lv cs ds m
 |[],_,_,_,h,_=>h
 |c::r,ds,n,m,h,hm=>by
  simp only[lv]at h⊢;obtain⟨d,ds',n1,n2,rfl,h3,h4,h5⟩:=h;exact⟨d,ds',n1,n2,rfl,ae,h4,h5⟩
def Gd {c:Lf}{d:D}{n:Nat}(h:fit c d n):d.cells=[d]/\d.bG=true:=by
 cases c<;>simp only[fit]at h
 ·obtain⟨s,rfl,_⟩:=h;exact⟨rfl,rfl⟩
 ·obtain⟨⟨m,rfl,_⟩,_⟩:=h;exact⟨rfl,rfl⟩
 ·obtain⟨⟨b,rfl⟩,_⟩:=h;exact⟨rfl,rfl⟩
 ·obtain⟨es,rfl,_⟩:=h;exact⟨rfl,rfl⟩
def sU:∀{cs:List Lf}{ds:List D}{n:Nat},lv cs ds n->bx ds=true
 |[],ds,n,h=>by simp only[lv]at h;subst h;rfl
 |c::r,ds,n,h=>by
  simp only[lv]at h;obtain⟨d,ds',n1,n2,rfl,_,h1,h2⟩:=h;simp only[bx,(Gd h1).2,sU h2,Bool.and_self]
def Hm (b o m j:Nat):((⟨b,o,none⟩:Addr).add m).add j=⟨b,o+m+j,none⟩:=by
 unfold Addr.add;split<;>split<;>simp_all
section
variable {H:Type}
mutual
def dB:DataW H->Nat
 | .lit (.string s)=>s.length+1
 | .slice es _=>MM es+1
 | .agg ps=>MM ps
 |_=>1
def MM:List (DataW H)->Nat
 |[]=>0
 |d::r=>dB d+MM r
end
def F9:∀ds:List (DataW H),MM ds=(ds.map dB).sum
 |[]=>rfl
 |d::r=>by simp only[MM,List.map_cons,List.sum_cons,F9 r]
end
def uS (P:Program)(t:TypeId):Bool:=match P.underlying t with
 |some (.struct _)=>true
 |some (.array _ _)=>true
 |_=>false
def Rj (P:Program)(F:TypeId->Option (List Lf)):List Field->Nat->Option (List Lf)
 |[],_=>some []
 |f::r,off=>match F f.type,Rj P F r (off+P.cellsOf f.type)with
  |some a,some b=>if f.offset=off/\a.length=P.cellsOf f.type then some (a++b)else none
  |_,_=>none
def arrF (e:TypeId)(off:Nat):Field:={(default:Field)with type:=e,offset:=off}
def zA (P:Program):Nat->TypeId->Option (List Lf)
 |0,_=>none
 |n+1,t=>match P.underlying t with
  |some .bool=>some [.bool]
  |some (.int k)=>some [.int k]
  |some .string=>some [.str]
  |some (.slice e)=>match zA P n e with
   |some cs=>if cs.length=P.cellsOf e/\0<cs.length/\(uS P e=true\/cs.length=1)then some [.sl (uS P e) (P.cellsOf e) cs]else none
   |none=>none
  |some (.struct fs)=>match Rj P (zA P n) fs.toList 0 with
   |some a=>if a.length=P.cellsOf t then some a else none
   |none=>none
  |some (.array k e)=>match Rj P (zA P n) ((List.range k).map fun i=>arrF e (i*P.cellsOf e)) 0 with
   |some a=>if a.length=P.cellsOf t then some a else none
   |none=>none
  |_=>none
section
variable {H:Type} {enc:TypeId×Value->H} {P:Program} {ν:List (Nat×Nat)}
def wJ (W:World):X:=⟨W,fun b=>b<W.heap.size,fun _=>none⟩
def Rds (ν:List (Nat×Nat))(W:World)(cs:List Value)(a:List Lf)(n:Nat):Prop:=
 cs.length=a.length/\∃ds:List D,lv a ds n/\∀i,i<cs.length->RD ν (wJ W) (cs.getD i undef) (ds.getD i .any)/\(cs.getD i undef).oneCell'=true
def Rds.one {W:World}{v:Value}{c:Lf}{d:D}{n:Nat}(hf:fit c d n)(hr:RD ν (wJ W) v d)(h1:v.oneCell'=true):Rds ν W [v] [c] n:=
 ⟨rfl,[d],by simp only[lv];exact⟨d,[],n,0,rfl,ae,hf,rfl⟩,fun i hi=>by
  obtain rfl:i=0:=by simpa using hi
  exact⟨hr,h1⟩⟩
def ES {W:World}{F:TypeId->Option (List Lf)}{m:Nat}{sp:Nat->Bool}{held:Bool}{cs:List Value}
  (hF:∀t a cs (x:DataW H×List MemPlace),F t=some a->DataW.trod enc P W 0 sp held m t cs=some x->Rds ν W cs a (dB x.1)):
  ∀(r:List Field) (off:Nat) (a:List Lf) (xs:List (DataW H×List MemPlace)),Rj P F r off=some a->xs.length=r.length->
   (∀(i:Nat) (f:Field),r[i]? =some f->DataW.trod enc P W 0 sp held m f.type ((cs.drop f.offset).take (P.cellsOf f.type))=xs[i]?)->off+a.length<=cs.length->
   ∃ds:List D,lv a ds (MM (xs.map (·.1)))/\∀i,i<a.length->RD ν (wJ W) (cs.getD (off+i) undef) (ds.getD i .any)/\(cs.getD (off+i) undef).oneCell'=true
 |[],off,a,xs,h,hl,_,_=>by
  simp only[Rj,a7]at h;subst h;exact⟨[],rfl,fun i hi=>by simp at hi⟩
 |f::r,off,a,xs,h,hl,hx,hoff=>by
  simp only[Rj]at h;split at h
  ·rename_i a1 a2 h1 h2;split at h
   ·rename_i hc;simp only[a7]at h;subst h
    match xs,hl with
    |x::xs,hl=>
    have q:=hx 0 f rfl;simp only[List.getElem?_cons_zero]at q;obtain⟨l1,ds1,g1,g2⟩:=hF _ _ _ _ h1 q;simp only[bE]at hoff;have hlen:((cs.drop f.offset).take (P.cellsOf f.type)).length=a1.length:=by rw[<-l1]
    obtain⟨ds2,g3,g4⟩:=ES hF r _ a2 xs h2 (by simpa using hl) (fun i f' hf=>by simpa using hx (i+1) f' (by simpa using hf)) ae;have hd1:=tP g1;refine⟨ds1++ds2,by simp only[List.map_cons,MM];exact vO g1 g3,fun i hi=>?_⟩;simp only[bE]at hi;by_cases hi1:i<a1.length
    ·have:=g2 i ae;have e1:(ds1++ds2).getD i .any=ds1.getD i .any:=by simp[List.getD,List.getElem?_append,hd1,hi1]
     have e2:((cs.drop f.offset).take (P.cellsOf f.type)).getD i undef=cs.getD (off+i) undef:=by
      simp only[List.getD,List.getElem?_take,List.getElem?_drop,hc.1];rw[av ae]
     rw[e1,<-e2];exact this
    ·have:=g4 (i-a1.length) ae;have e1:(ds1++ds2).getD i .any=ds2.getD (i-a1.length) .any:=by simp[List.getD,List.getElem?_append,hd1,hi1]
     rw[e1,show off+i=off+P.cellsOf f.type+(i-a1.length)by omega];exact this
   ·cases h
  ·cases h
def xc {W:World}{sp:Nat->Bool}{held:Bool}:∀(fl:Nat)(t:TypeId)(a:List Lf)(fuel:Nat)(cs:List Value)(x:DataW H×List MemPlace),
  zA P fl t=some a->DataW.trod enc P W 0 sp held fuel t cs=some x->Rds ν W cs a (dB x.1)
 |0,t,a,fuel,cs,x,h,_=>by simp[zA]at h
 |n+1,t,a,fuel,cs,x,h,hx=>by
  unfold zA at h;split at h
  ·rename_i ht;simp only[a7]at h;subst h;obtain⟨b,rfl,rfl⟩:=DataW.trod_bool ht hx;exact .one (by simp only[fit];exact⟨⟨b,rfl⟩,by simp[dB]⟩) (.bool b) rfl
  ·rename_i k ht;simp only[a7]at h;subst h;obtain⟨m,rfl,rfl,hw⟩:=DataW.trod_int ht hx;exact .one (by simp only[fit];exact⟨⟨m,rfl,hw⟩,by simp[dB]⟩) (.int k m) rfl
  ·rename_i ht;simp only[a7]at h;subst h;obtain⟨s,rfl,rfl,hs⟩:=DataW.trod_string ht hx;obtain⟨⟨l⟩⟩:=s;exact .one (d:=.str l) (by simp only[fit];exact⟨l,rfl,by simp[dB]⟩) (.str l hs) rfl
  ·rename_i e ht;split at h
   ·rename_i ce hce;split at h
    ·rename_i hk;obtain⟨hk1,hk0,hkag⟩:=hk;simp only[a7]at h;subst h;rcases DataW.trod_slice ht hx with⟨rfl,rfl⟩|⟨ad,len,cap,elems,rest,m,rfl,rfl,rfl,hb,hlc,hcm,hel,hat,_,_⟩
     ·refine .one (d:=.sl (P.cellsOf e) []) (by simp only[fit];exact⟨[],rfl,[],rfl,by simp[dB],fun i hi=>by simp at hi⟩) ?_ rfl;exact .sl none 0 0 0 0 _ [] (fun _ _=>undef) rfl (.inl rfl) (aM _) (Nat.zero_le _) (fun i hi=>ae) (fun i hi=>ae) (fun i j hi=>ae) (fun i j hi=>ae) (fun i j hi=>ae)
     ·have key:∀i,i<len->∃(csi:List Value) (dsi:List D),(csi.length=ce.length/\∀j,j<P.cellsOf e->W.cell? ((ad.add (i*P.cellsOf e)).add j)=csi[j]?)/\lv ce dsi (dB (elems.getD i (.nil,[])).1)/\
        ∀j,j<csi.length->RD ν (wJ W) (csi.getD j undef) (dsi.getD j .any)/\(csi.getD j undef).oneCell'=true:=by
       intro i hi;have q:=hat i hi;have hgi:elems[i]? =some (elems.getD i (.nil,[])):=by simp[List.getD,show i<elems.length by omega]
       rw[hgi,Option.bind_eq_some_iff]at q;obtain⟨csi,q1,q2⟩:=q;obtain⟨l1,dsi,g1,g2⟩:=xc n e ce m csi _ hce q2;obtain⟨_,_,q3⟩:=World.cells?_some q1;exact⟨csi,dsi,⟨l1,q3⟩,g1,g2⟩
      let f:Nat->List Value×List D:=fun i=>if h:i<len then((key i h).choose,(key i h).choose_spec.choose)else([],[])
      have hf:∀i,i<len->((f i).1.length=ce.length/\∀j,j<P.cellsOf e->W.cell? ((ad.add (i*P.cellsOf e)).add j)=(f i).1[j]?)/\lv ce (f i).2 (dB (elems.getD i (.nil,[])).1)/\
        ∀j,j<(f i).1.length->RD ν (wJ W) ((f i).1.getD j undef) ((f i).2.getD j .any)/\((f i).1.getD j undef).oneCell'=true:=by
       intro i hi;have e1:f i=((key i hi).choose,(key i hi).choose_spec.choose):=by simp[f,hi]
       rw[e1];exact(key i hi).choose_spec.choose_spec
      let es:List D:=(List.range len).map fun i=>bif uS P e then .agg (f i).2 else(f i).2.getD 0 .any
      have hes:∀i,i<len->es.getD i .any=bif uS P e then .agg (f i).2 else(f i).2.getD 0 .any:=fun i hi=>by simp[es,hi]
      have hcells:∀i,i<len->(es.getD i .any).cells=(f i).2:=fun i hi=>by
       rw[hes i hi];cases hag:uS P e with
       |true=>rfl
       |false=>
        have h1:ce.length=1:=by
         rcases hkag with h|h
         ·rw[hag]at h;cases h
         ·exact h
        match ce,h1 with
        |[c],_=>
        have g:=(hf i hi).2.1;simp only[lv]at g;obtain⟨d,ds',n1,n2,e1,_,g1,rfl⟩:=g;rw[e1];exact(Gd g1).1
      have hnl:∀i,i<len->(es.getD i .any).bG=true:=fun i hi=>by
       have g:=sU (hf i hi).2.1;rw[hes i hi];cases hag:uS P e with
       |true=>exact g
       |false=>
        show((f i).2.getD 0 .any).bG=true
        match hq:(f i).2 with
        |[]=>rfl
        |d::r=>
         rw[hq]at g;simp only[bx,bh]at g;exact g.1
      refine .one (d:=.sl (P.cellsOf e) es) ?_ ?_ rfl
      ·simp only[fit];refine⟨es,rfl,elems.map fun q=>dB q.1,by simp[es,hel],by simp only[dB,F9,List.map_map];exact aM _,fun i hi=>?_⟩;have hi':i<len:=by simpa[es]using hi
       refine⟨(f i).2,hes i hi', ?_⟩;have:=(hf i hi').2.1;have e2:(elems.map fun q=>dB q.1).getD i 0=dB (elems.getD i (.nil,[])).1:=by simp[List.getD,show i<elems.length by omega]
       rw[e2];exact this
      ·have hfl:∀i,i<len->(f i).1.length=P.cellsOf e:=fun i hi=>by rw[(hf i hi).1.1,hk1]
       have hdl:∀i,i<len->(f i).2.length=P.cellsOf e:=fun i hi=>by rw[tP (hf i hi).2.1,hk1]
       have hcell:∀i j,i<len->j<P.cellsOf e->W.cell? ((ad.add (i*P.cellsOf e)).add j)=some ((f i).1.getD j undef):=fun i j hi hj=>by
        rw[(hf i hi).1.2 j hj];simp[List.getD,show j<(f i).1.length by rw[hfl i hi];exact hj]
       have hsp:es=[]\/(ad.spot=none/\ad.block<W.heap.size):=by
        by_cases h0:len=0
        ·left;simp[es,h0]
        ·right;have h1:=hcell 0 0 ae ae;have e3:(ad.add (0*P.cellsOf e)).add 0=ad:=by simp[Addr.add]
         rw[e3]at h1;refine⟨World.cell?_spot h1, ?_⟩;unfold World.cell? at h1;split at h1
         ·rename_i h2;exact(Array.getElem?_eq_some_iff.mp h2).1
         ·cases h1
       obtain⟨ab,ao,asp⟩:=ad;refine .sl (some ⟨ab,ao,asp⟩) ab ao len cap _ es (fun i j=>(f i).1.getD j undef) (by simp[es]) ?_ hlc hcm (fun i hi=>by rw[hcells i hi,hdl i hi]) hnl ?_ ?_ ?_
       ·rcases hsp with h|⟨h,h2⟩
        ·exact .inl h
        ·obtain rfl:asp=none:=h;exact .inr ⟨rfl,h2⟩
       ·intro i j hi hj;have h1:=hcell i j hi hj;rcases hsp with h|⟨h,h2⟩
        ·have:es.length=0:=by rw[h];rfl
         simp[es]at this;omega
        ·obtain rfl:asp=none:=h
         rwa [Hm]at h1
       ·intro i j hi hj;exact((hf i hi).2.2 j (by rw[hfl i hi];exact hj)).2
       ·intro i j hi hj;rw[hcells i hi];exact((hf i hi).2.2 j (by rw[hfl i hi];exact hj)).1
    ·cases h
   ·cases h
  ·rename_i fs ht;split at h
   ·rename_i b hb;split at h
    ·rename_i hlen;simp only[a7]at h;subst h;obtain⟨xs,m,rfl,rfl,hcl,hxl,hat⟩:=DataW.trod_struct ht hx;obtain⟨ds,g1,g2⟩:=ES (W:=W) (ν:=ν) (sp:=sp) (held:=held) (enc:=enc) (m:=m) (cs:=cs) (fun t a cs x h1 h2=>xc n t a m cs x h1 h2) fs.toList 0 b xs hb (by simpa using hxl) (fun i f hf=>hat i f (by simpa using hf)) ae;refine⟨ae,ds,by simpa only[dB]using g1,fun i hi=>?_⟩;have:=g2 i ae
     rwa [bK]at this
    ·cases h
   ·cases h
  ·rename_i k e ht;split at h
   ·rename_i b hb;split at h
    ·rename_i hlen;simp only[a7]at h;subst h;obtain⟨xs,m,rfl,rfl,hcl,hxl,hat⟩:=DataW.trod_array ht hx;obtain⟨ds,g1,g2⟩:=ES (W:=W) (ν:=ν) (sp:=sp) (held:=held) (enc:=enc) (m:=m) (cs:=cs) (fun t a cs x h1 h2=>xc n t a m cs x h1 h2) _ 0 b xs hb (by simpa using hxl) (fun i f hf=>by
      simp only[List.getElem?_map,dM]at hf;obtain⟨j,hj,rfl⟩:=hf;have hi:i<k:=by
       have:=(List.getElem?_eq_some_iff.1 hj).1;simpa using this
      obtain rfl:j=i:=by simpa[hi]using hj.symm
      exact hat j hi) ae
     refine⟨ae,ds,by simpa only[dB]using g1,fun i hi=>?_⟩;have:=g2 i ae
     rwa [bK]at this
    ·cases h
   ·cases h
  ·cases h
end
end
section
open Go.RowKit Go.ChangeShapes Go.WideShapes
def Eo (sh:Bool×List Lf)(d:D)(n:Nat):Prop:=∃ds,lv sh.2 ds n/\d=bif sh.1 then .agg ds else ds.getD 0 .any
def wN:List (Bool×List Lf)->List D->Nat->Prop
 |[],ds,_=>ds=[]
 |s::r,ds,n=>∃d ds' n1 n2,ds=d::ds'/\n1+n2<=n/\Eo s d n1/\wN r ds' n2
def pC (P:Program)(k:Nat):List TypeId->Option (List (Bool×List Lf))
 |[]=>some []
 |t::r=>match zA P k t,pC P k r with
  |some a,some b=>if uS P t=true\/a.length=1 then some ((uS P t,a)::b)else none
  |_,_=>none
section
variable {H:Type} {enc:TypeId×Value->H} {P:Program} {ν:List (Nat×Nat)}
def P5 {W:World}{sp:Nat->Bool}{held:Bool}{k base:Nat}{t:TypeId}{a:List Lf}{v:Value}{d:DataW H}{p:List MemPlace}{r:Reach}
  (ha:zA P k t=some a) (h1:uS P t=true\/a.length=1) (wo:Value.okWide P W r base t v) (h:DataW.Trod enc P W 0 sp held t v d p):
  ∃e,Eo (uS P t,a) e (dB d)/\e.bG=true/\RD ν (wJ W) v e:=by
 obtain⟨fuel,hf⟩:=h;obtain⟨hl,ds,g1,g2⟩:=xc (ν:=ν) k t a fuel v.cells.toList (d,p) ha hf;have hdl:=tP g1;have hnl:=sU g1;refine⟨_,⟨ds,g1,rfl⟩, ?_⟩;cases hag:uS P t with
 |true=>
  have:∃cs,v=.agg cs/\cs.size=P.cellsOf t:=by
   match k,ha with
   |n+1,ha=>
   unfold zA at ha;unfold uS at hag;split at ha
   ·simp_all
   ·simp_all
   ·simp_all
   ·simp_all
   ·rename_i fs ht;exact okWide_struct ht wo
   ·rename_i m e ht;simp only[Value.okWide,ht]at wo;obtain⟨cs,h1,h2,_⟩:=wo;exact⟨cs,h1,h2⟩
   ·simp_all
  obtain⟨cs,rfl,hcs⟩:=this;refine⟨hnl, ?_⟩;have hl':cs.size=a.length:=by simpa[Value.cells]using hl
  have e:∀i,(Value.agg cs).cells.toList.getD i undef=cs.getD i undef:=fun i=>by
   simp only[Value.cells];by_cases hi:i<cs.size<;>simp[List.getD,Array.getD,hi]
  refine .agg cs ds ae (fun i hi=>?_) fun i hi=>?_
  ·rw[<-e];exact(g2 i (by simp only[Value.cells,Array.length_toList];omega)).2
  ·rw[<-e];exact(g2 i (by simp only[Value.cells,Array.length_toList];omega)).1
 |false=>
  have h1:a.length=1:=by
   rcases h1 with h|h
   ·rw[hag]at h;cases h
   ·exact h
  have hv:v.cells.toList.getD 0 undef=v:=by
   match k,ha with
   |n+1,ha=>
   unfold zA at ha;unfold uS at hag;split at ha
   ·rename_i ht;obtain⟨b,rfl⟩:=okWide_bool ht wo;rfl
   ·rename_i k ht;obtain⟨b,rfl⟩:=okWide_int ht wo;rfl
   ·rename_i ht;obtain⟨b,rfl⟩:=okWide_string ht wo;rfl
   ·rename_i e ht;obtain⟨b,c,f,rfl⟩:=okWide_slice ht wo;rfl
   ·rename_i fs ht;rw[ht]at hag;cases hag
   ·rename_i m e ht;rw[ht]at hag;cases hag
   ·cases ha
  have g:=g2 0 ae;rw[hv]at g;refine⟨?_,g.1⟩
  match ds,hdl with
  |[d0],_=>simpa[bx]using hnl
  |[],h=>simp at h;omega
  |_::_::_,h=>simp at h;omega
def F3 {W:World}{sp:Nat->Bool}{held:Bool}{k base:Nat}{r:Reach}:∀(ts:List TypeId)(shs:List (Bool×List Lf))(vs:List Value)(dws:List (DataW H))(ps:List MemPlace),
  pC P k ts=some shs->(∀(j:Nat) t v,ts[j]? =some t->vs[j]? =some v->Value.okWide P W r base t v)->DataW.TrodAll enc P W 0 sp held ts vs dws ps->
  ∃es:List D,wN shs es (MM dws)/\es.length=vs.length/\dws.length=ts.length/\bx es=true/\∀i,i<es.length->RD ν (wJ W) (vs.getD i undef) (es.getD i .any)
 |[],shs,vs,dws,ps,hs,_,h=>by
  simp only[pC,a7]at hs;subst hs;obtain⟨rfl,rfl,rfl⟩:=trodAll_nil h;exact⟨[],rfl,rfl,rfl,rfl,fun i hi=>by simp at hi⟩
 |t::ts,shs,vs,dws,ps,hs,hv,h=>by
  simp only[pC]at hs;split at hs
  ·rename_i a b h1 h2;split at hs
   ·rename_i hc;simp only[a7]at hs;subst hs;obtain⟨v,vs',d,ds',p,q,rfl,rfl,rfl,h3,h4⟩:=trodAll_cons h;obtain⟨e,g1,g2,g3⟩:=P5 (ν:=ν) h1 hc (hv 0 t v rfl rfl) h3;obtain⟨es,k1,k2,k3,k4,k5⟩:=F3 ts b vs' ds' q h2 (fun j t v h5 h6=>hv (j+1) t v (by simpa using h5) (by simpa using h6)) h4;refine⟨e::es,⟨e,es,_,_,rfl,aM _,g1,k1⟩,by simp[k2],by simp[k3],by simp[bx,g2,k4],fun i hi=>?_⟩
    match i,hi with
    |0,_=>exact g3
    |i+1,hi=>exact k5 i (by simpa using hi)
   ·cases hs
  ·cases hs
def sG {W W':World}(hl:laidOutB P=true)(hb:Below W.heap.size W W'){sp':Nat->Bool}:∀(ts:List TypeId)(vs:List Value)(dws:List (DataW H))(ps:List MemPlace),
  (ts.all fun t=>P.readableRec t&&decide (t<P.types.size))=true->(∀x∈ps,x.block<W.heap.size)->(∀x∈ps,sp' x.block=true)->
  DataW.TrodAll enc P W 0 (fun _=>true) true ts vs dws ps->DataW.TrodAll enc P W' 0 sp' true ts vs dws ps
 |[],vs,dws,ps,_,_,_,h=>by
  obtain⟨rfl,rfl,rfl⟩:=trodAll_nil h;exact trodAll_mk0
 |t::ts,vs,dws,ps,ht,hlt,hsp,h=>by
  obtain⟨v,vs',d,ds',p,q,rfl,rfl,rfl,h3,h4⟩:=trodAll_cons h;simp only[List.all_cons,bh,aS]at ht;refine trodAll_cons_mk (WideElems.Trod_stays hl ht.1.1 ht.1.2 h3 (fun x hx=>hb.same (hlt x (by simp[hx]))) fun x hx=>hsp x (by simp[hx])) ?_;exact sG hl hb ts vs' ds' q ht.2 (fun x hx=>hlt x (by simp[hx])) (fun x hx=>hsp x (by simp[hx])) h4
end
end
def MT {c:Lf}{d:D}{n:Nat}(h:fit c d n):1<=n:=by
 cases c<;>simp only[fit]at h
 ·obtain⟨s,_,h⟩:=h;omega
 ·exact h.2
 ·exact h.2
 ·obtain⟨es,_,ns,_,h,_⟩:=h;omega
def J1 {c:Lf}{d:D}{n m:Nat}(h:fit c d n)(hm:n<=m):fit c d m:=by
 cases c<;>simp only[fit]at h⊢
 ·obtain⟨s,h1,h⟩:=h;exact⟨s,h1,ae⟩
 ·exact⟨h.1,ae⟩
 ·exact⟨h.1,ae⟩
 ·obtain⟨es,h1,ns,h2,h3,h4⟩:=h;exact⟨es,h1,ns,h2,ae,h4⟩
def G6:∀(ns:List Nat)(i:Nat),i<ns.length->ns.getD i 0<=ns.sum
 |a::r,0,_=>aN
 |a::r,i+1,h=>by
  have:=G6 r i (by simpa using h);simp only[List.getD_cons_succ,List.sum_cons];omega
def G7:∀(ns:List Nat),(∀i,i<ns.length->1<=ns.getD i 0)->ns.length<=ns.sum
 |[],_=>aN
 |a::r,h=>by
  have h0:=h 0 aN;have:=G7 r fun i hi=>h (i+1) (by simpa using hi)
  simp only[iw]at h0;simp only[ax,List.sum_cons];omega
def Q3 {α:Type}{q:α->D}{G:α->Prop}{ag:Bool}{k:Nat}{cs:List Lf}{d:D}{n:Nat}(hcs:cs≠[])
  (hd:∀ds m,m<=n->lv cs ds m->∃x,(bif ag then D.agg ds else ds.getD 0 .any)=q x/\G x) (h:fit (.sl ag k cs) d n):
  ∃xs:List α,d=.sl k (xs.map q)/\xs.length+1<=n/\∀x∈xs,G x:=by
 simp only[fit]at h;obtain⟨es,rfl,ns,hl,hs,he⟩:=h;have hone:∀i,i<ns.length->1<=ns.getD i 0:=fun i hi=>by
  obtain⟨ds,_,h2⟩:=he i ae
  match cs,hcs with
  |c::r,_=>
  simp only[lv]at h2;obtain⟨d,ds',n1,n2,_,h3,h4,_⟩:=h2;have:=MT h4;omega
 have hlen:=G7 ns hone;have key:∀i,i<es.length->∃x,es.getD i .any=q x/\G x:=fun i hi=>by
  obtain⟨ds,h1,h2⟩:=he i hi;obtain⟨x,h3,h4⟩:=hd ds _ (by have:=G6 ns i ae;omega) h2;exact⟨x,h1.trans h3,h4⟩
 have conv:∀es:List D,(∀i,i<es.length->∃x,es.getD i .any=q x/\G x)->∃xs:List α,es=xs.map q/\∀x∈xs,G x:=by
  intro es;induction es with
  |nil=>exact fun _=>⟨[],rfl,fun x hx=>by cases hx⟩
  |cons e r ih=>
   intro h;obtain⟨x,h1,h2⟩:=h 0 aN;obtain⟨xs,h3,h4⟩:=ih fun i hi=>by simpa using h (i+1) (by simpa using hi)
   simp only[iw]at h1;refine⟨x::xs,by rw[h3,h1];rfl,fun y hy=>?_⟩;rcases dr.1 hy with rfl|hy
   ·exact h2
   ·exact h4 y hy
 obtain⟨xs,rfl,hx⟩:=conv es key
 refine⟨xs,rfl, ?_,hx⟩;simp only[bI]at hl;omega
def Ki {k:IntKind}{d:D}{n:Nat}(h:fit (.sl false 1 [.int k]) d n):∃xs:List Int,d=.sl 1 (xs.map (D.int k))/\xs.length+1<=n/\∀x∈xs,True:=
 Q3 (q:=D.int k) (G:=fun _=>True) aN (fun ds m hm h=>by
  simp only[lv,fit]at h;obtain⟨d,ds',n1,n2,rfl,_,⟨⟨x,rfl,_⟩,_⟩,rfl⟩:=h;exact⟨x,rfl,trivial⟩) h
def wY {c:Lf}{d:D}{n:Nat}(h:Eo (false,[c]) d n):fit c d n:=by
 obtain⟨ds,h,rfl⟩:=h;simp only[lv]at h;obtain⟨d,_,n1,n2,rfl,h1,h2,rfl⟩:=h;exact J1 h2 ae
def Gl {k:IntKind}{d:D}{n:Nat}(h:fit (.int k) d n):∃x:Int,d=.int k x:=by
 simp only[fit]at h;exact h.1.imp fun x h=>h.1
def N0 {d:D}{n:Nat}(h:fit .str d n):∃s:aq,d=.str s/\s.length+1<=n:=by
 simpa only[fit]using h
section
open Go.RowKit Go.ChangeShapes Go.WideShapes
def ctxp {t:List (Nat×sf)}{n:Nat}{ds:List D}{d:D}(hD:SZ (lk t n nj).rel)(h:(lk t n nj).rel ds d):(zn t).pre n ds/\(zn t).val n ds=d:=⟨⟨d,h⟩,hD _ _ _ (lW ⟨d,h⟩) h⟩
section
variable {H:Type} {enc:TypeId×Value->H} {P:Program} {ν:List (Nat×Nat)}
def EO [dy]{cQ:List Nat}{Y:Ctx}(hok:Ok P ν cQ Y){fid n k base:Nat}{f:Func}{s:ChangeSpec}{tb:TypeId}{shs:List (Bool×List Lf)}{r:Reach}
  {W:World} {args:Array Value} {ds gs:List (DataW H)} {before:List MemPlace}
  (hf:P.funcs[fid]? =some f) (hnm:(f.name== "runtime.NumGoroutine")=false) (hbody:f.body.isSome=true) (hn:fE ν fid=some n)
  (hl:laidOutB P=true) (hts:(f.params.toList.all fun t=>P.readableRec t&&decide (t<P.types.size))=true)
  (hsh:pC P k f.params.toList=some shs) (hres:f.resultTypes=#[tb]) (htb:P.underlying tb=some .bool)
  (hvars:s.vars=[]) (hfn:∀xs:List (DataW H),xs.length=f.params.toList.length->s.fn H xs={results:=[.lit (.bool true)],args:=xs})
  (hgd:dy.gd (wJ W)) (hpre:∀es,wN shs es (MM ds)->(∀i,i<es.length->∃v,RD ν (wJ W) v (es.getD i .any))->Y.pre n es/\Y.val n es=.bool true)
  (hargs:∀(j:Nat) t v,f.params[j]? =some t->args[j]? =some v->Value.okWide P W r base t v)
  (hW:DataW.Whole enc P f.params.toList s.vars false W args.toList ds gs before):
  Calls P fid args W fun e W'=>∃v,e=.returned v/\s.post enc P f false true false false W args v W':=by
 have hW':=hW;obtain⟨p,q,hA,hV,rfl,hz,hnd⟩:=hW;rw[hvars]at hV;obtain⟨rfl,rfl⟩:=trodVars_none hV;obtain⟨es,h1,h2,h3,h4,h5⟩:=F3 (ν:=ν) f.params.toList shs args.toList ds p hsh (fun j t v e1 e2=>hargs j t v (by simpa using e1) (by simpa using e2)) hA;have hsz:args.size=es.length:=by simpa using h2.symm
 obtain⟨hp1,hp2⟩:=hpre es h1 fun i hi=>⟨_,h5 i hi⟩
 have hd:=hok.pure fid n hn (wJ W) args es hsz (fun i hi=>by
  have:=h5 i hi;have e:args.toList.getD i undef=args.getD i undef:=by
   have hi':i<args.size:=ae;simp[List.getD,Array.getD,hi']
  rwa [e]at this) h4 (fun b hb=>hb) hgd hp1
 rw[iZ hf hnm hbody args]at hd;rcases hd with⟨v,x',hd|hd,_⟩|⟨f',args',hd,hc⟩
 ·cases hd
 ·cases hd.1
 ·cases hd;refine Calls.mono hc fun e W' he=>?_
  match e,he with
  | .returned v,he=>
   obtain⟨x',rfl,hp,hr⟩:=he;rw[hp2]at hr;obtain rfl:v=.bool true:=by cases hr;rfl
   have hb:Below W.heap.size W x'.w:=hp.grow.below;have hlt:=hW'.lt;have e1:s.fn H (ds++[])={results:=[.lit (.bool true)],args:=ds}:=by rw[gI];exact hfn ds h3
   refine⟨_,rfl,zD (pa:=p) (pv:=[]) hW' (fun b sp hd=>?_) (fun sp hsp=>?_) (fun sp hsp=>?_) rfl hb (ok_one hres rfl (okWide_bool_mk htb _))⟩
   ·rw[e1,hres];exact trodAll_mk1 (shut_bool htb _)
   ·rw[e1];exact sG hl hb _ _ _ _ hts (fun x hx=>by simpa using hlt x (by simpa using hx)) (fun x hx=>hsp x (by simpa using hx)) hA
   ·rw[e1,hvars];rfl
end
end
end Go.Abs
section
namespace Go.Proofs.YtpdlhpamcaocgaaGreatDoor
open Go.Abs Go.ChangeShapes Go.WideShapes Go.ChangeAt Go.RowKit Go.Proofs
def own:ownKnob Tryz.prog.godebug=none:=by kernel_rfl
def Ko:laidOutB Tryz.prog=true:=by kernel_rfl
def tW {P:Program}{W:World}{y:String×DataW Unit}{l:List (String×DataW Unit)}(h:laidMet P (y::l) W):laidMet P l W:=by
 obtain⟨ps,⟨g,t,cs,fuel,p,q,_,_,_,_,h1,rfl⟩,h2,h3⟩:=h;refine⟨q,h1,(List.nodup_append.1 h2).2.1,fun b off hm=>h3 b off (by simp[hm])⟩
def GC {W:World}{b:Nat}{o:Nat}{v:Value}(h:W.cell? ⟨b,o,none⟩=some v):b<W.heap.size:=by
 unfold World.cell? at h;split at h
 ·rename_i h2;exact(Array.getElem?_eq_some_iff.mp h2).1
 ·cases h
def Ue {W:World}(hL:laidMetH Tryz.prog Rows.recordBentRow.laid W)(hsh:W.ShapedOpen Tryz.prog):dy.gd (wJ W):=by
 have hL':laidMet Tryz.prog Rows.recordBentRow.laid W:=hL;have htab:Lib.TabIs Tryz.prog W "internal/strconv.uint64pow10" .u64 Lib.pow10Tab:=
  Lib.tabIs_of_head (g:=3) (t:=244) (e:=49) (n:=20) (by kernel_rfl) (by kernel_rfl) (by kernel_rfl) (by kernel_rfl) (by kernel_rfl) (by kernel_rfl) (tW (tW hL'))
 obtain⟨m,hm⟩:∃m,W.cell? ⟨0,0,none⟩=some (.int .i64 m):=Tryz.laysM219.s1_3 W hsh
 have h3:=htab.cell vV 0 (by decide);exact⟨⟨GC hm,m,hm⟩,GC h3,htab⟩
mutual
def Cy {H:Type}:DataW H->List Value
 | .lit (.int k n)=>[.int k n]
 | .agg ps=>JT ps
 |_=>[]
def JT {H:Type}:List (DataW H)->List Value
 |[]=>[]
 |d::r=>Cy d++JT r
end
def put (d:DataW Unit):Obj->Obj
 | .cells _ t frozen=>.cells (Cy d).toArray t frozen
 |o=>o
noncomputable def uU (os:Os):World:=
 {World.holding Tryz.prog os ⟨#[],#[],[]⟩with heap:=(((((World.holding Tryz.prog os ⟨#[],#[],[]⟩).heap.modify 1 (put Rows.laid_unicode_utf8_first)).modify 2 (put Rows.laid_unicode_utf8_acceptRanges)).modify 3 (put Rows.laid_internal_strconv_uint64pow10)).modify 4 (put Rows.laid_math_bits_deBruijn32tab)).modify 5 (put Rows.laid_math_bits_deBruijn64tab)}
def strZ:Value:=.string ⟨#[]⟩
end Go.Proofs.YtpdlhpamcaocgaaGreatDoor
end
section
namespace Go.Proofs.YtpdlhpamcaocgaaGreatDoor
open Go.Abs Go.ChangeShapes Go.WideShapes Go.ChangeAt Go.RowKit Go.Proofs
def jZ:Array Value:=#[.slice none 0 0,.int .i64 0,.int .i64 0,strZ]
def sr (os:Os):laidMet Tryz.prog Rows.recordBentRow.laid ((uU os).forCall (fun _ _=>0) ⟨#[],jZ,[]⟩).memory:=
 laidMet_of_run' 8 (by kernel_rfl) (by kernel_rfl)
def ui:pC Tryz.prog 20 Tryz.f4.params.toList=some [(false,[.sl false 1 [.int .i64]]),(false,[.int .i64]),(false,[.int .i64]),(false,[.str])]:=by kernel_rfl
def yr {W:World}{es:List D}{n:Nat}(h:wN [(false,[.sl false 1 [.int .i64]]),(false,[.int .i64]),(false,[.int .i64]),(false,[.str])] es n)(hr:∀i,i<es.length->∃v,RD wz (wJ W) v (es.getD i .any)):(zn bp).pre 1190 es/\(zn bp).val 1190 es=.bool true:=by
 obtain⟨d1,_,n1,m1,rfl,a1,h1,d2,_,n2,m2,rfl,a2,h2,d3,_,n3,m3,rfl,a3,h3,d4,_,n4,m4,rfl,a4,h4,rfl⟩:=h;obtain⟨v1,rfl,k1⟩:=Ki (wY h1);obtain⟨v2,rfl⟩:=Gl (wY h2);obtain⟨v3,rfl⟩:=Gl (wY h3);obtain⟨v4,rfl,k4⟩:=N0 (wY h4);exact ctxp SU fun T h=>h v1 v2 v3 v4
def vr (os:Os){H:Type}(enc:TypeId×Value->H):∃places,DataW.whole enc Tryz.prog ((uU os).forCall (fun _ _=>0) ⟨#[],jZ,[]⟩).memory Tryz.f4.params.toList Rows.recordBentSpec.vars false jZ.toList 8=
  some ([.nil,.lit (.int .i64 0),.lit (.int .i64 0),.lit (.string [])],[],places):=
 ⟨[],by kernel_rfl⟩
set_option maxRecDepth 100000 in
theorem tX (os:Os)(started:os.Started)(H:Type)(enc:TypeId×Value->H)(F:Stop.Interp):
  ReturnsInHanded {} Tryz.checked os 4 .any ((OpenSpec.ofChange Rows.recordBentSpec).preRow enc Tryz.prog Tryz.f4 Rows.recordBentRow.domain false Rows.recordBentRow.laid) (((OpenSpec.ofChange Rows.recordBentSpec).at F).post enc Tryz.prog Tryz.f4 false true false false):=by
 obtain⟨places,hx⟩:=vr os enc;refine returnsInHanded_of_row (C:=Tryz.checked) (s:=OpenSpec.ofChange Rows.recordBentSpec) own started (by kernel_rfl) Tryz.func4
  (witness_row_at (enc:=enc) (C:=Tryz.checked) false (uU os) jZ rfl (by kernel_rfl) (by kernel_rfl) (by kernel_rfl)
    (OpenSpec.preRow_of_cond 8 hx (by kernel_rfl) (fun k hk=>by cases hk) (by kernel_rfl) (sr os))) ?_
 intro W base args ds gs before wo hW _ _ _ hL hsh _;refine EO (n:=1190) (k:=20) (s:=(OpenSpec.ofChange Rows.recordBentSpec).at F) (tb:=4) okY Tryz.func4 (by kernel_rfl) (by kernel_rfl) (by kernel_rfl) Ko (by kernel_rfl) ui (by kernel_rfl) (by kernel_rfl) rfl (fun xs hx=>?_) (Ue hL hsh)
  (fun es he hr=>yr he hr) wo hW
 match xs,hx with
 |[a,b,c,d],_=>rfl
def zt:Tryz.prog.inPlace 4=Rows.recordBentRow.inPlace:=by kernel_rfl
def zu:Tryz.prog.unfollowed 4=Rows.recordBentRow.unfollowed:=by kernel_rfl
def zv:Tryz.prog.recurses 4=Rows.recordBentRow.recurses:=by kernel_rfl
def zw:Tryz.prog.varsNamed 4=Rows.recordBentRow.named:=by kernel_rfl
def tF:joinedFacts Tryz.prog 4 Tryz.f4 (OpenSpec.ofChange Rows.recordBentSpec).bare Rows.recordBentRow=true:=by
 unfold joinedFacts;rw[zt,zu,zv,zw]
 kernel_rfl
def wE:Rows.RecordBentSaid:=
 OpenClaim.holds_of_cond 4 Tryz.f4 rfl rfl rfl rfl rfl rfl rfl ⟨rfl,rfl,rfl,rfl,rfl⟩ rfl rfl rfl rfl rfl (by kernel_rfl) Tryz.func4 tF
  (of_decide_eq_true (by kernel_rfl)) (by unfold Func.isWrapper;first|(rw[if_pos (by decide+kernel)];kernel_rfl)|(rw[if_neg (by decide+kernel)];exact⟨rfl,rfl⟩))
  (fun os started H enc _ F=>by rw[OpenClaim.pre_eq_preRow];exact tX os started H enc F)
def vi (f:FuncId)(fn:Func)(hf:Tryz.pinned.checked.prog.funcNamed "linchpin/linchpinlaw12.RecordBent" =some f)(hfn:Tryz.pinned.checked.prog.funcs[f]? =some fn):
  false=Tryz.pinned.checked.prog.looks []/\∀(j:Nat) t,fn.params[j]? =some t->Tryz.pinned.checked.prog.wantsStandIn t=false:=by
 obtain rfl:f=4:=Option.some.inj ((show Tryz.prog.funcNamed "linchpin/linchpinlaw12.RecordBent" =some 4 by kernel_rfl).symm.trans hf) |>.symm
 obtain rfl:fn=Tryz.f4:=(Option.some.inj (Tryz.func4.symm.trans hfn)).symm;refine⟨by kernel_rfl,fun j t ht=>?_⟩;have hall:(Tryz.f4.params.toList.all fun t=>!Tryz.prog.wantsStandIn t)=true:=by kernel_rfl
 have:=List.all_eq_true.1 hall t (by simpa using Array.mem_of_getElem? ht);show Tryz.prog.wantsStandIn t=false;simpa using this
theorem card_recordBent:Rows.RecordBentCardSaid:=
 Claim7.holds_tied_plain_at .later [] _ _ _ _ wE (fun _ h=>by cases h) (by kernel_rfl) (fun _ h=>by cases h) recordBent_row_tie rfl ⟨rfl,rfl⟩ (by kernel_rfl) rfl vi (by kernel_rfl)
end Go.Proofs.YtpdlhpamcaocgaaGreatDoor
end
#print axioms Go.Proofs.YtpdlhpamcaocgaaGreatDoor.card_recordBent
