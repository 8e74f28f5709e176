/- linchpin: RecordChecks answers true for every record of bulk at most 1048576. -/
import Derived.Carry
import Derived.ChangeArms
import Derived.ChangeSame
import Derived.Deep.DeepHandedRow
import Derived.Lib.LaidTab
import Derived.OpenShut
import Derived.RowKit
import Derived.Test.YtpdlhpamcaocgaaGreatDoorCards
import Derived.Test.YtpdlhpamcaocgaaGreatDoorTie
import Derived.WideKeyArgs
import Derived.WideShapes
import Derived.Test.YtpdlhpamcaocgaaGreatDoorP10
set_option linter.all false
set_option maxRecDepth 4000
section
namespace Go.Abs
open Go.Proofs
def FC:Nat:=3
def rH:Tryz.prog.globalNamed "internal/strconv.uint64pow10" =some FC:=by kernel_rfl
instance Oe:ct where
 tB:=133
 tU:=5
 gd x:=(x.I 0∧∃m,x.w.cell? ⟨0,0,none⟩=some (.int .i64 m))∧x.I FC∧Lib.TabIs Tryz.prog x.w "internal/strconv.uint64pow10" .u64 Lib.pow10Tab
 le x x' hI hk h:=by
  obtain⟨⟨h1,m,h2⟩,h3,h4⟩:=h;refine⟨⟨hI _ h1,m,lJ (hk _ h1) h2⟩,hI _ h3, ?_⟩;unfold Lib.TabIs World.var? at h4⊢;rw[rH]at h4⊢;simp only[Option.bind_some]at h4⊢;rw[hk _ h3];exact h4
def n6 {fid:Nat}{x:X}{args:Array Value}{d:D}(hn:(Tryz.prog.funcs[fid]?).map (fun f=>f.name== "runtime.NumGoroutine" ||!f.body.isSome)=some false)
  (himm:∀b,x.I b→b<x.w.heap.size)
  (hc:Calls Tryz.prog fid args x.w fun e w'=>∃v,e=.returned v∧eC x.w w'∧∃I:Nat→Prop,(∀b,x.I b→I b)∧(∀b,I b→x.I b∨x.w.heap.size≤b∧b<w'.heap.size)∧RD sE ⟨w',I,x.β⟩ v d):
  gG Tryz.prog x (fun v x'=>kj x x'∧RD sE x' v d) ((callFunc fid args).run Tryz.prog x.w):=by
 cases h:Tryz.prog.funcs[fid]? with
 |none=>rw[h]at hn;cases hn
 |some fn=>
  rw[h]at hn;have h2:(fn.name== "runtime.NumGoroutine" ||!fn.body.isSome)=false:=Option.some.inj hn;rw[Bool.or_eq_false_iff,Bool.not_eq_false']at h2;refine .inr ⟨fid,args,fu h h2.1 h2.2 args x.w,Calls.mono hc fun e w' he=>?_⟩;obtain⟨v,rfl,hg,I,h3,h4,hr⟩:=he;refine⟨⟨w',I,x.β⟩,rfl,⟨hg,h3,fun b hb=>(h4 b hb).imp id And.left,fun b hb=>?_,rfl⟩,hr⟩;rcases h4 b hb with h5|h5
  ·exact Nat.lt_of_lt_of_le (himm b h5) hg.size
  ·exact h5.2
def Az (w:World):∀n,eC w (w.drewN n)
 |n=>⟨rfl,rfl,rfl,Nat.le_refl _,fun _ _=>rfl⟩
def iP {fid:Nat}{x:X}{args:Array Value}{d:D}{v:Value}(hn:(Tryz.prog.funcs[fid]?).map (fun f=>f.name== "runtime.NumGoroutine" ||!f.body.isSome)=some false)
  (himm:∀b,x.I b→b<x.w.heap.size) (hc:Calls Tryz.prog fid args x.w fun e w'=>e=.returned v∧eC x.w w') (hr:∀x',RD sE x' v d):
  gG Tryz.prog x (fun v x'=>kj x x'∧RD sE x' v d) ((callFunc fid args).run Tryz.prog x.w):=
 n6 hn himm (Calls.mono hc fun e w' ⟨h1,h2⟩=>⟨v,h1,h2,x.I,fun _ h=>h,fun _ h=>.inl h,hr _⟩)
def et {x:X}{v:Value}{s:ah}(h:RD sE x v (.str s)):v=.string ⟨⟨s⟩⟩∧s.length≤maxLen:=by
 cases h with
 |str s h=>exact⟨rfl,h⟩
def BN {x:X}{v:Value}{k:IntKind}{n:Int}(h:RD sE x v (.int k n)):v=.int k n:=by
 cases h with
 |int k n=>rfl
def vn {args:Array Value}(h:args.size=2):args=#[args.getD 0 undef,args.getD 1 undef]:=by
 obtain⟨l⟩:=args
 match l,h with
 |[a,b],_=>rfl
def NL {args:Array Value}(h:args.size=3):args=#[args.getD 0 undef,args.getD 1 undef,args.getD 2 undef]:=by
 obtain⟨l⟩:=args
 match l,h with
 |[a,b,c],_=>rfl
def IA {args:Array Value}(h:args.size=1):args=#[args.getD 0 undef]:=by
 obtain⟨l⟩:=args
 match l,h with
 |[a],_=>rfl
def HT {x:X}{a b:Value}{d e:D}(h1:RD sE x a d)(h2:RD sE x b e):RD sE x (.tuple #[a,b]) (.tup [d,e]):=by
 refine .tup _ _ rfl fun i hi=>?_
 match i,hi with
 |0,_=>exact h1
 |1,_=>exact h2
def HU {x:X}{a b c:Value}{d e f:D}(h1:RD sE x a d)(h2:RD sE x b e)(h3:RD sE x c f):RD sE x (.tuple #[a,b,c]) (.tup [d,e,f]):=by
 refine .tup _ _ rfl fun i hi=>?_
 match i,hi with
 |0,_=>exact h1
 |1,_=>exact h2
 |2,_=>exact h3
def qQ {x:X}(s:ah)(h:s.length≤4294967296):RD sE x (.string ⟨s.toArray⟩) (.str s):=.str s (by simp only[maxLen];omega)
def CY (s:ah)(b:UInt8):(eD s b).2.1.length≤s.length:=by
 unfold eD;split<;>simp
def E487:Ow 129 487:=by
 refine bh rfl ?_;rintro s b hp hok x args hl hargs hnl himm ⟨⟨_,m,hm⟩,_⟩;obtain⟨h0,hs⟩:=et (hargs 0 (by simp));obtain⟨h1,_⟩:=et (hargs 1 (by simp));rw[vn hl,h0,h1];refine iP (by kernel_rfl) himm (Calls.mono (Tryz.strings_Cut ⟨⟨s⟩⟩ ⟨⟨[b]⟩⟩ m x.w (by show s.length<_;omega) hm) fun e w' ⟨h1,n,h2⟩=>⟨h1,h2▸Az _ n⟩) (fun x'=>?_);have hc:Lib.cut (⟨⟨s⟩⟩:ByteArray).data.toList (⟨⟨[b]⟩⟩:ByteArray).data.toList=eD s b:=JV s b;rw[hc];have:=(EJ s b).1;have:=CY s b;exact HU (qQ _ (by omega)) (qQ _ (by omega)) (.bool _)
def E254:Ow 128 254:=by
 refine bh rfl ?_;rintro s p hp hp2 hok x args hl hargs hnl himm _;obtain⟨h0,hs⟩:=et (hargs 0 (by simp));obtain⟨h1,_⟩:=et (hargs 1 (by simp));rw[vn hl,h0,h1];refine iP (by kernel_rfl) himm (Calls.mono (Tryz.strings_CutPrefix ⟨⟨s⟩⟩ ⟨⟨p⟩⟩ x.w) fun e w' ⟨h1,h2⟩=>⟨h1,h2▸eC.refl _⟩) (fun x'=>?_);have hc:(Lib.trimPrefix s p,Lib.hasPrefix s p)=dq s p:=C0 s p;have:=At s p;rw[←hc]at this⊢;have h9:(Lib.trimPrefix s p).length≤s.length:=this;exact HT (qQ (Lib.trimPrefix s p) (by omega)) (.bool _)
def E336:Ow 165 336:=by
 refine bh rfl ?_;rintro n hp hok x args hl hargs hnl himm ⟨_,_,ht⟩;have h0:=BN (hargs 0 (by simp));rw[IA hl,h0];refine iP (by kernel_rfl) himm (Calls.mono (Tryz.strconv_Itoa n (by omega) (by omega) x.w ht) fun e w' ⟨h1,k,os,h2⟩=>⟨h1, ?_⟩) (fun x'=>?_)
 ·subst h2;refine⟨rfl,rfl,rfl,by simp[Sort.grow],fun b hb=>?_⟩;show(x.w.heap++os)[b]? =x.w.heap[b]?;rw[Array.getElem?_append,if_pos hb]
 ·rw[HA hp.1];have:=dr 4 n.toNat (by omega) (by omega);exact qQ _ (by omega)
def pG {fid:Nat}{x:X}{args:Array Value}{ts:List ByteArray}{cap:Nat}{ty:TypeId}{L:List ah}(hn:(Tryz.prog.funcs[fid]?).map (fun f=>f.name== "runtime.NumGoroutine" ||!f.body.isSome)=some false)(himm:∀b,x.I b→b<x.w.heap.size)
  (hL:ts.map (fun t=>t.data.toList)=L) (hcap:ts.length≤cap) (hm:cap≤maxLen) (hs:∀t∈L,t.length≤maxLen)
  (hc:Calls Tryz.prog fid args x.w fun e w'=>e=.returned (.slice (some ⟨x.w.heap.size,0,none⟩) ts.length cap)∧w'=x.w.alloc (.cells (Lib.cellsOf ts cap) ty)):
  gG Tryz.prog x (fun v x'=>kj x x'∧RD sE x' v (.sl 1 (L.map D.str))) ((callFunc fid args).run Tryz.prog x.w):=by
 refine n6 hn himm (Calls.mono hc fun e w' ⟨h1,h2⟩=>?_);subst h2;refine⟨_,h1,eC.alloc _ _,fun q=>x.I q∨q=x.w.heap.size,fun _ h=>.inl h,fun q hq=>hq.imp id fun h=>⟨by omega,by rw[h];show _<(x.w.heap.push _).size;simp⟩, ?_⟩;have hsl:L.length=ts.length:=by rw[←hL];simp
 have hget:∀i,i<ts.length→(L.map D.str).getD i .any=.str (ts.getD i default).data.toList:=fun i hi=>by
  rw[←hL];simp[hi]
 refine .sl _ x.w.heap.size 0 ts.length cap 1 _ (fun i _=>.string (ts.getD i default)) (by simp[hsl]) (.inr ⟨rfl,.inr rfl⟩) hcap hm (fun i hi=>by rw[hget i hi];rfl) (fun i hi=>by rw[hget i hi];rfl) (fun i j hi hj=>?_) (fun i j hi hj=>rfl) (fun i j hi hj=>?_)
 ·obtain rfl:j=0:=by omega
  have:=cZ x.w (.cells (Lib.cellsOf ts cap) ty);refine(cell_of_heap (c:=Lib.cellsOf ts cap) (T:=ty) (fr:=(0,0)) this (by rw[Lib.cellsOf_size hcap];omega)).trans ?_;have hi2:i<(ts.map Value.string).length:=by simpa using hi
  simp only[Lib.cellsOf];simp[hi,List.getElem?_append_left hi2]
 ·obtain rfl:j=0:=by omega
  rw[hget i hi];show RD sE _ (.string (ts.getD i default)) (.str (ts.getD i default).data.toList);generalize hq:ts.getD i default=q;have hmem:q.data.toList∈L:=by
   rw[←hL];refine List.mem_map.2 ⟨q, ?_,rfl⟩;rw[←hq];simp[hi]
  have:=hs _ hmem;obtain⟨⟨ql⟩⟩:=q;exact .str ql this
def wo {x:X}{s p:ah}{m:Int}{L:List ah}(hL:∀ts,ts=Lib.splitB ⟨⟨p⟩⟩ 0 (Lib.countB ⟨⟨s⟩⟩ ⟨⟨p⟩⟩) ⟨⟨s⟩⟩→ts.map (fun t=>t.data.toList)=L)(himm:∀b,x.I b→b<x.w.heap.size)(h1:1≤p.length)(hs:s.length≤1048576)(hl:L.length≤1048577)(hb:∀t∈L,t.length≤1048576)
  (hm:x.w.cell? ⟨0,0,none⟩=some (.int .i64 m)):gG Tryz.prog x (fun v x'=>kj x x'∧RD sE x' v (.sl 1 (L.map D.str))) ((callFunc 28 #[.string ⟨⟨s⟩⟩,.string ⟨⟨p⟩⟩]).run Tryz.prog x.w):=by
 have h2:1≤(⟨⟨p⟩⟩:ByteArray).size:=h1;have hlen:=Lib.splitB_all ⟨⟨p⟩⟩ h2 0 _ (⟨⟨s⟩⟩:ByteArray) rfl;have hc:=Tryz.strings_Split ⟨⟨s⟩⟩ ⟨⟨p⟩⟩ m x.w (by show s.length<_;omega) hm h2;rw[←hlen,←Lib.cellsOf_full]at hc;have hL2:=hL _ rfl;have hle:(Lib.splitB ⟨⟨p⟩⟩ 0 (Lib.countB ⟨⟨s⟩⟩ ⟨⟨p⟩⟩) ⟨⟨s⟩⟩).length≤maxLen:=by
  have:L.length=(Lib.splitB ⟨⟨p⟩⟩ 0 (Lib.countB ⟨⟨s⟩⟩ ⟨⟨p⟩⟩) ⟨⟨s⟩⟩).length:=by rw[←hL2];simp
  simp only[maxLen];omega
 exact pG (by kernel_rfl) himm hL2 (Nat.le_refl _) hle (fun t ht=>by have:=hb t ht;simp only[maxLen];omega) hc
def qW:∀(s cur:ah),(aw s cur).length≤s.length+1∧∀t∈aw s cur,t.length≤cur.length+s.length
 |[],cur=>by simp[aw]
 |[c],cur=>by simp[aw]
 |c::d::r,cur=>by
  unfold aw;split
  ·obtain⟨h1,h2⟩:=qW r [];refine⟨by simp only[List.length_cons];omega,fun t ht=>?_⟩;rcases List.mem_cons.1 ht with rfl|ht
   ·omega
   ·have:=h2 t ht;simp only[List.length_cons,List.length_nil]at this⊢;omega
  ·obtain⟨h1,h2⟩:=qW (d::r) (cur++[c]);refine⟨by simp only[List.length_cons]at h1⊢;omega,fun t ht=>?_⟩;have:=h2 t ht;simp only[List.length_append,List.length_cons,List.length_nil]at this⊢;omega
def E124:Ow 28 124:=by
 refine bh rfl ⟨?_, ?_⟩
 ·rintro s b hp hok x args hl hargs hnl himm ⟨⟨_,m,hm⟩,_⟩;obtain⟨h0,hs⟩:=et (hargs 0 (by simp));obtain⟨h1,_⟩:=et (hargs 1 (by simp));rw[vn hl,h0,h1];have:=cG s b.toNat;exact wo (fun ts e=>by rw[e];exact wg b _ (⟨⟨s⟩⟩:ByteArray) rfl) himm (Nat.le_refl 1) hp (by omega) (fun t ht=>Nat.le_trans (dE s b.toNat ht) hp) hm
 ·rintro s hp hok x args hl hargs hnl himm ⟨⟨_,m,hm⟩,_⟩;obtain⟨h0,hs⟩:=et (hargs 0 (by simp));obtain⟨h1,_⟩:=et (hargs 1 (by simp));rw[vn hl,h0,h1];obtain⟨q1,q2⟩:=qW s [];exact wo (fun ts e=>by rw[e];exact DT _ (⟨⟨s⟩⟩:ByteArray) rfl) himm (by decide) hp (by omega) (fun t ht=>by have:=q2 t ht;simp only[List.length_nil]at this;omega) hm
def Hd (n:Nat)(h:1≤n)(s:ah):(oW n (aj s 32)).length≤s.length+1∧∀t∈oW n (aj s 32),t.length≤s.length:=by
 have hl:=cG s 32;have hj:aO [32] (aj s 32)=s:=by
  have:=jY 32 s [];simpa[aj]using this
 unfold oW;split
 ·exact⟨hl,fun t ht=>dE s 32 ht⟩
 ·rename_i hn;refine⟨by simp only[List.length_append,List.length_take,List.length_cons,List.length_nil];omega,fun t ht=>?_⟩;rcases List.mem_append.1 ht with ht|ht
  ·exact dE s 32 (List.mem_of_mem_take ht)
  ·rw[List.mem_singleton.1 ht];have h2:(aO [32] (aj s 32)).length=s.length:=by rw[hj]
   have h3:∀(l:List ah) (k:Nat),(aO [32] (l.drop k)).length≤(aO [32] l).length:=by
    intro l;induction l with
    |nil=>simp
    |cons a l ih=>
     intro k;cases k with
     |zero=>simp
     |succ k=>
      refine Nat.le_trans (ih k) ?_;cases l with
      |nil=>simp[aO]
      |cons b l=>rw[fB [32] a (b::l) (by simp)];simp only[List.length_append];omega
   have:=h3 (aj s 32) (n-1);omega
def E245:Ow 112 245:=by
 refine bh rfl ?_;rintro s n hp hn hok x args hl hargs hnl himm ⟨⟨_,m,hm⟩,_⟩;obtain⟨h0,hs⟩:=et (hargs 0 (by simp));obtain⟨h1,_⟩:=et (hargs 1 (by simp));have h2:=BN (hargs 2 (by simp));rw[NL hl,h0,h1,h2];rcases hn with rfl|⟨hn1,hn2⟩
 ·have hc:=Bn Tryz.lays147 (by kernel_rfl) ⟨⟨s⟩⟩ ⟨⟨[32]⟩⟩ m x.w (by show s.length<_;omega) hm (Nat.le_refl 1);have hlen:=Lib.splitB_all ⟨⟨[32]⟩⟩ (Nat.le_refl 1) 0 _ (⟨⟨s⟩⟩:ByteArray) rfl;have hL:(Lib.splitB ⟨⟨[32]⟩⟩ 0 (Lib.countB ⟨⟨s⟩⟩ ⟨⟨[32]⟩⟩) ⟨⟨s⟩⟩).map (fun t=>t.data.toList)=iH (-1) s:=wg 32 _ (⟨⟨s⟩⟩:ByteArray) rfl;have hsl:=cG s 32;have hll:(iH (-1) s).length=(Lib.splitB ⟨⟨[32]⟩⟩ 0 (Lib.countB ⟨⟨s⟩⟩ ⟨⟨[32]⟩⟩) ⟨⟨s⟩⟩).length:=by rw[←hL];simp
  have hw:iH (-1) s=aj s 32:=rfl;rw[hw]at hll;exact pG (by kernel_rfl) himm hL (by omega) (by simp only[maxLen];omega) (fun t ht=>by have:=dE s 32 ht;simp only[maxLen];omega) hc
 ·obtain⟨k,rfl⟩:∃k:Nat,n=k:=⟨n.toNat,by omega⟩
  have hc:=Tryz.strings_SplitN ⟨⟨s⟩⟩ ⟨⟨[32]⟩⟩ k m x.w (by show s.length<_;omega) hm (Nat.le_refl 1) (by omega) (by omega);have hle:=Lib.splitB_length_le ⟨⟨[32]⟩⟩ 0 (min k ((⟨⟨s⟩⟩:ByteArray).size+1) -1) ⟨⟨s⟩⟩;have hsz:(⟨⟨s⟩⟩:ByteArray).size=s.length:=rfl;obtain⟨q1,q2⟩:=Hd k (by omega) s;refine pG (by kernel_rfl) himm (L:=iH (k:Int) s) ?_ (by omega) (by simp only[maxLen];omega) (fun t ht=>?_) hc
  ·rw[Lib.splitB_data];exact Bq k (by omega) s
  ·have:iH (k:Int) s=oW k (aj s 32):=by unfold iH;rw[if_neg (by omega),Int.toNat_natCast]
   rw[this]at ht;have:=q2 t ht;simp only[maxLen];omega
def E683:Ow 155 683:=by
 refine bh rfl ?_;rintro s b rfl hp hok x args hl hargs hnl himm _;obtain⟨h0,hs⟩:=et (hargs 0 (by simp));obtain⟨h1,_⟩:=et (hargs 1 (by simp));rw[vn hl,h0,h1];refine iP (by kernel_rfl) himm (Calls.mono (Tryz.strings_Trim_one ⟨⟨s⟩⟩ 32 (by decide) x.w (by show s.length≤_;omega)) fun e w' ⟨h1,h2⟩=>⟨h1, ?_⟩) (fun x'=>?_)
 ·rcases h2 with rfl|rfl
  ·exact eC.refl _
  ·exact⟨rfl,rfl,rfl,Nat.le_refl _,fun _ _=>rfl⟩
 ·have:Lib.trimB (⟨⟨s⟩⟩:ByteArray).data.toList 32=cQ s:=ED s;rw[this];have hb:(cQ s).length≤s.length:=by
   unfold cQ;have h1:=lH s;have h2:=lH (ib s).reverse;simp only[List.length_reverse]at h2⊢;omega
  exact qQ _ (by omega)
def E469:Ow 65 469:=by
 refine bh rfl ?_;rintro l hp hok x args hl hargs hnl himm _;have h0:=hargs 0 (by simp);rw[IA hl];simp only[List.getD_cons_zero]at h0;generalize args.getD 0 undef=v0 at h0⊢;cases h0 with
 |sl a b off len cap k es c hlen ha hcap hm hk hn hc h1 h=>
  simp only[List.length_map]at hlen;subst hlen;have fin:∀(e:Ending) (w':World) v' ty,e=.returned v'→w'.ownsRow x.w.heap.size ty 1 v' l.length (l.map fun t=>Value.string ⟨⟨t⟩⟩)→Go.RowKit.Below x.w.heap.size x.w w'→
    ∃v,e=.returned v∧eC x.w w'∧∃I:Nat→Prop,(∀b,x.I b→I b)∧(∀b,I b→x.I b∨x.w.heap.size≤b∧b<w'.heap.size)∧RD sE ⟨w',I,x.β⟩ v (.sl 1 (l.map D.str)):=by
   rintro e w' v' ty rfl ⟨hxl,ho⟩ hB;refine⟨v',rfl,⟨hB.os,hB.tape,hB.output,hB.size,hB.block⟩, ?_⟩;rcases ho with⟨rfl,hl0⟩|⟨g,cap',cur,rfl,hg,hh,hle,hml,hcs,htk⟩
   ·have:l=[]:=List.length_eq_zero_iff.1 hl0;subst this;exact⟨x.I,fun _ h=>h,fun _ h=>.inl h,.sl none 0 0 0 0 1 [] (fun _ _=>.nilIface) rfl (.inl rfl) (Nat.le_refl _) (by simp[maxLen]) (fun i hi=>by omega) (fun i hi=>by omega) (fun i j hi=>by omega) (fun i j hi=>by omega) (fun i j hi=>by omega)⟩
   ·have hgl:g<w'.heap.size:=(Array.getElem?_eq_some_iff.1 hh).1;have hgt:∀i (hi:i<l.length),((l.map D.str).getD i .any)=.str l[i]:=fun i hi=>by simp[hi]
    refine⟨fun q=>x.I q∨q=g,fun _ h=>.inl h,fun q hq=>hq.imp id fun h=>by subst h;exact⟨hg,hgl⟩, ?_⟩;refine .sl _ g 0 l.length cap' 1 _ (fun i _=>.string ⟨⟨l.getD i []⟩⟩) (by simp) (.inr ⟨rfl,.inr rfl⟩) hle hml (fun i hi=>by rw[hgt i hi];rfl) (fun i hi=>by rw[hgt i hi];rfl) (fun i j hi hj=>?_) (fun _ _ _ _=>rfl) (fun i j hi hj=>?_)
    ·obtain rfl:j=0:=by omega
     refine(cell_of_heap (c:=cur) (T:=ty) (fr:=(0,0)) hh (by omega)).trans ?_;have e1:cur.toList[i]? =some (.string ⟨⟨l.getD i []⟩⟩):=by
      have e2:(cur.toList.take (l.length*1))[i]? =(l.map fun t=>Value.string ⟨⟨t⟩⟩)[i]? :=by rw[htk]
      rw[List.getElem?_take,if_pos (by omega)]at e2;rw[e2];simp[hi]
     have e3:cur[i]? =some (.string ⟨⟨l.getD i []⟩⟩):=by rw[←e1];simp
     rw[show(0+i*1+0:Nat)=i by omega,Array.getD_eq_getD_getElem?,e3];rfl
    ·obtain rfl:j=0:=by omega
     rw[hgt i hi];have q2:=h i 0 hi (by omega);rw[hgt i hi]at q2;obtain⟨_,q3⟩:=et q2;have:l.getD i []=l[i]:=by simp[hi]
     rw[this];exact .str _ q3
  rcases ha with he|⟨rfl,hI⟩
  ·have hnil:l=[]:=by simpa using he
   subst hnil;cases a with
   |none=>exact iP (by kernel_rfl) himm (Calls.mono (Tryz.slices_Clone_string_nil 0 cap x.w) fun e w' ⟨h1,h2⟩=>⟨h1,h2▸eC.refl _⟩) (fun x'=>.sl none 0 0 0 0 1 [] (fun _ _=>.nilIface) rfl (.inl rfl) (Nat.le_refl _) (by simp[maxLen]) (fun i hi=>by omega) (fun i hi=>by omega) (fun i j hi=>by omega) (fun i j hi=>by omega) (fun i j hi=>by omega))
   |some a=>exact n6 (by kernel_rfl) himm (Calls.mono (Tryz.slices_Clone_string_zero a cap x.w) fun e w' ⟨v',h1,h2,_,h3⟩=>fin e w' v' _ h1 h2 h3)
  ·have hcell:∀i,(hi:i<l.length)→x.w.cell? ⟨b,off+i,none⟩=some (.string ⟨⟨l[i]⟩⟩):=fun i hi=>by
    have q1:=hc i 0 hi (by omega);have q2:=h i 0 hi (by omega);have e:((l.map D.str).getD i .any).cells.getD 0 .any=.str l[i]:=by simp[hi,D.cells]
    rw[e]at q2;rw[(et q2).1]at q1;simpa using q1
   refine n6 (by kernel_rfl) himm (Calls.mono (Tryz.slices_Clone_string b off l.length cap (l.map fun t=>⟨⟨t⟩⟩) x.w (by simp) (by omega) (fun j hj=>?_)) fun e w' ⟨v',h1,h2,_,h3⟩=>?_)
   ·rw[List.length_map]at hj;rw[hcell j hj];simp[hj]
   ·have:((l.map fun t=>(⟨⟨t⟩⟩:ByteArray)).take l.length).map Value.string=l.map fun t=>Value.string ⟨⟨t⟩⟩:=by
     rw[List.take_of_length_le (by simp),List.map_map];rfl
    rw[this]at h2;exact fin e w' v' _ h1 h2 h3
def E489:Ow 131 489:=mB rfl fun ds st K h hok=>Hq rfl rfl Tryz.BD Tryz.JT (Go.Proofs.enters_of Tryz.BD.f166 (by kernel_rfl) rfl) ds st K h hok
def E664:Ow 132 664:=mB rfl fun ds st K h hok=>Hp rfl rfl Tryz.BE Tryz.JT (Go.Proofs.enters_of Tryz.BE.f167 (by kernel_rfl) rfl) ds st K h hok
def E452:Ow 96 452:=mB rfl fun ds st K h hok=>Ho rfl rfl Tryz.BF Tryz.JT (Go.Proofs.enters_of Tryz.BF.f169 (by kernel_rfl) rfl) ds st K h hok
def tq (sep:ah)(B:Nat):∀l:List ah,(∀t∈l,t.length≤B)→(aO sep l).length≤l.length*(B+sep.length)
 |[],_=>by simp[aO]
 |[t],h=>by have:=h t (.head _);simp only[aO,List.length_cons,List.length_nil];omega
 |t::u::r,h=>by
  have h1:=h t (.head _);have h2:=tq sep B (u::r) fun x hx=>h x (.tail _ hx)
  rw[fB _ _ _ (by simp)];rw[List.length_cons,Nat.succ_mul];simp only[List.length_append];omega
def E242:Ow 95 242:=by
 refine bh rfl ?_;rintro l sep hp1 hp2 hp3 hok x args hl hargs hnl himm _;have h0:=hargs 0 (by simp);obtain⟨h1,_⟩:=et (hargs 1 (by simp));rw[vn hl,h1];have hj:=tq sep 2097200 l hp3;have hj2:=Nat.mul_le_mul_right (2097200+sep.length) hp1;have hj3:1048600*(2097200+sep.length)≤140737488355328:=by
  have:=Nat.mul_le_mul_left 1048600 (show 2097200+sep.length≤2097204 by omega);omega
 have hjm:(aO sep l).length≤140737488355328:=by omega
 simp only[List.getD_cons_zero]at h0;generalize args.getD 0 undef=v0 at h0⊢;cases h0 with
 |sl a b off len cap k es c hlen ha hcap hm hk hn hc h1 h=>
  simp only[List.length_map]at hlen;subst hlen;rcases ha with he|⟨rfl,hI⟩
  ·have hnil:l=[]:=by simpa using he
   subst hnil;refine iP (by kernel_rfl) himm (Calls.mono (Tryz.strings_Join_none a cap ⟨⟨sep⟩⟩ x.w) fun e w' ⟨h1,h2⟩=>⟨h1,h2▸eC.refl _⟩) (fun x'=>?_);exact qQ [] (by simp)
  ·have hcell:∀i,(hi:i<l.length)→x.w.cell? ⟨b,off+i,none⟩=some (.string ⟨⟨l[i]⟩⟩):=fun i hi=>by
    have q1:=hc i 0 hi (by omega);have q2:=h i 0 hi (by omega);have e:((l.map D.str).getD i .any).cells.getD 0 .any=.str l[i]:=by simp[hi,D.cells]
    rw[e]at q2;rw[(et q2).1]at q1;simpa using q1
   have e2:(l.map fun t=>(⟨⟨t⟩⟩:ByteArray)).map (fun t=>t.data.toList)=l:=by rw[List.map_map];exact List.map_id l
   have hjl:Lib.join ((l.map fun t=>(⟨⟨t⟩⟩:ByteArray)).map (fun t=>t.data.toList)) (⟨⟨sep⟩⟩:ByteArray).data.toList=aO sep l:=by rw[e2];exact(yI sep l).symm
   have key:=Tryz.strings_Join b off cap (l.map fun t=>⟨⟨t⟩⟩) ⟨⟨sep⟩⟩ x.w (fun j y hy=>by
    rw[List.getElem?_map,Option.map_eq_some_iff]at hy;obtain⟨t,ht,rfl⟩:=hy;obtain⟨hlt,rfl⟩:=List.getElem?_eq_some_iff.1 ht;exact hcell j hlt) (himm b hI) (by simp;omega) (by simpa using hcap) (by rw[hjl];exact hjm)
   rw[hjl,List.length_map]at key;refine iP (by kernel_rfl) himm (Calls.mono key fun e w' ⟨h1,h2⟩=>⟨h1,h2.os,h2.tape,h2.output,h2.size,h2.block⟩) (fun x'=>?_);exact .str _ (by simp only[maxLen];omega)
end Go.Abs
end
section
namespace Go.Abs
section
variable [ct]
def H11:Ow 8 11:=bh rfl fun r hp0=>aN aZ ck rfl (w11 (aG _ _ _ _) G68 G69 G70 G71 G72 G73 G74 G75 r hp0)
def H73:Ow 16 73:=bh rfl fun r hp0=>aN aZ ck rfl (w73 (aG _ _ _ _) G71 MP r hp0)
def H209:Ow 42 209:=bh rfl fun v hp0=>aN aZ ck rfl (w209 (aG _ _ _ _) G440 G441 MS v hp0)
def H215:Ow 48 215:=bh rfl fun r hp0=>aN aZ ck rfl (w215 (aG _ _ _ _) JD G450 MU G452 r hp0)
def H221:Ow 53 221:=bh rfl fun s=>aN aZ ck rfl (w221 (aG _ _ _ _) G464 s)
def H357:Ow 140 357:=bh rfl fun s=>aN aZ ck rfl (w357 (aG _ _ _ _) MV JF s)
def H445:Ow 88 445:=bh rfl fun s=>aN aZ ck rfl (w445 (aG _ _ _ _) GY G660 M1 s)
def H451:Ow 94 451:=bh rfl fun v hp0=>aN aZ ck rfl (w451 (aG _ _ _ _) GZ M4 v hp0)
def H458:Ow 102 458:=bh rfl fun r b hp0=>aN aZ ck rfl (w458 (aG _ _ _ _) G0 MZ M6 r b hp0)
def H464:Ow 105 464:=bh rfl fun h n hp0=>aN aZ ck rfl (w464 (aG _ _ _ _) h n hp0)
def H482:Ow 80 482:=bh rfl fun c hp0=>aN aZ ck rfl (w482 (aG _ _ _ _) JE M8 G677 M9 c hp0)
def H572:Ow 141 572:=bh rfl fun s hp0=>aN aZ ck rfl (w572 (aG _ _ _ _) G744 G745 s hp0)
def H663:Ow 130 663:=bh rfl fun l nm=>aN aZ ck rfl (w663 (aG _ _ _ _) l nm)
def H670:Ow 139 670:=bh rfl fun s=>aN aZ ck rfl (w670 (aG _ _ _ _) G813 G814 s)
def H676:Ow 119 676:=bh rfl fun c hp0=>aN aZ ck rfl (w676 (aG _ _ _ _) JC c hp0)
def H734:Ow 153 734:=bh rfl fun n hp0=>aN aZ ck rfl (w734 (aG _ _ _ _) G882 n hp0)
def H811:Ow 161 811:=bh rfl fun l i hp0=>aN aZ ck rfl (w811 (aG _ _ _ _) Nj l i (Iv (Nat.le_refl _)) (Nk (Nat.le_refl _)) hp0)
def H819:Ow 180 819:=bh rfl fun s hp0=>aN aZ ck rfl (w819 (aG _ _ _ _) G1 JG JI Nf G956 Nq s hp0)
def H898:Ow 205 898:=bh rfl fun s=>aN aZ ck rfl (w898 (aG _ _ _ _) s)
def H948:Ow 192 948:=mB rfl fun x w nd b hp0 nx lp ln m K h1 h2 h3 h4 hK=>dR nH (by decide) rfl (fun _=>rfl) aZ ck rfl h1 h2 h3 h4 hK (w948 (aG _ _ _ _) x w nd b hp0)
def H954:Ow 202 954:=bh rfl fun l hp0=>aN aZ ck rfl (w954 (aG _ _ _ _) MG l hp0)
def Nt:Ow 226 1008:=bh rfl fun l=>aN aZ ck rfl (Oo (aG _ _ _ _) M5 l)
def Nz:Ow 223 1036:=bh rfl fun l i hp0=>aN aZ ck rfl (Oy (aG _ _ _ _) It MJ l i (JA (Nat.le_refl _)) hp0)
def NG:Ow 245 1126:=mB rfl fun W w nd hp0 hp1 nx lp ln m K h1 h2 h3 h4 hK=>dR (pz _) (by decide) rfl (fun _=>rfl) aZ ck rfl h1 h2 h3 h4 hK (OE (aG _ _ _ _) W w nd CG Bv It ML hp0 hp1)
end
end Go.Abs
end
section
namespace Go.Abs
section
variable [ct]
def H68:Ow 22 68:=bh rfl fun r=>aN aZ ck rfl (w68 (aG _ _ _ _) G207 r)
def H74:Ow 24 74:=bh rfl fun r hp0=>aN aZ ck rfl (w74 (aG _ _ _ _) G72 G220 r hp0)
def H210:Ow 43 210:=bh rfl fun r n hp0=>aN aZ ck rfl (w210 (aG _ _ _ _) MN CF G443 r n hp0)
def H216:Ow 50 216:=bh rfl fun s=>aN aZ ck rfl (w216 (aG _ _ _ _) MV JF s)
def H222:Ow 29 222:=Ko rfl Mw fun r hp0=>yE 2 aZ ck rfl rfl (w222 (aG _ _ _ _) G466 G467 MX G469 Ni r hp0)
def H440:Ow 82 440:=bh rfl fun n=>aN aZ ck rfl (w440 (aG _ _ _ _) n)
def H446:Ow 89 446:=bh rfl fun m=>aN aZ ck rfl (w446 (aG _ _ _ _) M1 M3 m)
def H453:Ow 97 453:=bh rfl fun c=>aN aZ ck rfl (w453 (aG _ _ _ _) c)
def H459:Ow 103 459:=bh rfl fun l hp0=>aN aZ ck rfl (w459 (aG _ _ _ _) CG G671 l hp0)
def H465:Ow 61 465:=NZ rfl Mx (fun r w n op hp0 hp1 hp2=>yE 2 aZ ck rfl rfl (OH (aG _ _ _ _) MQ MR r w n op hp0 hp1 hp2)) fun r w n op l nx m K hp0 hp1 hp2 hl hK=>Hn (yE 2 aZ ck rfl rfl (OH (aG _ _ _ _) MQ MR r w n op hp0 hp1 hp2)) hl rfl rfl hK
def H494:Ow 150 494:=bh rfl fun l x=>aN aZ ck rfl (w494 (aG _ _ _ _) l x)
def H658:Ow 116 658:=bh rfl fun s=>aN aZ ck rfl (w658 (aG _ _ _ _) s)
def H665:Ow 133 665:=bh rfl fun n hp0=>aN aZ ck rfl (w665 (aG _ _ _ _) G336 n hp0)
def H671:Ow 142 671:=bh rfl fun l of hp0=>aN aZ ck rfl (w671 (aG _ _ _ _) M7 Nc G816 l of hp0)
def H677:Ow 120 677:=mB rfl fun c hp0 nx m K hK=>DX rfl rfl aZ ck rfl rfl hK (w677 (aG _ _ _ _) c Na hp0)
def H744:Ow 170 744:=bh rfl fun s hp0=>aN aZ ck rfl (w744 (aG _ _ _ _) Es G896 G897 G898 Ng JJ s hp0)
def H812:Ow 167 812:=bh rfl fun l al=>aN aZ ck rfl (w812 (aG _ _ _ _) CG Nc l al)
def H827:Ow 188 827:=bh rfl fun c hp0=>aN aZ ck rfl (w827 (aG _ _ _ _) GZ c hp0)
def H899:Ow 206 899:=bh rfl fun r hp0=>aN aZ ck rfl (w899 (aG _ _ _ _) M8 r hp0)
def H949:Ow 193 949:=mB rfl fun w nd hp0 nx lp ln m K h1 h2 h3 h4 hK=>dR nH (by decide) rfl (fun _=>rfl) aZ ck rfl h1 h2 h3 h4 hK (w949 (aG _ _ _ _) w nd (M0 (Nat.le_of_eq (kB (c:=fun _=>0) h1).symm)) G2 G3 (Iw (Nat.le_of_eq (kB (c:=fun _=>0) h1).symm)) ME hp0)
def H955:Ow 209 955:=bh rfl fun l nm=>aN aZ ck rfl (w955 (aG _ _ _ _) l nm)
def Nu:Ow 217 1031:=mB rfl fun k w nd b hp0 nx lp ln m K h1 h2 h3 h4 hK=>dR nH (by decide) rfl (fun _=>rfl) aZ ck rfl h1 h2 h3 h4 hK (Oq (aG _ _ _ _) k w nd b CF G2 G3 Nj hp0)
def NA:Ow 237 1079:=bh rfl fun s w=>aN aZ ck rfl (Oz (aG _ _ _ _) s w)
def NH:Ow 248 1141:=mB rfl fun W w nd b hp0 nx lp ln m K h1 h2 h3 h4 hK=>qO (pz _) (by decide) rfl (fun _=>rfl) aZ ck rfl h1 h2 h3 h4 hK (OG (aG _ _ _ _) W w nd b hp0)
end
end Go.Abs
end
section
namespace Go.Abs
section
variable [ct]
def H69:Ow 12 69:=bh rfl (aN aZ ck rfl (w69 (aG _ _ _ _) G72 G76))
def H75:Ow 25 75:=bh rfl fun r hp0=>aN aZ ck rfl (w75 (aG _ _ _ _) G73 G221 r hp0)
def H211:Ow 44 211:=bh rfl fun r name rng hp0=>aN aZ ck rfl (w211 (aG _ _ _ _) JB G444 r name rng hp0)
def H217:Ow 51 217:=bh rfl fun v hp0=>aN aZ ck rfl (w217 (aG _ _ _ _) G455 G456 v hp0)
def H246:Ow 113 246:=bh rfl fun l x=>aN aZ ck rfl (w246 (aG _ _ _ _) G494 l x)
def H441:Ow 83 441:=bh rfl fun s hp0=>aN aZ ck rfl (w441 (aG _ _ _ _) MS G1 JG G659 s hp0)
def H447:Ow 90 447:=bh rfl fun l=>aN aZ ck rfl (w447 (aG _ _ _ _) l)
def H454:Ow 98 454:=bh rfl fun c=>aN aZ ck rfl (w454 (aG _ _ _ _) c)
def H460:Ow 104 460:=bh rfl fun r of hp0=>aN aZ ck rfl (w460 (aG _ _ _ _) M7 G673 G674 r of hp0)
def H466:Ow 62 466:=bh rfl fun s hp0=>aN aZ ck rfl (w466 (aG _ _ _ _) GZ MU G1 JG G675 s hp0)
def H495:Ow 123 495:=bh rfl fun s hp0=>aN aZ ck rfl (w495 (aG _ _ _ _) GY G682 G683 JH G685 Nh s hp0)
def H659:Ow 122 659:=bh rfl fun t=>aN aZ ck rfl (w659 (aG _ _ _ _) t)
def H666:Ow 135 666:=bh rfl fun t=>aN aZ ck rfl (w666 (aG _ _ _ _) t)
def H672:Ow 143 672:=bh rfl fun s hp0=>aN aZ ck rfl (w672 (aG _ _ _ _) G0 CG Es s hp0)
def H678:Ow 121 678:=bh rfl fun op=>aN aZ ck rfl (w678 (aG _ _ _ _) op)
def H745:Ow 171 745:=bh rfl fun r hp0=>aN aZ ck rfl (w745 (aG _ _ _ _) JJ G901 r hp0)
def H813:Ow 168 813:=bh rfl fun s=>aN aZ ck rfl (w813 (aG _ _ _ _) Es G952 Nn s)
def H828:Ow 189 828:=bh rfl fun c hp0=>aN aZ ck rfl (w828 (aG _ _ _ _) M4 JI Nq c hp0)
def H900:Ow 207 900:=bh rfl fun r hp0=>aN aZ ck rfl (w900 (aG _ _ _ _) MY r hp0)
def H950:Ow 194 950:=bh rfl (aN aZ ck rfl (w950 (aG _ _ _ _)))
def H956:Ow 212 956:=bh rfl fun s w=>aN aZ ck rfl (w956 (aG _ _ _ _) s w)
def Nv:Ow 219 1032:=mB rfl fun W w nd hp0 hp1 nx lp ln m K h1 h2 h3 h4 hK=>dR (pz _) (by decide) rfl (fun _=>rfl) aZ ck rfl h1 h2 h3 h4 hK (Ot (aG _ _ _ _) W w nd Ep Bv (Er (Nat.le_of_eq (ph (c:=fun _=>1) hp0.1 h1).symm)) hp0 hp1)
def NB:Ow 233 1097:=mB rfl fun W w nd hp0 hp1 nx lp ln m K h1 h2 h3 h4 hK=>dR (pz _) (by decide) rfl (fun _=>rfl) aZ ck rfl h1 h2 h3 h4 hK (OA (aG _ _ _ _) W w nd (Nl (Nat.le_of_eq (ph (c:=fun _=>0) hp0.1 h1).symm)) Ep Bv (Er (Nat.le_of_eq (ph (c:=fun _=>0) hp0.1 h1).symm)) MK hp0 hp1)
end
end Go.Abs
end
section
namespace Go.Abs
section
variable [ct]
def H70:Ow 20 70:=bh rfl fun r hp0=>aN aZ ck rfl (w70 (aG _ _ _ _) JB GZ G210 MM MN G213 G214 MO r hp0)
def H76:Ow 13 76:=bh rfl fun s=>aN aZ ck rfl (w76 (aG _ _ _ _) G70 GY G222 s)
def H212:Ow 45 212:=bh rfl fun s=>aN aZ ck rfl (w212 (aG _ _ _ _) G445 G446 s)
def H218:Ow 52 218:=bh rfl fun r hp0=>aN aZ ck rfl (w218 (aG _ _ _ _) G457 G458 G459 G460 r hp0)
def H249:Ow 77 249:=bh rfl fun l x hp0=>aN aZ ck rfl (w249 (aG _ _ _ _) l x hp0)
def H442:Ow 84 442:=bh rfl fun s hp0=>aN aZ ck rfl (w442 (aG _ _ _ _) G1 s hp0)
def H448:Ow 91 448:=bh rfl fun s hp0=>aN aZ ck rfl (w448 (aG _ _ _ _) JB G254 CF G487 s hp0)
def H455:Ow 99 455:=bh rfl fun n=>aN aZ ck rfl (w455 (aG _ _ _ _) n)
def H461:Ow 75 461:=bh rfl fun w hp0=>aN aZ ck rfl (w461 (aG _ _ _ _) JE w hp0)
def H467:Ow 63 467:=Ko rfl My fun r hp0=>yE 2 aZ ck rfl rfl (w467 (aG _ _ _ _) GY MW MX r hp0)
def H496:Ow 124 496:=bh rfl fun r hp0=>aN aZ ck rfl (w496 (aG _ _ _ _) JH r hp0)
def H660:Ow 125 660:=mB rfl fun w nd hp0 nx lp ln m K h1 h2 h3 h4 hK=>dR nH (by decide) rfl (fun _=>rfl) aZ ck rfl h1 h2 h3 h4 hK (w660 (aG _ _ _ _) w nd (Iu (Nat.le_of_eq (kB (c:=fun _=>4) h1).symm)) hp0)
def H667:Ow 136 667:=bh rfl fun s=>aN aZ ck rfl (w667 (aG _ _ _ _) JF s)
def H673:Ow 144 673:=bh rfl fun r x=>aN aZ ck rfl (w673 (aG _ _ _ _) r x)
def H682:Ow 154 682:=bh rfl fun s hp0=>aN aZ ck rfl (w682 (aG _ _ _ _) G819 s hp0)
def H808:Ow 158 808:=mB rfl ⟨fun w nd hp0 nx lp ln m K h1 h2 h3 h4 hK=>dR nH (by decide) rfl (fun _=>rfl) aZ ck rfl h1 h2 h3 h4 hK (OI (aG _ _ _ _) ie 809 mW 4 w nd JK G2 G3 hp0 sT (by decide) (by decide) (fun w2 nd2 hl hp=>Nb (Nat.le_refl _) w2 nd2 hp (by rw[kB h1];exact(show 6*w2.length+2<6*w.length+3 by omega)))),fun w nd hp0 nx lp ln m K h1 h2 h3 h4 hK=>dR nH (by decide) rfl (fun _=>rfl) aZ ck rfl h1 h2 h3 h4 hK (OI (aG _ _ _ _) gI 949 iN 3 w nd JK G2 G3 hp0 qA (by decide) (by decide) (fun w2 nd2 hl hp=>Iw (Nat.le_refl _) w2 nd2 hp (by rw[kB h1];exact(show 6*w2.length+0<6*w.length+1 by omega))))⟩
def H814:Ow 169 814:=bh rfl fun m=>aN aZ ck rfl (w814 (aG _ _ _ _) Nn Np m)
def H882:Ow 179 882:=bh rfl fun n hp0=>aN aZ ck rfl (w882 (aG _ _ _ _) n hp0)
def H901:Ow 208 901:=bh rfl fun r hp0=>aN aZ ck rfl (w901 (aG _ _ _ _) Ng JJ r hp0)
def H951:Ow 195 951:=bh rfl fun l i b hp0=>aN aZ ck rfl (w951 (aG _ _ _ _) l i b (Iv (Nat.le_refl _)) hp0)
def H957:Ow 213 957:=bh rfl fun op=>aN aZ ck rfl (w957 (aG _ _ _ _) op)
def Nw:Ow 220 1033:=mB rfl fun s W w nd b hp0 nx lp ln m K h1 h2 h3 h4 hK=>qO (pz _) (by decide) rfl (fun _=>rfl) aZ ck rfl h1 h2 h3 h4 hK (Ou (aG _ _ _ _) s W w nd b hp0)
def NC:Ow 234 1098:=bh rfl fun n=>aN aZ ck rfl (OB (aG _ _ _ _) CG n)
end
end Go.Abs
end
section
namespace Go.Abs
section
variable [ct]
def H71:Ow 23 71:=bh rfl fun r hp0=>aN aZ ck rfl (w71 (aG _ _ _ _) G0 JC G218 MP r hp0)
def H207:Ow 49 207:=bh rfl fun l=>aN aZ ck rfl (w207 (aG _ _ _ _) l)
def H213:Ow 46 213:=bh rfl fun l hp0=>aN aZ ck rfl (w213 (aG _ _ _ _) CF G447 MT G449 l hp0)
def H219:Ow 34 219:=bh rfl fun r hp0=>aN aZ ck rfl (w219 (aG _ _ _ _) JE G316 G461 G462 r hp0)
def H316:Ow 74 316:=bh rfl fun v hp0=>aN aZ ck rfl (w316 (aG _ _ _ _) JC G554 v hp0)
def H443:Ow 85 443:=bh rfl fun r w al hp0=>aN aZ ck rfl (w443 (aG _ _ _ _) MM CF r w al hp0)
def H449:Ow 92 449:=bh rfl fun l nm=>aN aZ ck rfl (w449 (aG _ _ _ _) G663 l nm)
def H456:Ow 100 456:=bh rfl fun s p hp0=>aN aZ ck rfl (w456 (aG _ _ _ _) Es G666 M5 G668 s p hp0)
def H462:Ow 76 462:=bh rfl fun s hp0=>aN aZ ck rfl (w462 (aG _ _ _ _) s hp0)
def H468:Ow 64 468:=Ko rfl Mz fun r hp0=>yE 2 aZ ck rfl rfl (w468 (aG _ _ _ _) MW r hp0)
def H533:Ow 115 533:=bh rfl fun s b hp0=>aN aZ ck rfl (w533 (aG _ _ _ _) s b hp0)
def H661:Ow 126 661:=bh rfl fun m=>aN aZ ck rfl (w661 (aG _ _ _ _) M3 G810 m)
def H668:Ow 137 668:=bh rfl fun t=>aN aZ ck rfl (w668 (aG _ _ _ _) t)
def H674:Ow 145 674:=bh rfl fun r x=>aN aZ ck rfl (w674 (aG _ _ _ _) r x)
def H684:Ow 156 684:=bh rfl fun r hp0=>aN aZ ck rfl (w684 (aG _ _ _ _) JD JI Nf r hp0)
def H809:Ow 159 809:=mB rfl fun w nd hp0 nx lp ln m K h1 h2 h3 h4 hK=>dR nH (by decide) rfl (fun _=>rfl) aZ ck rfl h1 h2 h3 h4 hK (w809 (aG _ _ _ _) w nd (Iu (Nat.le_of_eq (kB (c:=fun _=>2) h1).symm)) hp0)
def H815:Ow 172 815:=bh rfl fun l=>aN aZ ck rfl (w815 (aG _ _ _ _) l)
def H896:Ow 203 896:=bh rfl fun s hp0=>aN aZ ck rfl (w896 (aG _ _ _ _) s hp0)
def H946:Ow 190 946:=bh rfl fun w es b=>aN aZ ck rfl (w946 (aG _ _ _ _) w es b)
def H952:Ow 200 952:=mB rfl fun W w nd hp0 hp1 nx lp ln m K h1 h2 h3 h4 hK=>dR (pz _) (by decide) rfl (fun _=>rfl) aZ ck rfl h1 h2 h3 h4 hK (w952 (aG _ _ _ _) W w nd (Jz (Nat.le_of_eq (ph (c:=fun _=>2) hp0.1 h1).symm)) Ep Bv hp0 hp1)
def Nr:Ow 224 1006:=bh rfl fun s=>aN aZ ck rfl (Om (aG _ _ _ _) M9 MH s)
def Nx:Ow 221 1034:=mB rfl fun x W w nd b hp0 nx lp ln m K h1 h2 h3 h4 hK=>dR (pz _) (by decide) rfl (fun _=>rfl) aZ ck rfl h1 h2 h3 h4 hK (Ov (aG _ _ _ _) x W w nd b hp0)
def ND:Ow 235 1099:=bh rfl fun k hp0=>aN aZ ck rfl (OC (aG _ _ _ _) k hp0)
end
end Go.Abs
end
section
namespace Go.Abs
section
variable [ct]
def H72:Ow 21 72:=bh rfl fun r hp0=>aN aZ ck rfl (w72 (aG _ _ _ _) G70 MO r hp0)
def H208:Ow 41 208:=bh rfl fun s=>aN aZ ck rfl (w208 (aG _ _ _ _) s)
def H214:Ow 47 214:=bh rfl fun r s hp0=>aN aZ ck rfl (w214 (aG _ _ _ _) MT r s hp0)
def H220:Ow 26 220:=bh rfl fun s=>aN aZ ck rfl (w220 (aG _ _ _ _) G463 s)
def H349:Ow 86 349:=bh rfl fun s=>aN aZ ck rfl (w349 (aG _ _ _ _) s)
def H444:Ow 87 444:=bh rfl fun s hp0=>aN aZ ck rfl (w444 (aG _ _ _ _) G495 G496 s hp0)
def H450:Ow 93 450:=mB rfl fun ws t l lw nx m K h1 h2 h3 h4 hp2 hK=>De aZ ck rfl h1 h2 h3 h4 hK fun m0 hp0 hp1=>w450 (aG _ _ _ _) ws t m0 JD G489 G664 hp0 hp1 hp2
def H457:Ow 101 457:=bh rfl fun r n hp0=>aN aZ ck rfl (w457 (aG _ _ _ _) CG G669 M6 r n hp0)
def H463:Ow 54 463:=bh rfl fun h k hp0=>aN aZ ck rfl (w463 (aG _ _ _ _) h k hp0)
def H470:Ow 66 470:=bh rfl fun s b hp0=>aN aZ ck rfl (w470 (aG _ _ _ _) s b hp0)
def H554:Ow 118 554:=bh rfl fun v hp0=>aN aZ ck rfl (w554 (aG _ _ _ _) Na v hp0)
def H662:Ow 127 662:=bh rfl fun l hp0=>aN aZ ck rfl (w662 (aG _ _ _ _) G811 l hp0)
def H669:Ow 138 669:=bh rfl fun r w al hp0=>aN aZ ck rfl (w669 (aG _ _ _ _) G0 MZ G812 r w al hp0)
def H675:Ow 114 675:=bh rfl fun s b=>aN aZ ck rfl (w675 (aG _ _ _ _) s b)
def H685:Ow 157 685:=bh rfl fun r hp0=>aN aZ ck rfl (w685 (aG _ _ _ _) JH r hp0)
def H810:Ow 160 810:=bh rfl fun l=>aN aZ ck rfl (w810 (aG _ _ _ _) CF l)
def H816:Ow 173 816:=bh rfl fun l nm=>aN aZ ck rfl (w816 (aG _ _ _ _) G955 l nm)
def H897:Ow 204 897:=bh rfl fun s hp0=>aN aZ ck rfl (w897 (aG _ _ _ _) Es MY MB MC MD s hp0)
def H947:Ow 191 947:=mB rfl fun w nd b nx lp ln m K h1 h2 h3 h4 hK=>qO nH (by decide) rfl (fun _=>rfl) aZ ck rfl h1 h2 h3 h4 hK (w947 (aG _ _ _ _) w nd b JK)
def H953:Ow 201 953:=bh rfl fun m=>aN aZ ck rfl (w953 (aG _ _ _ _) Np MF m)
def Ns:Ow 225 1007:=bh rfl fun s=>aN aZ ck rfl (On (aG _ _ _ _) s)
def Ny:Ow 222 1035:=bh rfl fun l hp0=>aN aZ ck rfl (Ox (aG _ _ _ _) MI l hp0)
def NF:Ow 236 1100:=bh rfl fun s b hp0=>aN aZ ck rfl (OD (aG _ _ _ _) s b hp0)
end
end Go.Abs
end
namespace Go.Abs
def GL:List (Nat×Nat)→Prop
 |[]=>True
 |p::r=>Ow p.1 p.2∧GL r
def GL.mem:∀{l:List (Nat×Nat)},GL l→∀p∈l,Ow p.1 p.2
 |p::r,h,q,hq=>by
  rcases List.mem_cons.1 hq with rfl|hq
  ·exact h.1
  ·exact h.2.mem q hq
def allY:GL sE:=⟨H11,H69,H76,H73,H70,H72,H68,H71,H74,H75,H220,E124,H222,H219,H208,H209,H210,H211,H212,H213,H214,H215,H207,H216,H217,H218,H221,H463,H465,H466,H467,H468,E469,H470,H316,H461,H462,H249,H482,H440,H441,H442,H443,H349,H444,H445,H446,H447,H448,H449,H450,H451,E242,E452,H453,H454,H455,H456,H457,H458,H459,H460,H464,E245,H246,H675,H533,H658,H554,H676,H677,H678,H659,H495,H496,H660,H661,H662,E254,E487,H663,E489,E664,H665,H666,H667,H668,H669,H670,H357,H572,H671,H672,H673,H674,H494,H734,H682,E683,H684,H685,H808,H809,H810,H811,E336,H812,H813,H814,H744,H745,H815,H816,H882,H819,H827,H828,H946,H947,H948,H949,H950,H951,H952,H953,H954,H896,H897,H898,H899,H900,H901,H955,H956,H957,Nu,Nv,Nw,Nx,Ny,Nz,Nr,Ns,Nt,NB,NC,ND,NF,NA,NG,NH,trivial⟩
def qq:∀{l:List (Nat×Nat)}{a b:Nat},du l a=some b→(a,b)∈l
 |[],_,_,h=>by simp[du]at h
 |(c,d)::r,a,b,h=>by
  simp only[du]at h;split at h
  ·rename_i e;simp_all
  ·exact .tail _ (qq h)
def okY:Ok (Go.Proofs.Tryz.prog) sE EO (uQ aS):=okA (fun fid n hn=>(show ∀p∈sE,p.2<1000000 by decide+kernel) _ (qq hn)) (fun t ht=>by simp[EO]at ht;show t=133;omega) fun fid n hn=>allY.mem (fid,n) (qq hn)
end Go.Abs
section
namespace Go.Abs
open Go.RowKit Go.ChangeShapes
def eC.below {w w':World}(h:eC w w'):Below w.heap.size w w':=⟨h.os,h.tape,h.output,h.size,h.old⟩
section
variable {H:Type} {enc:TypeId×Value→H} {P:Program}
def uY {f:Func}{s:ChangeSpec}{apart fresh handsOn again:Bool}{W W':World}{args:Array Value}{v:Value}{ds gs:List (DataW H)}{before pa pv:List MemPlace}
  (hW:DataW.Whole enc P f.params.toList s.vars apart W args.toList ds gs before)
  (hres:∀(b:Nat) (sp:Nat→Bool) (hd:Bool),DataW.TrodAll enc P W' b sp hd f.resultTypes.toList (v.resultList f.resultTypes.size) (s.fn H (ds++gs)).results [])
  (hargs:∀sp:Nat→Bool,(∀p∈before,sp p.block=true)→DataW.TrodAll enc P W' 0 sp true f.params.toList args.toList (s.fn H (ds++gs)).args pa)
  (hvars:∀sp:Nat→Bool,(∀p∈before,sp p.block=true)→DataW.TrodVars enc P W' sp s.vars (s.fn H (ds++gs)).vars pv)
  (hps:before=pa++pv) (hb:Below W.heap.size W W')
  (hok:∀(j:Nat) (t:TypeId) (r:Value),f.resultTypes[j]? =some t→(v.resultList f.resultTypes.size)[j]? =some r→Value.okWide P W' .any 0 t r):
  s.post enc P f apart fresh handsOn again W args v W':=by
 have hold:∀p∈before,(fun b=>decide (b<W.heap.size)) p.block=true:=fun p hp=>by simpa using hW.lt p hp
 refine⟨ds,gs,before,[],pa,pv,hW,hres _ _ _,hargs _ hold,hvars _ hold,World.keptBut_mono (fun p hp=>⟨hp, ?_⟩) (hb.frame (· ∈before)),fun _=>?_⟩
 ·rw[hps,List.mem_append]at hp;exact Or.inr hp
 ·have hlt:=hW.lt;obtain⟨_,_,_,_,_,hz,hn⟩:=hW;refine⟨hok,_,_,([]++pa)++pv,⟨[]++pa,pv,trodAll_append (hargs _ (fun _ _=>rfl)) (hres _ _ _),hvars _ (fun _ _=>rfl),rfl, ?_, ?_⟩, ?_⟩
  ·intro b off hp;have hmem:MemPlace.cell b off∈before:=by rw[hps];simpa using hp
   have hq:=hz b off hmem;have hl:b<W.heap.size:=hlt _ hmem;simpa only[World.frozen?,hb.block b hl]using hq
  ·intro ha;have:=hn ha;rw[hps]at this;simpa using this
  ·intro p hp _;rw[hps];simpa using hp
end
end Go.Abs
end
section
namespace Go.Abs
inductive Lf
 |str
 |int (k:IntKind)
 |bool
 |sl (ag:Bool) (k:Nat) (cs:List Lf)
mutual
/--a value that fits a leaf,of so much bulk -/
def fit:Lf→D→Nat→Prop
 | .str,d,n=>∃s,d=.str s∧s.length+1≤n
 | .int k,d,n=>(∃m,d=.int k m∧(Lit.int k m).wf=true)∧1≤n
 | .bool,d,n=>(∃b,d=.bool b)∧1≤n
 | .sl ag k cs,d,n=>∃es,d=.sl k es∧∃ns:List Nat,ns.length=es.length∧ns.sum+1≤n∧∀i,i<es.length→∃ds,es.getD i .any=(bif ag then .agg ds else ds.getD 0 .any)∧fj cs ds (ns.getD i 0)
def fj:List Lf→List D→Nat→Prop
 |[],ds,_=>ds=[]
 |c::r,ds,n=>∃d ds' n1 n2,ds=d::ds'∧n1+n2≤n∧fit c d n1∧fj r ds' n2
end
def pZ:∀{cs:List Lf}{ds:List D}{n:Nat},fj cs ds n→ds.length=cs.length
 |[],ds,n,h=>by simp only[fj]at h;simp[h]
 |c::r,ds,n,h=>by
  simp only[fj]at h;obtain⟨d,ds',n1,n2,rfl,_,_,h2⟩:=h;simp[pZ h2]
def ru:∀{a b:List Lf}{da db:List D}{n m:Nat},fj a da n→fj b db m→fj (a++b) (da++db) (n+m)
 |[],b,da,db,n,m,h1,h2=>by
  simp only[fj]at h1;subst h1;simp only[List.nil_append];exact fitL_mono h2 (by omega)
 |c::r,b,da,db,n,m,h1,h2=>by
  simp only[fj]at h1;obtain⟨d,ds',n1,n2,rfl,h3,h4,h5⟩:=h1;simp only[List.cons_append,fj];exact⟨d,ds'++db,n1,n2+m,rfl,by omega,h4,ru h5 h2⟩
where
 fitL_mono:∀{cs:List Lf} {ds:List D} {n m:Nat},fj cs ds n→n≤m→fj cs ds m
 |[],_,_,_,h,_=>h
 |c::r,ds,n,m,h,hm=>by
  simp only[fj]at h⊢;obtain⟨d,ds',n1,n2,rfl,h3,h4,h5⟩:=h;exact⟨d,ds',n1,n2,rfl,by omega,h4,h5⟩
def BL {c:Lf}{d:D}{n:Nat}(h:fit c d n):d.cells=[d]∧d.aW=true:=by
 cases c<;>simp only[fit]at h
 ·obtain⟨s,rfl,_⟩:=h;exact⟨rfl,rfl⟩
 ·obtain⟨⟨m,rfl,_⟩,_⟩:=h;exact⟨rfl,rfl⟩
 ·obtain⟨⟨b,rfl⟩,_⟩:=h;exact⟨rfl,rfl⟩
 ·obtain⟨es,rfl,_⟩:=h;exact⟨rfl,rfl⟩
def o9:∀{cs:List Lf}{ds:List D}{n:Nat},fj cs ds n→aU ds=true
 |[],ds,n,h=>by simp only[fj]at h;subst h;rfl
 |c::r,ds,n,h=>by
  simp only[fj]at h;obtain⟨d,ds',n1,n2,rfl,_,h1,h2⟩:=h;simp only[aU,(BL h1).2,o9 h2,Bool.and_self]
def CJ (b o m j:Nat):((⟨b,o,none⟩:Addr).add m).add j=⟨b,o+m+j,none⟩:=by
 unfold Addr.add;split<;>split<;>simp_all
section
variable {H:Type}
mutual
def dB:DataW H→Nat
 | .lit (.string s)=>s.length+1
 | .slice es _=>C1 es+1
 | .agg ps=>C1 ps
 |_=>1
def C1:List (DataW H)→Nat
 |[]=>0
 |d::r=>dB d+C1 r
end
def BG:∀ds:List (DataW H),C1 ds=(ds.map dB).sum
 |[]=>rfl
 |d::r=>by simp only[C1,List.map_cons,List.sum_cons,BG r]
end
def qE (P:Program)(t:TypeId):Bool:=match P.underlying t with
 |some (.struct _)=>true
 |some (.array _ _)=>true
 |_=>false
def KZ (P:Program)(F:TypeId→Option (List Lf)):List Field→Nat→Option (List Lf)
 |[],_=>some []
 |f::r,off=>match F f.type,KZ P F r (off+P.cellsOf f.type)with
  |some a,some b=>if f.offset=off∧a.length=P.cellsOf f.type then some (a++b)else none
  |_,_=>none
def arrF (e:TypeId)(off:Nat):Field:={(default:Field)with type:=e,offset:=off}
def uV (P:Program):Nat→TypeId→Option (List Lf)
 |0,_=>none
 |n+1,t=>match P.underlying t with
  |some .bool=>some [.bool]
  |some (.int k)=>some [.int k]
  |some .string=>some [.str]
  |some (.slice e)=>match uV P n e with
   |some cs=>if cs.length=P.cellsOf e∧0<cs.length∧(qE P e=true∨cs.length=1)then some [.sl (qE P e) (P.cellsOf e) cs]else none
   |none=>none
  |some (.struct fs)=>match KZ P (uV P n) fs.toList 0 with
   |some a=>if a.length=P.cellsOf t then some a else none
   |none=>none
  |some (.array k e)=>match KZ P (uV P n) ((List.range k).map fun i=>arrF e (i*P.cellsOf e)) 0 with
   |some a=>if a.length=P.cellsOf t then some a else none
   |none=>none
  |_=>none
section
variable {H:Type} {enc:TypeId×Value→H} {P:Program} {ν:List (Nat×Nat)}
def uF (W:World):X:=⟨W,fun b=>b<W.heap.size,fun _=>none⟩
def Rds (ν:List (Nat×Nat))(W:World)(cs:List Value)(a:List Lf)(n:Nat):Prop:=
 cs.length=a.length∧∃ds:List D,fj a ds n∧∀i,i<cs.length→RD ν (uF W) (cs.getD i undef) (ds.getD i .any)∧(cs.getD i undef).oneCell'=true
def Rds.one {W:World}{v:Value}{c:Lf}{d:D}{n:Nat}(hf:fit c d n)(hr:RD ν (uF W) v d)(h1:v.oneCell'=true):Rds ν W [v] [c] n:=
 ⟨rfl,[d],by simp only[fj];exact⟨d,[],n,0,rfl,by omega,hf,rfl⟩,fun i hi=>by
  obtain rfl:i=0:=by simpa using hi
  exact⟨hr,h1⟩⟩
def AI {W:World}{F:TypeId→Option (List Lf)}{m:Nat}{sp:Nat→Bool}{held:Bool}{cs:List Value}
  (hF:∀t a cs (x:DataW H×List MemPlace),F t=some a→DataW.trod enc P W 0 sp held m t cs=some x→Rds ν W cs a (dB x.1)):
  ∀(r:List Field) (off:Nat) (a:List Lf) (xs:List (DataW H×List MemPlace)),KZ P F r off=some a→xs.length=r.length→
   (∀(i:Nat) (f:Field),r[i]? =some f→DataW.trod enc P W 0 sp held m f.type ((cs.drop f.offset).take (P.cellsOf f.type))=xs[i]?)→off+a.length≤cs.length→
   ∃ds:List D,fj a ds (C1 (xs.map (·.1)))∧∀i,i<a.length→RD ν (uF W) (cs.getD (off+i) undef) (ds.getD i .any)∧(cs.getD (off+i) undef).oneCell'=true
 |[],off,a,xs,h,hl,_,_=>by
  simp only[KZ,Option.some.injEq]at h;subst h;exact⟨[],rfl,fun i hi=>by simp at hi⟩
 |f::r,off,a,xs,h,hl,hx,hoff=>by
  simp only[KZ]at h;split at h
  ·rename_i a1 a2 h1 h2;split at h
   ·rename_i hc;simp only[Option.some.injEq]at h;subst h
    match xs,hl with
    |x::xs,hl=>
    have q:=hx 0 f rfl;simp only[List.getElem?_cons_zero]at q;obtain⟨l1,ds1,g1,g2⟩:=hF _ _ _ _ h1 q;simp only[List.length_append]at hoff;have hlen:((cs.drop f.offset).take (P.cellsOf f.type)).length=a1.length:=by rw[←l1]
    obtain⟨ds2,g3,g4⟩:=AI hF r _ a2 xs h2 (by simpa using hl) (fun i f' hf=>by simpa using hx (i+1) f' (by simpa using hf)) (by omega);have hd1:=pZ g1;refine⟨ds1++ds2,by simp only[List.map_cons,C1];exact ru g1 g3,fun i hi=>?_⟩;simp only[List.length_append]at hi;by_cases hi1:i<a1.length
    ·have:=g2 i (by omega);have e1:(ds1++ds2).getD i .any=ds1.getD i .any:=by simp[List.getD,List.getElem?_append,hd1,hi1]
     have e2:((cs.drop f.offset).take (P.cellsOf f.type)).getD i undef=cs.getD (off+i) undef:=by
      simp only[List.getD,List.getElem?_take,List.getElem?_drop,hc.1];rw[if_pos (by omega)]
     rw[e1,←e2];exact this
    ·have:=g4 (i-a1.length) (by omega);have e1:(ds1++ds2).getD i .any=ds2.getD (i-a1.length) .any:=by simp[List.getD,List.getElem?_append,hd1,hi1]
     rw[e1,show off+i=off+P.cellsOf f.type+(i-a1.length)by omega];exact this
   ·cases h
  ·cases h
def sJ {W:World}{sp:Nat→Bool}{held:Bool}:∀(fl:Nat)(t:TypeId)(a:List Lf)(fuel:Nat)(cs:List Value)(x:DataW H×List MemPlace),
  uV P fl t=some a→DataW.trod enc P W 0 sp held fuel t cs=some x→Rds ν W cs a (dB x.1)
 |0,t,a,fuel,cs,x,h,_=>by simp[uV]at h
 |n+1,t,a,fuel,cs,x,h,hx=>by
  unfold uV at h;split at h
  ·rename_i ht;simp only[Option.some.injEq]at h;subst h;obtain⟨b,rfl,rfl⟩:=DataW.trod_bool ht hx;exact .one (by simp only[fit];exact⟨⟨b,rfl⟩,by simp[dB]⟩) (.bool b) rfl
  ·rename_i k ht;simp only[Option.some.injEq]at h;subst h;obtain⟨m,rfl,rfl,hw⟩:=DataW.trod_int ht hx;exact .one (by simp only[fit];exact⟨⟨m,rfl,hw⟩,by simp[dB]⟩) (.int k m) rfl
  ·rename_i ht;simp only[Option.some.injEq]at h;subst h;obtain⟨s,rfl,rfl,hs⟩:=DataW.trod_string ht hx;obtain⟨⟨l⟩⟩:=s;exact .one (d:=.str l) (by simp only[fit];exact⟨l,rfl,by simp[dB]⟩) (.str l hs) rfl
  ·rename_i e ht;split at h
   ·rename_i ce hce;split at h
    ·rename_i hk;obtain⟨hk1,hk0,hkag⟩:=hk;simp only[Option.some.injEq]at h;subst h;rcases DataW.trod_slice ht hx with⟨rfl,rfl⟩|⟨ad,len,cap,elems,rest,m,rfl,rfl,rfl,hb,hlc,hcm,hel,hat,_,_⟩
     ·refine .one (d:=.sl (P.cellsOf e) []) (by simp only[fit];exact⟨[],rfl,[],rfl,by simp[dB],fun i hi=>by simp at hi⟩) ?_ rfl;exact .sl none 0 0 0 0 _ [] (fun _ _=>undef) rfl (.inl rfl) (Nat.le_refl _) (Nat.zero_le _) (fun i hi=>by omega) (fun i hi=>by omega) (fun i j hi=>by omega) (fun i j hi=>by omega) (fun i j hi=>by omega)
     ·have key:∀i,i<len→∃(csi:List Value) (dsi:List D),(csi.length=ce.length∧∀j,j<P.cellsOf e→W.cell? ((ad.add (i*P.cellsOf e)).add j)=csi[j]?)∧fj ce dsi (dB (elems.getD i (.nil,[])).1)∧
        ∀j,j<csi.length→RD ν (uF W) (csi.getD j undef) (dsi.getD j .any)∧(csi.getD j undef).oneCell'=true:=by
       intro i hi;have q:=hat i hi;have hgi:elems[i]? =some (elems.getD i (.nil,[])):=by simp[List.getD,show i<elems.length by omega]
       rw[hgi,Option.bind_eq_some_iff]at q;obtain⟨csi,q1,q2⟩:=q;obtain⟨l1,dsi,g1,g2⟩:=sJ n e ce m csi _ hce q2;obtain⟨_,_,q3⟩:=World.cells?_some q1;exact⟨csi,dsi,⟨l1,q3⟩,g1,g2⟩
      let f:Nat→List Value×List D:=fun i=>if h:i<len then((key i h).choose,(key i h).choose_spec.choose)else([],[])
      have hf:∀i,i<len→((f i).1.length=ce.length∧∀j,j<P.cellsOf e→W.cell? ((ad.add (i*P.cellsOf e)).add j)=(f i).1[j]?)∧fj ce (f i).2 (dB (elems.getD i (.nil,[])).1)∧
        ∀j,j<(f i).1.length→RD ν (uF W) ((f i).1.getD j undef) ((f i).2.getD j .any)∧((f i).1.getD j undef).oneCell'=true:=by
       intro i hi;have e1:f i=((key i hi).choose,(key i hi).choose_spec.choose):=by simp[f,hi]
       rw[e1];exact(key i hi).choose_spec.choose_spec
      let es:List D:=(List.range len).map fun i=>bif qE P e then .agg (f i).2 else(f i).2.getD 0 .any
      have hes:∀i,i<len→es.getD i .any=bif qE P e then .agg (f i).2 else(f i).2.getD 0 .any:=fun i hi=>by simp[es,hi]
      have hcells:∀i,i<len→(es.getD i .any).cells=(f i).2:=fun i hi=>by
       rw[hes i hi];cases hag:qE P e with
       |true=>rfl
       |false=>
        have h1:ce.length=1:=by
         rcases hkag with h|h
         ·rw[hag]at h;cases h
         ·exact h
        match ce,h1 with
        |[c],_=>
        have g:=(hf i hi).2.1;simp only[fj]at g;obtain⟨d,ds',n1,n2,e1,_,g1,rfl⟩:=g;rw[e1];exact(BL g1).1
      have hnl:∀i,i<len→(es.getD i .any).aW=true:=fun i hi=>by
       have g:=o9 (hf i hi).2.1;rw[hes i hi];cases hag:qE P e with
       |true=>exact g
       |false=>
        show((f i).2.getD 0 .any).aW=true
        match hq:(f i).2 with
        |[]=>rfl
        |d::r=>
         rw[hq]at g;simp only[aU,Bool.and_eq_true]at g;exact g.1
      refine .one (d:=.sl (P.cellsOf e) es) ?_ ?_ rfl
      ·simp only[fit];refine⟨es,rfl,elems.map fun q=>dB q.1,by simp[es,hel],by simp only[dB,BG,List.map_map];exact Nat.le_refl _,fun i hi=>?_⟩;have hi':i<len:=by simpa[es]using hi
       refine⟨(f i).2,hes i hi', ?_⟩;have:=(hf i hi').2.1;have e2:(elems.map fun q=>dB q.1).getD i 0=dB (elems.getD i (.nil,[])).1:=by simp[List.getD,show i<elems.length by omega]
       rw[e2];exact this
      ·have hfl:∀i,i<len→(f i).1.length=P.cellsOf e:=fun i hi=>by rw[(hf i hi).1.1,hk1]
       have hdl:∀i,i<len→(f i).2.length=P.cellsOf e:=fun i hi=>by rw[pZ (hf i hi).2.1,hk1]
       have hcell:∀i j,i<len→j<P.cellsOf e→W.cell? ((ad.add (i*P.cellsOf e)).add j)=some ((f i).1.getD j undef):=fun i j hi hj=>by
        rw[(hf i hi).1.2 j hj];simp[List.getD,show j<(f i).1.length by rw[hfl i hi];exact hj]
       have hsp:es=[]∨(ad.spot=none∧ad.block<W.heap.size):=by
        by_cases h0:len=0
        ·left;simp[es,h0]
        ·right;have h1:=hcell 0 0 (by omega) (by omega);have e3:(ad.add (0*P.cellsOf e)).add 0=ad:=by simp[Addr.add]
         rw[e3]at h1;refine⟨World.cell?_spot h1, ?_⟩;unfold World.cell? at h1;split at h1
         ·rename_i h2;exact(Array.getElem?_eq_some_iff.mp h2).1
         ·cases h1
       obtain⟨ab,ao,asp⟩:=ad;refine .sl (some ⟨ab,ao,asp⟩) ab ao len cap _ es (fun i j=>(f i).1.getD j undef) (by simp[es]) ?_ hlc hcm (fun i hi=>by rw[hcells i hi,hdl i hi]) hnl ?_ ?_ ?_
       ·rcases hsp with h|⟨h,h2⟩
        ·exact .inl h
        ·obtain rfl:asp=none:=h;exact .inr ⟨rfl,h2⟩
       ·intro i j hi hj;have h1:=hcell i j hi hj;rcases hsp with h|⟨h,h2⟩
        ·have:es.length=0:=by rw[h];rfl
         simp[es]at this;omega
        ·obtain rfl:asp=none:=h
         rwa [CJ]at h1
       ·intro i j hi hj;exact((hf i hi).2.2 j (by rw[hfl i hi];exact hj)).2
       ·intro i j hi hj;rw[hcells i hi];exact((hf i hi).2.2 j (by rw[hfl i hi];exact hj)).1
    ·cases h
   ·cases h
  ·rename_i fs ht;split at h
   ·rename_i b hb;split at h
    ·rename_i hlen;simp only[Option.some.injEq]at h;subst h;obtain⟨xs,m,rfl,rfl,hcl,hxl,hat⟩:=DataW.trod_struct ht hx;obtain⟨ds,g1,g2⟩:=AI (W:=W) (ν:=ν) (sp:=sp) (held:=held) (enc:=enc) (m:=m) (cs:=cs) (fun t a cs x h1 h2=>sJ n t a m cs x h1 h2) fs.toList 0 b xs hb (by simpa using hxl) (fun i f hf=>hat i f (by simpa using hf)) (by omega);refine⟨by omega,ds,by simpa only[dB]using g1,fun i hi=>?_⟩;have:=g2 i (by omega)
     rwa [Nat.zero_add]at this
    ·cases h
   ·cases h
  ·rename_i k e ht;split at h
   ·rename_i b hb;split at h
    ·rename_i hlen;simp only[Option.some.injEq]at h;subst h;obtain⟨xs,m,rfl,rfl,hcl,hxl,hat⟩:=DataW.trod_array ht hx;obtain⟨ds,g1,g2⟩:=AI (W:=W) (ν:=ν) (sp:=sp) (held:=held) (enc:=enc) (m:=m) (cs:=cs) (fun t a cs x h1 h2=>sJ n t a m cs x h1 h2) _ 0 b xs hb (by simpa using hxl) (fun i f hf=>by
      simp only[List.getElem?_map,Option.map_eq_some_iff]at hf;obtain⟨j,hj,rfl⟩:=hf;have hi:i<k:=by
       have:=(List.getElem?_eq_some_iff.1 hj).1;simpa using this
      obtain rfl:j=i:=by simpa[hi]using hj.symm
      exact hat j hi) (by omega)
     refine⟨by omega,ds,by simpa only[dB]using g1,fun i hi=>?_⟩;have:=g2 i (by omega)
     rwa [Nat.zero_add]at this
    ·cases h
   ·cases h
  ·cases h
end
end Go.Abs
end
section
namespace Go.Abs
open Go.RowKit Go.ChangeShapes Go.WideShapes
def Ag (sh:Bool×List Lf)(d:D)(n:Nat):Prop:=∃ds,fj sh.2 ds n∧d=bif sh.1 then .agg ds else ds.getD 0 .any
def sw:List (Bool×List Lf)→List D→Nat→Prop
 |[],ds,_=>ds=[]
 |s::r,ds,n=>∃d ds' n1 n2,ds=d::ds'∧n1+n2≤n∧Ag s d n1∧sw r ds' n2
def lZ (P:Program)(k:Nat):List TypeId→Option (List (Bool×List Lf))
 |[]=>some []
 |t::r=>match uV P k t,lZ P k r with
  |some a,some b=>if qE P t=true∨a.length=1 then some ((qE P t,a)::b)else none
  |_,_=>none
section
variable {H:Type} {enc:TypeId×Value→H} {P:Program} {ν:List (Nat×Nat)}
def JQ {W:World}{sp:Nat→Bool}{held:Bool}{k base:Nat}{t:TypeId}{a:List Lf}{v:Value}{d:DataW H}{p:List MemPlace}{r:Reach}
  (ha:uV P k t=some a) (h1:qE P t=true∨a.length=1) (rV:Value.okWide P W r base t v) (h:DataW.Trod enc P W 0 sp held t v d p):
  ∃e,Ag (qE P t,a) e (dB d)∧e.aW=true∧RD ν (uF W) v e:=by
 obtain⟨fuel,hf⟩:=h;obtain⟨hl,ds,g1,g2⟩:=sJ (ν:=ν) k t a fuel v.cells.toList (d,p) ha hf;have hdl:=pZ g1;have hnl:=o9 g1;refine⟨_,⟨ds,g1,rfl⟩, ?_⟩;cases hag:qE P t with
 |true=>
  have:∃cs,v=.agg cs∧cs.size=P.cellsOf t:=by
   match k,ha with
   |n+1,ha=>
   unfold uV at ha;unfold qE at hag;split at ha
   ·simp_all
   ·simp_all
   ·simp_all
   ·simp_all
   ·rename_i fs ht;exact okWide_struct ht rV
   ·rename_i m e ht;simp only[Value.okWide,ht]at rV;obtain⟨cs,h1,h2,_⟩:=rV;exact⟨cs,h1,h2⟩
   ·simp_all
  obtain⟨cs,rfl,hcs⟩:=this;refine⟨hnl, ?_⟩;have hl':cs.size=a.length:=by simpa[Value.cells]using hl
  have e:∀i,(Value.agg cs).cells.toList.getD i undef=cs.getD i undef:=fun i=>by
   simp only[Value.cells];by_cases hi:i<cs.size<;>simp[List.getD,Array.getD,hi]
  refine .agg cs ds (by omega) (fun i hi=>?_) fun i hi=>?_
  ·rw[←e];exact(g2 i (by simp only[Value.cells,Array.length_toList];omega)).2
  ·rw[←e];exact(g2 i (by simp only[Value.cells,Array.length_toList];omega)).1
 |false=>
  have h1:a.length=1:=by
   rcases h1 with h|h
   ·rw[hag]at h;cases h
   ·exact h
  have hv:v.cells.toList.getD 0 undef=v:=by
   match k,ha with
   |n+1,ha=>
   unfold uV at ha;unfold qE at hag;split at ha
   ·rename_i ht;obtain⟨b,rfl⟩:=okWide_bool ht rV;rfl
   ·rename_i k ht;obtain⟨b,rfl⟩:=okWide_int ht rV;rfl
   ·rename_i ht;obtain⟨b,rfl⟩:=okWide_string ht rV;rfl
   ·rename_i e ht;obtain⟨b,c,f,rfl⟩:=okWide_slice ht rV;rfl
   ·rename_i fs ht;rw[ht]at hag;cases hag
   ·rename_i m e ht;rw[ht]at hag;cases hag
   ·cases ha
  have g:=g2 0 (by omega);rw[hv]at g;refine⟨?_,g.1⟩
  match ds,hdl with
  |[d0],_=>simpa[aU]using hnl
  |[],h=>simp at h;omega
  |_::_::_,h=>simp at h;omega
def BA {W:World}{sp:Nat→Bool}{held:Bool}{k base:Nat}{r:Reach}:∀(ts:List TypeId)(shs:List (Bool×List Lf))(vs:List Value)(dws:List (DataW H))(ps:List MemPlace),
  lZ P k ts=some shs→(∀(j:Nat) t v,ts[j]? =some t→vs[j]? =some v→Value.okWide P W r base t v)→DataW.TrodAll enc P W 0 sp held ts vs dws ps→
  ∃es:List D,sw shs es (C1 dws)∧es.length=vs.length∧dws.length=ts.length∧aU es=true∧∀i,i<es.length→RD ν (uF W) (vs.getD i undef) (es.getD i .any)
 |[],shs,vs,dws,ps,hs,_,h=>by
  simp only[lZ,Option.some.injEq]at hs;subst hs;obtain⟨rfl,rfl,rfl⟩:=trodAll_nil h;exact⟨[],rfl,rfl,rfl,rfl,fun i hi=>by simp at hi⟩
 |t::ts,shs,vs,dws,ps,hs,hv,h=>by
  simp only[lZ]at hs;split at hs
  ·rename_i a b h1 h2;split at hs
   ·rename_i hc;simp only[Option.some.injEq]at hs;subst hs;obtain⟨v,vs',d,ds',p,q,rfl,rfl,rfl,h3,h4⟩:=trodAll_cons h;obtain⟨e,g1,g2,g3⟩:=JQ (ν:=ν) h1 hc (hv 0 t v rfl rfl) h3;obtain⟨es,k1,k2,k3,k4,k5⟩:=BA ts b vs' ds' q h2 (fun j t v h5 h6=>hv (j+1) t v (by simpa using h5) (by simpa using h6)) h4;refine⟨e::es,⟨e,es,_,_,rfl,Nat.le_refl _,g1,k1⟩,by simp[k2],by simp[k3],by simp[aU,g2,k4],fun i hi=>?_⟩
    match i,hi with
    |0,_=>exact g3
    |i+1,hi=>exact k5 i (by simpa using hi)
   ·cases hs
  ·cases hs
def oP {W W':World}(hl:laidOutB P=true)(hb:Below W.heap.size W W'){sp':Nat→Bool}:∀(ts:List TypeId)(vs:List Value)(dws:List (DataW H))(ps:List MemPlace),
  (ts.all fun t=>P.readableRec t&&decide (t<P.types.size))=true→(∀x∈ps,x.block<W.heap.size)→(∀x∈ps,sp' x.block=true)→
  DataW.TrodAll enc P W 0 (fun _=>true) true ts vs dws ps→DataW.TrodAll enc P W' 0 sp' true ts vs dws ps
 |[],vs,dws,ps,_,_,_,h=>by
  obtain⟨rfl,rfl,rfl⟩:=trodAll_nil h;exact trodAll_mk0
 |t::ts,vs,dws,ps,ht,hlt,hsp,h=>by
  obtain⟨v,vs',d,ds',p,q,rfl,rfl,rfl,h3,h4⟩:=trodAll_cons h;simp only[List.all_cons,Bool.and_eq_true,decide_eq_true_eq]at ht;refine trodAll_cons_mk (WideElems.Trod_stays hl ht.1.1 ht.1.2 h3 (fun x hx=>hb.same (hlt x (by simp[hx]))) fun x hx=>hsp x (by simp[hx])) ?_;exact oP hl hb ts vs' ds' q ht.2 (fun x hx=>hlt x (by simp[hx])) (fun x hx=>hsp x (by simp[hx])) h4
end
end Go.Abs
end
namespace Go.Abs
def Hi {c:Lf}{d:D}{n:Nat}(h:fit c d n):1≤n:=by
 cases c<;>simp only[fit]at h
 ·obtain⟨s,_,h⟩:=h;omega
 ·exact h.2
 ·exact h.2
 ·obtain⟨es,_,ns,_,h,_⟩:=h;omega
def Cs:∀(ns:List Nat)(i:Nat),i<ns.length→ns.getD i 0≤ns.sum
 |a::r,0,_=>by simp
 |a::r,i+1,h=>by
  have:=Cs r i (by simpa using h);simp only[List.getD_cons_succ,List.sum_cons];omega
def Ct:∀(ns:List Nat),(∀i,i<ns.length→1≤ns.getD i 0)→ns.length≤ns.sum
 |[],_=>by simp
 |a::r,h=>by
  have h0:=h 0 (by simp);have:=Ct r fun i hi=>h (i+1) (by simpa using hi)
  simp only[List.getD_cons_zero]at h0;simp only[List.length_cons,List.sum_cons];omega
def ui {α:Type}{q:α→D}{G:α→Prop}{ag:Bool}{k:Nat}{cs:List Lf}{d:D}{n:Nat}(hcs:cs≠[])
  (hd:∀ds m,m≤n→fj cs ds m→∃x,(bif ag then D.agg ds else ds.getD 0 .any)=q x∧G x) (h:fit (.sl ag k cs) d n):
  ∃xs:List α,d=.sl k (xs.map q)∧xs.length+1≤n∧∀x∈xs,G x:=by
 simp only[fit]at h;obtain⟨es,rfl,ns,hl,hs,he⟩:=h;have hone:∀i,i<ns.length→1≤ns.getD i 0:=fun i hi=>by
  obtain⟨ds,_,h2⟩:=he i (by omega)
  match cs,hcs with
  |c::r,_=>
  simp only[fj]at h2;obtain⟨d,ds',n1,n2,_,h3,h4,_⟩:=h2;have:=Hi h4;omega
 have hlen:=Ct ns hone;have key:∀i,i<es.length→∃x,es.getD i .any=q x∧G x:=fun i hi=>by
  obtain⟨ds,h1,h2⟩:=he i hi;obtain⟨x,h3,h4⟩:=hd ds _ (by have:=Cs ns i (by omega);omega) h2;exact⟨x,h1.trans h3,h4⟩
 have conv:∀es:List D,(∀i,i<es.length→∃x,es.getD i .any=q x∧G x)→∃xs:List α,es=xs.map q∧∀x∈xs,G x:=by
  intro es;induction es with
  |nil=>exact fun _=>⟨[],rfl,fun x hx=>by cases hx⟩
  |cons e r ih=>
   intro h;obtain⟨x,h1,h2⟩:=h 0 (by simp);obtain⟨xs,h3,h4⟩:=ih fun i hi=>by simpa using h (i+1) (by simpa using hi)
   simp only[List.getD_cons_zero]at h1;refine⟨x::xs,by rw[h3,h1];rfl,fun y hy=>?_⟩;rcases List.mem_cons.1 hy with rfl|hy
   ·exact h2
   ·exact h4 y hy
 obtain⟨xs,rfl,hx⟩:=conv es key
 refine⟨xs,rfl, ?_,hx⟩;simp only[List.length_map]at hl;omega
def zF {d:D}{n:Nat}(h:fit (.sl false 1 [.str]) d n):∃xs:List ah,d=.sl 1 (xs.map D.str)∧xs.length+1≤n∧∀x∈xs,x.length+1≤n:=
 ui (q:=D.str) (G:=fun x=>x.length+1≤n) (by simp) (fun ds m hm h=>by
  simp only[fj,fit]at h;obtain⟨d,ds',n1,n2,rfl,_,⟨x,rfl,_⟩,rfl⟩:=h;exact⟨x,rfl,by omega⟩) h
end Go.Abs
section
namespace Go.Abs
open Go.RowKit Go.ChangeShapes Go.WideShapes
def ctxp {t:List (Nat×ox)}{n:Nat}{ds:List D}{d:D}(hD:MA (lk t n jQ).rel)(h:(lk t n jQ).rel ds d):(uQ t).pre n ds∧(uQ t).val n ds=d:=⟨⟨d,h⟩,hD _ _ _ (iZ ⟨d,h⟩) h⟩
def Cy:List Lf:=[.str,.str,.sl false 1 [.str],.bool]
def B4:List Lf:=[.sl true 4 Cy,.str,.str]
def G8:List Lf:=[.str,.str,.str]
def BK:List Lf:=[.str,.sl false 1 [.str]]
def HV:List Lf:=[.str,.int .i64,.int .i64,.int .i64,.str,.str,.sl true 3 B4,.sl true 3 G8,.sl true 2 BK]
def Gt {ds:List D}{n:Nat}(h:fj Cy ds n):∃x:bN,D.agg ds=x.D∧True:=by
 simp only[Cy,fj]at h;obtain⟨d1,_,m1,r1,rfl,a1,h1,d2,_,m2,r2,rfl,a2,h2,d3,_,m3,r3,rfl,a3,h3,d4,_,m4,r4,rfl,a4,h4,rfl⟩:=h;obtain⟨xs,rfl,b1,b2⟩:=zF h3;simp only[fit]at h1 h2 h4;obtain⟨s1,rfl,c1⟩:=h1;obtain⟨s2,rfl,c2⟩:=h2;obtain⟨⟨s4,rfl⟩,c4⟩:=h4;exact⟨⟨s1,s2,xs,s4⟩,rfl,trivial⟩
def Fg {ds:List D}{n:Nat}(h:fj B4 ds n):∃x:bF,D.agg ds=x.D∧(x.when'.length≤n∧x.option.length≤n):=by
 simp only[B4,fj]at h;obtain⟨d1,_,m1,r1,rfl,a1,h1,d2,_,m2,r2,rfl,a2,h2,d3,_,m3,r3,rfl,a3,h3,rfl⟩:=h;obtain⟨xs,rfl,b1,b2⟩:=ui (ag:=true) (q:=bN.D) (G:=fun _=>True) (by simp[Cy]) (fun ds m hm h=>Gt h) h1;simp only[fit]at h2 h3;obtain⟨s2,rfl,c2⟩:=h2;obtain⟨s3,rfl,c3⟩:=h3;exact⟨⟨xs,s2,s3⟩,rfl,by dsimp only;omega,by dsimp only;omega⟩
def G9 {ds:List D}{n:Nat}(h:fj G8 ds n):∃x:iJ,D.agg ds=x.D∧True:=by
 simp only[G8,fj]at h;obtain⟨d1,_,m1,r1,rfl,a1,h1,d2,_,m2,r2,rfl,a2,h2,d3,_,m3,r3,rfl,a3,h3,rfl⟩:=h;simp only[fit]at h1 h2 h3;obtain⟨s1,rfl,c1⟩:=h1;obtain⟨s2,rfl,c2⟩:=h2;obtain⟨s3,rfl,c3⟩:=h3;exact⟨⟨s1,s2,s3⟩,rfl,trivial⟩
def ES {ds:List D}{n:Nat}(h:fj BK ds n):∃x:bz,D.agg ds=x.D∧True:=by
 simp only[BK,fj]at h;obtain⟨d1,_,m1,r1,rfl,a1,h1,d2,_,m2,r2,rfl,a2,h2,rfl⟩:=h;obtain⟨xs,rfl,b1,b2⟩:=zF h2;simp only[fit]at h1;obtain⟨s1,rfl,c1⟩:=h1;exact⟨⟨s1,xs⟩,rfl,trivial⟩
def HX {d:D}{n:Nat}(h:Ag (true,HV) d n):∃r:Rec,d=r.D∧(n≤1048576→xw r):=by
 obtain⟨ds,h,rfl⟩:=h;simp only[HV,fj]at h;obtain⟨d1,_,m1,r1,rfl,a1,h1,d2,_,m2,r2,rfl,a2,h2,d3,_,m3,r3,rfl,a3,h3,d4,_,m4,r4,rfl,a4,h4,d5,_,m5,r5,rfl,a5,h5,d6,_,m6,r6,rfl,a6,h6,d7,_,m7,r7,rfl,a7,h7,d8,_,m8,r8,rfl,a8,h8,d9,_,m9,r9,rfl,a9,h9,rfl⟩:=h;obtain⟨x7,rfl,_,b7⟩:=ui (ag:=true) (q:=bF.D) (G:=fun x=>x.when'.length≤n∧x.option.length≤n) (by simp[B4]) (fun ds m hm h=>by
  obtain⟨x,e,h1,h2⟩:=Fg h;exact⟨x,e,by omega,by omega⟩) h7
 obtain⟨x8,rfl,_,_⟩:=ui (ag:=true) (q:=iJ.D) (G:=fun _=>True) (by simp[G8]) (fun ds m hm h=>G9 h) h8;obtain⟨x9,rfl,_,_⟩:=ui (ag:=true) (q:=bz.D) (G:=fun _=>True) (by simp[BK]) (fun ds m hm h=>ES h) h9;simp only[fit]at h1 h2 h3 h4 h5 h6;obtain⟨s1,rfl,c1⟩:=h1;obtain⟨⟨s2,rfl,_⟩,c2⟩:=h2;obtain⟨⟨s3,rfl,_⟩,c3⟩:=h3;obtain⟨⟨s4,rfl,_⟩,c4⟩:=h4;obtain⟨s5,rfl,c5⟩:=h5;obtain⟨s6,rfl,c6⟩:=h6;exact⟨⟨s1,⟨s2,s3,s4,s5,s6⟩,x7,x8,x9⟩,rfl,fun hn=>⟨⟨by simp only[D5];omega,by simp only[D5];omega,by simp only[D5];omega⟩,fun y hy=>⟨by have:=(b7 y hy).1;simp only[D5];omega,by have:=(b7 y hy).2;simp only[D5];omega⟩⟩⟩
section
variable {H:Type} {enc:TypeId×Value→H} {P:Program} {ν:List (Nat×Nat)}
def AG [ct]{bT:List Nat}{Γ:Ctx}(hok:Ok P ν bT Γ){fid n k base:Nat}{f:Func}{s:ChangeSpec}{tb:TypeId}{shs:List (Bool×List Lf)}{r:Reach}
  {W:World} {args:Array Value} {ds gs:List (DataW H)} {before:List MemPlace}
  (hf:P.funcs[fid]? =some f) (hnm:(f.name== "runtime.NumGoroutine")=false) (hbody:f.body.isSome=true) (hn:du ν fid=some n)
  (hl:laidOutB P=true) (hts:(f.params.toList.all fun t=>P.readableRec t&&decide (t<P.types.size))=true)
  (hsh:lZ P k f.params.toList=some shs) (hres:f.resultTypes=#[tb]) (htb:P.underlying tb=some .bool)
  (hvars:s.vars=[]) (hfn:∀xs:List (DataW H),xs.length=f.params.toList.length→s.fn H xs={results:=[.lit (.bool true)],args:=xs})
  (hgd:ct.gd (uF W)) (hpre:∀es,sw shs es (C1 ds)→(∀i,i<es.length→∃v,RD ν (uF W) v (es.getD i .any))→Γ.pre n es∧Γ.val n es=.bool true)
  (hargs:∀(j:Nat) t v,f.params[j]? =some t→args[j]? =some v→Value.okWide P W r base t v)
  (hW:DataW.Whole enc P f.params.toList s.vars false W args.toList ds gs before):
  Calls P fid args W fun e W'=>∃v,e=.returned v∧s.post enc P f false true false false W args v W':=by
 have hW':=hW;obtain⟨p,q,hA,hV,rfl,hz,hnd⟩:=hW;rw[hvars]at hV;obtain⟨rfl,rfl⟩:=trodVars_none hV;obtain⟨es,h1,h2,h3,h4,h5⟩:=BA (ν:=ν) f.params.toList shs args.toList ds p hsh (fun j t v e1 e2=>hargs j t v (by simpa using e1) (by simpa using e2)) hA;have hsz:args.size=es.length:=by simpa using h2.symm
 obtain⟨hp1,hp2⟩:=hpre es h1 fun i hi=>⟨_,h5 i hi⟩
 have hd:=hok.pure fid n hn (uF W) args es hsz (fun i hi=>by
  have:=h5 i hi;have e:args.toList.getD i undef=args.getD i undef:=by
   have hi':i<args.size:=by omega
   simp[List.getD,Array.getD,hi']
  rwa [e]at this) h4 (fun b hb=>hb) hgd hp1
 rw[fu hf hnm hbody args]at hd;rcases hd with⟨v,x',hd|hd,_⟩|⟨f',args',hd,hc⟩
 ·cases hd
 ·cases hd.1
 ·cases hd;refine Calls.mono hc fun e W' he=>?_
  match e,he with
  | .returned v,he=>
   obtain⟨x',rfl,hp,hr⟩:=he;rw[hp2]at hr;obtain rfl:v=.bool true:=by cases hr;rfl
   have hb:Below W.heap.size W x'.w:=hp.grow.below;have hlt:=hW'.lt;have e1:s.fn H (ds++[])={results:=[.lit (.bool true)],args:=ds}:=by rw[List.append_nil];exact hfn ds h3
   refine⟨_,rfl,uY (pa:=p) (pv:=[]) hW' (fun b sp hd=>?_) (fun sp hsp=>?_) (fun sp hsp=>?_) rfl hb (ok_one hres rfl (okWide_bool_mk htb _))⟩
   ·rw[e1,hres];exact trodAll_mk1 (shut_bool htb _)
   ·rw[e1];exact oP hl hb _ _ _ _ hts (fun x hx=>by simpa using hlt x (by simpa using hx)) (fun x hx=>hsp x (by simpa using hx)) hA
   ·rw[e1,hvars];rfl
end
end Go.Abs
end
section
namespace Go.Proofs.YtpdlhpamcaocgaaGreatDoor
open Go.Abs Go.ChangeShapes Go.WideShapes Go.ChangeAt Go.RowKit Go.Proofs
def own:ownKnob Tryz.prog.godebug=none:=by kernel_rfl
def E7:laidOutB Tryz.prog=true:=by kernel_rfl
def p9 {P:Program}{W:World}{y:String×DataW Unit}{l:List (String×DataW Unit)}(h:laidMet P (y::l) W):laidMet P l W:=by
 obtain⟨ps,⟨g,t,cs,fuel,p,q,_,_,_,_,h1,rfl⟩,h2,h3⟩:=h;refine⟨q,h1,(List.nodup_append.1 h2).2.1,fun b off hm=>h3 b off (by simp[hm])⟩
def B0 {W:World}{b:Nat}{o:Nat}{v:Value}(h:W.cell? ⟨b,o,none⟩=some v):b<W.heap.size:=by
 unfold World.cell? at h;split at h
 ·rename_i h2;exact(Array.getElem?_eq_some_iff.mp h2).1
 ·cases h
def NN {W:World}(hL:laidMetH Tryz.prog Rows.recordChecksRow.laid W)(hsh:W.ShapedOpen Tryz.prog):ct.gd (uF W):=by
 have hL':laidMet Tryz.prog Rows.recordChecksRow.laid W:=hL;have htab:Lib.TabIs Tryz.prog W "internal/strconv.uint64pow10" .u64 Lib.pow10Tab:=
  Lib.tabIs_of_head (g:=3) (t:=244) (e:=49) (n:=20) (by kernel_rfl) (by kernel_rfl) (by kernel_rfl) (by kernel_rfl) (by kernel_rfl) (by kernel_rfl) (p9 (p9 hL'))
 obtain⟨m,hm⟩:∃m,W.cell? ⟨0,0,none⟩=some (.int .i64 m):=Tryz.laysM219.s1_3 W hsh
 have h3:=htab.cell rH 0 (by decide);exact⟨⟨B0 hm,m,hm⟩,B0 h3,htab⟩
def CP {H:Type}:(∀d:DataW H,dB d≤Rows.uptoBulk d)∧(∀ds:List (DataW H),C1 ds≤Rows.uptoBulkAll ds):=by
 have key:∀n,(∀d:DataW H,SizeOf.sizeOf d≤n→dB d≤Rows.uptoBulk d)∧(∀ds:List (DataW H),SizeOf.sizeOf ds≤n→C1 ds≤Rows.uptoBulkAll ds):=by
  intro n;induction n with
  |zero=>
   refine⟨fun d h=>?_,fun ds h=>?_⟩
   ·cases d<;>simp at h<;>omega
   ·cases ds<;>simp at h<;>omega
  |succ n ih=>
   refine⟨fun d h=>?_,fun ds h=>?_⟩
   ·cases d with
    |lit l=>cases l<;>simp[dB,Rows.uptoBulk]
    |slice es sp=>
     have:=ih.2 es (by simp at h;omega);simp only[dB,Rows.uptoBulk];omega
    |agg ps=>
     have:=ih.2 ps (by simp at h;omega);simp only[dB,Rows.uptoBulk];omega
    |_=>simp[dB,Rows.uptoBulk]
   ·cases ds with
    |nil=>simp[C1]
    |cons d r=>
     have h1:=ih.1 d (by simp at h;omega);have h2:=ih.2 r (by simp at h;omega);simp only[C1,Rows.uptoBulkAll];omega
 exact⟨fun d=>(key _).1 d (Nat.le_refl _),fun ds=>(key _).2 ds (Nat.le_refl _)⟩
mutual
def yr {H:Type}:DataW H→List Value
 | .lit (.int k n)=>[.int k n]
 | .agg ps=>EL ps
 |_=>[]
def EL {H:Type}:List (DataW H)→List Value
 |[]=>[]
 |d::r=>yr d++EL r
end
def put (d:DataW Unit):Obj→Obj
 | .cells _ t frozen=>.cells (yr d).toArray t frozen
 |o=>o
noncomputable def qG (os:Os):World:=
 {World.holding Tryz.prog os ⟨#[],#[],[]⟩with heap:=(((((World.holding Tryz.prog os ⟨#[],#[],[]⟩).heap.modify 1 (put Rows.laid_unicode_utf8_first)).modify 2 (put Rows.laid_unicode_utf8_acceptRanges)).modify 3 (put Rows.laid_internal_strconv_uint64pow10)).modify 4 (put Rows.laid_math_bits_deBruijn32tab)).modify 5 (put Rows.laid_math_bits_deBruijn64tab)}
def KP:Value:=.string ⟨#[]⟩
end Go.Proofs.YtpdlhpamcaocgaaGreatDoor
end
section
namespace Go.Proofs.YtpdlhpamcaocgaaGreatDoor
open Go.Abs Go.ChangeShapes Go.WideShapes Go.ChangeAt Go.RowKit Go.Proofs
def e7:Array Value:=#[.agg #[KP,.int .i64 0,.int .i64 0,.int .i64 0,KP,KP,.slice none 0 0,.slice none 0 0,.slice none 0 0]]
def mP (os:Os):laidMet Tryz.prog Rows.recordChecksRow.laid ((qG os).forCall (fun _ _=>0) ⟨#[],e7,[]⟩).memory:=
 laidMet_of_run' 8 (by kernel_rfl) (by kernel_rfl)
def oG:lZ Tryz.prog 20 Tryz.f8.params.toList=some [(true,HV)]:=by kernel_rfl
def qN {es:List D}{n:Nat}(hn:n≤1048576)(h:sw [(true,HV)] es n):(uQ aS).pre 11 es∧(uQ aS).val 11 es=.bool true:=by
 obtain⟨d1,_,n1,m1,rfl,a1,h1,rfl⟩:=h;obtain⟨v1,rfl,k1⟩:=HX h1;exact ctxp D11 fun T h=>h v1 (k1 (by omega))
def pA (os:Os){H:Type}(enc:TypeId×Value→H):∃places,DataW.whole enc Tryz.prog ((qG os).forCall (fun _ _=>0) ⟨#[],e7,[]⟩).memory Tryz.f8.params.toList Rows.recordChecksSpec.vars false e7.toList 8=
  some ([.agg [.lit (.string []),.agg [.lit (.int .i64 0),.lit (.int .i64 0),.lit (.int .i64 0),.lit (.string []),.lit (.string [])],.nil,.nil,.nil]],[],places):=
 ⟨[],by kernel_rfl⟩
set_option maxRecDepth 100000 in
theorem oD (os:Os)(started:os.Started)(H:Type)(enc:TypeId×Value→H)(F:Stop.Interp):
  ReturnsInHanded {} Tryz.checked os 8 .any ((Rows.OpenSpec.upto Rows.recordChecksSpec).preRow enc Tryz.prog Tryz.f8 Rows.recordChecksUptoRow.domain false Rows.recordChecksUptoRow.laid) (((Rows.OpenSpec.upto Rows.recordChecksSpec).at F).post enc Tryz.prog Tryz.f8 false true false false):=by
 obtain⟨places,hx⟩:=pA os enc;refine returnsInHanded_of_row (C:=Tryz.checked) (s:=Rows.OpenSpec.upto Rows.recordChecksSpec) own started (by kernel_rfl) Tryz.func8
  (witness_row_at (enc:=enc) (C:=Tryz.checked) false (qG os) e7 rfl (by kernel_rfl) (by kernel_rfl) (by kernel_rfl)
    (OpenSpec.preRow_of_cond 8 hx (by kernel_rfl) (fun k hk=>by cases hk;kernel_rfl) (by kernel_rfl) (mP os))) ?_
 intro W base args ds gs before rV hW _ hcond _ hL hsh _;have hk:Rows.uptoSmall H (ds++gs)=true:=hcond _ rfl;have hb:Rows.uptoBulkAll ds≤1048576:=by
  have h1:Rows.uptoBulkAll (ds++gs)≤1048576:=of_decide_eq_true hk;have h2:∀(l r:List (DataW H)),Rows.uptoBulkAll l≤Rows.uptoBulkAll (l++r):=fun l r=>by
   induction l with
   |nil=>simp[Rows.uptoBulkAll]
   |cons x l ih=>simp only[List.cons_append,Rows.uptoBulkAll];omega
  exact Nat.le_trans (h2 _ _) h1
 refine AG (n:=11) (k:=20) (s:=(Rows.OpenSpec.upto Rows.recordChecksSpec).at F) (tb:=4) okY Tryz.func8 (by kernel_rfl) (by kernel_rfl) (by kernel_rfl) E7 (by kernel_rfl) oG (by kernel_rfl) (by kernel_rfl) rfl (fun xs hx=>?_) (NN hL hsh)
  (fun es he _=>qN (Nat.le_trans (CP.2 ds) hb) he) rV hW
 match xs,hx with
 |[a],_=>rfl
def rW:Tryz.prog.inPlace 8=Rows.recordChecksUptoRow.inPlace:=by kernel_rfl
def rX:Tryz.prog.unfollowed 8=Rows.recordChecksUptoRow.unfollowed:=by kernel_rfl
def rY:Tryz.prog.recurses 8=Rows.recordChecksUptoRow.recurses:=by kernel_rfl
def rZ:Tryz.prog.varsNamed 8=Rows.recordChecksUptoRow.named:=by kernel_rfl
def oz:joinedFacts Tryz.prog 8 Tryz.f8 (Rows.OpenSpec.upto Rows.recordChecksSpec).bare Rows.recordChecksUptoRow=true:=by
 unfold joinedFacts;rw[rW,rX,rY,rZ]
 kernel_rfl
def mT:Rows.RecordChecksUptoSaid:=
 OpenClaim.holds_of_cond 8 Tryz.f8 rfl rfl rfl rfl rfl rfl rfl ⟨rfl,rfl,rfl,rfl,rfl⟩ rfl rfl rfl rfl rfl (by kernel_rfl) Tryz.func8 oz
  (of_decide_eq_true (by kernel_rfl)) (by unfold Func.isWrapper;first|(rw[if_pos (by decide+kernel)];kernel_rfl)|(rw[if_neg (by decide+kernel)];exact⟨rfl,rfl⟩))
  (fun os started H enc _ F=>by rw[OpenClaim.pre_eq_preRow];exact oD os started H enc F)
def pk (f:FuncId)(fn:Func)(hf:Tryz.pinned.checked.prog.funcNamed "linchpin/linchpinlaw12.RecordChecks" =some f)(hfn:Tryz.pinned.checked.prog.funcs[f]? =some fn):
  false=Tryz.pinned.checked.prog.looks []∧∀(j:Nat) t,fn.params[j]? =some t→Tryz.pinned.checked.prog.wantsStandIn t=false:=by
 obtain rfl:f=8:=Option.some.inj ((show Tryz.prog.funcNamed "linchpin/linchpinlaw12.RecordChecks" =some 8 by kernel_rfl).symm.trans hf) |>.symm
 obtain rfl:fn=Tryz.f8:=(Option.some.inj (Tryz.func8.symm.trans hfn)).symm;refine⟨by kernel_rfl,fun j t ht=>?_⟩;have hall:(Tryz.f8.params.toList.all fun t=>!Tryz.prog.wantsStandIn t)=true:=by kernel_rfl
 have:=List.all_eq_true.1 hall t (by simpa using Array.mem_of_getElem? ht);show Tryz.prog.wantsStandIn t=false;simpa using this
theorem cardUpto_recordChecks:Rows.RecordChecksUptoCardSaid:=
 Claim7.holds_tied_plain_at .later [] _ _ _ _ mT (fun _ h=>by cases h) (by kernel_rfl) (fun _ h=>by cases h) recordChecksUpto_row_tie rfl ⟨rfl,rfl⟩ (by kernel_rfl) rfl pk (by kernel_rfl)
end Go.Proofs.YtpdlhpamcaocgaaGreatDoor
end
#print axioms Go.Proofs.YtpdlhpamcaocgaaGreatDoor.cardUpto_recordChecks
