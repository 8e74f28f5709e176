/- linchpin: RecordReads answers true for every text, whatever its length; nothing is assumed of the argument. -/
import Derived.Carry
import Derived.ChangeArms
import Derived.ChangeSame
import Derived.Deep.DeepHandedRow
import Derived.Lib.LaidTab
import Derived.OpenShut
import Derived.RowKit
import Derived.Test.YtpdlhpamcaocgaaGreatDoorCards
import Derived.Test.YtpdlhpamcaocgaaGreatDoorTie
import Derived.WideKeyArgs
import Derived.WideShapes
import Derived.Test.YtpdlhpamcaocgaaGreatDoorP11
set_option linter.all false
set_option maxRecDepth 4000
section
namespace Go.Abs
open Go.Proofs
def Ho:Nat:=3
def tj:Tryz.prog.globalNamed "internal/strconv.uint64pow10" =some Ho:=by kernel_rfl
instance Qm:cz where
 tB:=133
 tU:=5
 gd x:=(x.I 0∧∃m,x.w.cell? ⟨0,0,none⟩=some (.int .i64 m))∧x.I Ho∧Lib.TabIs Tryz.prog x.w "internal/strconv.uint64pow10" .u64 Lib.pow10Tab
 le x x' hI hk h:=by
  obtain⟨⟨h1,m,h2⟩,h3,h4⟩:=h;refine⟨⟨hI _ h1,m,mL (hk _ h1) h2⟩,hI _ h3, ?_⟩;unfold Lib.TabIs World.var? at h4⊢;rw[tj]at h4⊢;simp only[Option.bind_some]at h4⊢;rw[hk _ h3];exact h4
def ph {fid:Nat}{x:X}{args:Array Value}{d:D}(hn:(Tryz.prog.funcs[fid]?).map (fun f=>f.name== "runtime.NumGoroutine" ||!f.body.isSome)=some false)
  (himm:∀b,x.I b→b<x.w.heap.size)
  (hc:Calls Tryz.prog fid args x.w fun e w'=>∃v,e=.returned v∧ff x.w w'∧∃I:Nat→Prop,(∀b,x.I b→I b)∧(∀b,I b→x.I b∨x.w.heap.size≤b∧b<w'.heap.size)∧RD tG ⟨w',I,x.β⟩ v d):
  iq Tryz.prog x (fun v x'=>lJ x x'∧RD tG x' v d) ((callFunc fid args).run Tryz.prog x.w):=by
 cases h:Tryz.prog.funcs[fid]? with
 |none=>rw[h]at hn;cases hn
 |some fn=>
  rw[h]at hn;have h2:(fn.name== "runtime.NumGoroutine" ||!fn.body.isSome)=false:=Option.some.inj hn;rw[Bool.or_eq_false_iff,Bool.not_eq_false']at h2;refine .inr ⟨fid,args,fZ h h2.1 h2.2 args x.w,Calls.mono hc fun e w' he=>?_⟩;obtain⟨v,rfl,hg,I,h3,h4,hr⟩:=he;refine⟨⟨w',I,x.β⟩,rfl,⟨hg,h3,fun b hb=>(h4 b hb).imp id And.left,fun b hb=>?_,rfl⟩,hr⟩;rcases h4 b hb with h5|h5
  ·exact Nat.lt_of_lt_of_le (himm b h5) hg.size
  ·exact h5.2
def B2 (w:World):∀n,ff w (w.drewN n)
 |n=>⟨rfl,rfl,rfl,Nat.le_refl _,fun _ _=>rfl⟩
def jD {fid:Nat}{x:X}{args:Array Value}{d:D}{v:Value}(hn:(Tryz.prog.funcs[fid]?).map (fun f=>f.name== "runtime.NumGoroutine" ||!f.body.isSome)=some false)
  (himm:∀b,x.I b→b<x.w.heap.size) (hc:Calls Tryz.prog fid args x.w fun e w'=>e=.returned v∧ff x.w w') (hr:∀x',RD tG x' v d):
  iq Tryz.prog x (fun v x'=>lJ x x'∧RD tG x' v d) ((callFunc fid args).run Tryz.prog x.w):=
 ph hn himm (Calls.mono hc fun e w' ⟨h1,h2⟩=>⟨v,h1,h2,x.I,fun _ h=>h,fun _ h=>.inl h,hr _⟩)
def eV {x:X}{v:Value}{s:ai}(h:RD tG x v (.str s)):v=.string ⟨⟨s⟩⟩∧s.length≤maxLen:=by
 cases h with
 |str s h=>exact⟨rfl,h⟩
def Dx {x:X}{v:Value}{k:IntKind}{n:Int}(h:RD tG x v (.int k n)):v=.int k n:=by
 cases h with
 |int k n=>rfl
def xe {args:Array Value}(h:args.size=2):args=#[args.getD 0 undef,args.getD 1 undef]:=by
 obtain⟨l⟩:=args
 match l,h with
 |[a,b],_=>rfl
def PQ {args:Array Value}(h:args.size=3):args=#[args.getD 0 undef,args.getD 1 undef,args.getD 2 undef]:=by
 obtain⟨l⟩:=args
 match l,h with
 |[a,b,c],_=>rfl
def Kn {args:Array Value}(h:args.size=1):args=#[args.getD 0 undef]:=by
 obtain⟨l⟩:=args
 match l,h with
 |[a],_=>rfl
def JL {x:X}{a b:Value}{d e:D}(h1:RD tG x a d)(h2:RD tG x b e):RD tG x (.tuple #[a,b]) (.tup [d,e]):=by
 refine .tup _ _ rfl fun i hi=>?_
 match i,hi with
 |0,_=>exact h1
 |1,_=>exact h2
def JM {x:X}{a b c:Value}{d e f:D}(h1:RD tG x a d)(h2:RD tG x b e)(h3:RD tG x c f):RD tG x (.tuple #[a,b,c]) (.tup [d,e,f]):=by
 refine .tup _ _ rfl fun i hi=>?_
 match i,hi with
 |0,_=>exact h1
 |1,_=>exact h2
 |2,_=>exact h3
def sD {x:X}(s:ai)(h:s.length≤4294967296):RD tG x (.string ⟨s.toArray⟩) (.str s):=.str s (by simp only[maxLen];omega)
def EA (s:ai)(b:UInt8):(fg s b).2.1.length≤s.length:=by
 unfold fg;split<;>simp
def E487:Ow 129 487:=by
 refine bw rfl ?_;rintro s b hp hok x args hl hargs hnl himm ⟨⟨_,m,hm⟩,_⟩;obtain⟨h0,hs⟩:=eV (hargs 0 (by simp));obtain⟨h1,_⟩:=eV (hargs 1 (by simp));rw[xe hl,h0,h1];refine jD (by kernel_rfl) himm (Calls.mono (Tryz.strings_Cut ⟨⟨s⟩⟩ ⟨⟨[b]⟩⟩ m x.w (by show s.length<_;omega) hm) fun e w' ⟨h1,n,h2⟩=>⟨h1,h2▸B2 _ n⟩) (fun x'=>?_);have hc:Lib.cut (⟨⟨s⟩⟩:ByteArray).data.toList (⟨⟨[b]⟩⟩:ByteArray).data.toList=fg s b:=LU s b;rw[hc];have:=(Gn s b).1;have:=EA s b;exact JM (sD _ (by omega)) (sD _ (by omega)) (.bool _)
def E254:Ow 128 254:=by
 refine bw rfl ?_;rintro s p hp hp2 hok x args hl hargs hnl himm _;obtain⟨h0,hs⟩:=eV (hargs 0 (by simp));obtain⟨h1,_⟩:=eV (hargs 1 (by simp));rw[xe hl,h0,h1];refine jD (by kernel_rfl) himm (Calls.mono (Tryz.strings_CutPrefix ⟨⟨s⟩⟩ ⟨⟨p⟩⟩ x.w) fun e w' ⟨h1,h2⟩=>⟨h1,h2▸ff.refl _⟩) (fun x'=>?_);have hc:(Lib.trimPrefix s p,Lib.hasPrefix s p)=dN s p:=EC s p;have:=BX s p;rw[←hc]at this⊢;have h9:(Lib.trimPrefix s p).length≤s.length:=this;exact JL (sD (Lib.trimPrefix s p) (by omega)) (.bool _)
def E336:Ow 165 336:=by
 refine bw rfl ?_;rintro n hp hok x args hl hargs hnl himm ⟨_,_,ht⟩;have h0:=Dx (hargs 0 (by simp));rw[Kn hl,h0];refine jD (by kernel_rfl) himm (Calls.mono (Tryz.strconv_Itoa n (by omega) (by omega) x.w ht) fun e w' ⟨h1,k,os,h2⟩=>⟨h1, ?_⟩) (fun x'=>?_)
 ·subst h2;refine⟨rfl,rfl,rfl,by simp[Sort.grow],fun b hb=>?_⟩;show(x.w.heap++os)[b]? =x.w.heap[b]?;rw[Array.getElem?_append,if_pos hb]
 ·rw[Jq hp.1];have:=dT 4 n.toNat (by omega) (by omega);exact sD _ (by omega)
def qH {fid:Nat}{x:X}{args:Array Value}{ts:List ByteArray}{cap:Nat}{ty:TypeId}{L:List ai}(hn:(Tryz.prog.funcs[fid]?).map (fun f=>f.name== "runtime.NumGoroutine" ||!f.body.isSome)=some false)(himm:∀b,x.I b→b<x.w.heap.size)
  (hL:ts.map (fun t=>t.data.toList)=L) (hcap:ts.length≤cap) (hm:cap≤maxLen) (hs:∀t∈L,t.length≤maxLen)
  (hc:Calls Tryz.prog fid args x.w fun e w'=>e=.returned (.slice (some ⟨x.w.heap.size,0,none⟩) ts.length cap)∧w'=x.w.alloc (.cells (Lib.cellsOf ts cap) ty)):
  iq Tryz.prog x (fun v x'=>lJ x x'∧RD tG x' v (.sl 1 (L.map D.str))) ((callFunc fid args).run Tryz.prog x.w):=by
 refine ph hn himm (Calls.mono hc fun e w' ⟨h1,h2⟩=>?_);subst h2;refine⟨_,h1,ff.alloc _ _,fun q=>x.I q∨q=x.w.heap.size,fun _ h=>.inl h,fun q hq=>hq.imp id fun h=>⟨by omega,by rw[h];show _<(x.w.heap.push _).size;simp⟩, ?_⟩;have hsl:L.length=ts.length:=by rw[←hL];simp
 have hget:∀i,i<ts.length→(L.map D.str).getD i .any=.str (ts.getD i default).data.toList:=fun i hi=>by
  rw[←hL];simp[hi]
 refine .sl _ x.w.heap.size 0 ts.length cap 1 _ (fun i _=>.string (ts.getD i default)) (by simp[hsl]) (.inr ⟨rfl,.inr rfl⟩) hcap hm (fun i hi=>by rw[hget i hi];rfl) (fun i hi=>by rw[hget i hi];rfl) (fun i j hi hj=>?_) (fun i j hi hj=>rfl) (fun i j hi hj=>?_)
 ·obtain rfl:j=0:=by omega
  have:=du x.w (.cells (Lib.cellsOf ts cap) ty);refine(cell_of_heap (c:=Lib.cellsOf ts cap) (T:=ty) (fr:=(0,0)) this (by rw[Lib.cellsOf_size hcap];omega)).trans ?_;have hi2:i<(ts.map Value.string).length:=by simpa using hi
  simp only[Lib.cellsOf];simp[hi,List.getElem?_append_left hi2]
 ·obtain rfl:j=0:=by omega
  rw[hget i hi];show RD tG _ (.string (ts.getD i default)) (.str (ts.getD i default).data.toList);generalize hq:ts.getD i default=q;have hmem:q.data.toList∈L:=by
   rw[←hL];refine List.mem_map.2 ⟨q, ?_,rfl⟩;rw[←hq];simp[hi]
  have:=hs _ hmem;obtain⟨⟨ql⟩⟩:=q;exact .str ql this
def yf {x:X}{s p:ai}{m:Int}{L:List ai}(hL:∀ts,ts=Lib.splitB ⟨⟨p⟩⟩ 0 (Lib.countB ⟨⟨s⟩⟩ ⟨⟨p⟩⟩) ⟨⟨s⟩⟩→ts.map (fun t=>t.data.toList)=L)(himm:∀b,x.I b→b<x.w.heap.size)(h1:1≤p.length)(hs:s.length≤1048576)(hl:L.length≤1048577)(hb:∀t∈L,t.length≤1048576)
  (hm:x.w.cell? ⟨0,0,none⟩=some (.int .i64 m)):iq Tryz.prog x (fun v x'=>lJ x x'∧RD tG x' v (.sl 1 (L.map D.str))) ((callFunc 28 #[.string ⟨⟨s⟩⟩,.string ⟨⟨p⟩⟩]).run Tryz.prog x.w):=by
 have h2:1≤(⟨⟨p⟩⟩:ByteArray).size:=h1;have hlen:=Lib.splitB_all ⟨⟨p⟩⟩ h2 0 _ (⟨⟨s⟩⟩:ByteArray) rfl;have hc:=Tryz.strings_Split ⟨⟨s⟩⟩ ⟨⟨p⟩⟩ m x.w (by show s.length<_;omega) hm h2;rw[←hlen,←Lib.cellsOf_full]at hc;have hL2:=hL _ rfl;have hle:(Lib.splitB ⟨⟨p⟩⟩ 0 (Lib.countB ⟨⟨s⟩⟩ ⟨⟨p⟩⟩) ⟨⟨s⟩⟩).length≤maxLen:=by
  have:L.length=(Lib.splitB ⟨⟨p⟩⟩ 0 (Lib.countB ⟨⟨s⟩⟩ ⟨⟨p⟩⟩) ⟨⟨s⟩⟩).length:=by rw[←hL2];simp
  simp only[maxLen];omega
 exact qH (by kernel_rfl) himm hL2 (Nat.le_refl _) hle (fun t ht=>by have:=hb t ht;simp only[maxLen];omega) hc
def sJ:∀(s cur:ai),(ay s cur).length≤s.length+1∧∀t∈ay s cur,t.length≤cur.length+s.length
 |[],cur=>by simp[ay]
 |[c],cur=>by simp[ay]
 |c::d::r,cur=>by
  unfold ay;split
  ·obtain⟨h1,h2⟩:=sJ r [];refine⟨by simp only[List.length_cons];omega,fun t ht=>?_⟩;rcases List.mem_cons.1 ht with rfl|ht
   ·omega
   ·have:=h2 t ht;simp only[List.length_cons,List.length_nil]at this⊢;omega
  ·obtain⟨h1,h2⟩:=sJ (d::r) (cur++[c]);refine⟨by simp only[List.length_cons]at h1⊢;omega,fun t ht=>?_⟩;have:=h2 t ht;simp only[List.length_append,List.length_cons,List.length_nil]at this⊢;omega
def E124:Ow 28 124:=by
 refine bw rfl ⟨?_, ?_⟩
 ·rintro s b hp hok x args hl hargs hnl himm ⟨⟨_,m,hm⟩,_⟩;obtain⟨h0,hs⟩:=eV (hargs 0 (by simp));obtain⟨h1,_⟩:=eV (hargs 1 (by simp));rw[xe hl,h0,h1];have:=cn s b.toNat;exact yf (fun ts e=>by rw[e];exact ya b _ (⟨⟨s⟩⟩:ByteArray) rfl) himm (Nat.le_refl 1) hp (by omega) (fun t ht=>Nat.le_trans (dj s b.toNat ht) hp) hm
 ·rintro s hp hok x args hl hargs hnl himm ⟨⟨_,m,hm⟩,_⟩;obtain⟨h0,hs⟩:=eV (hargs 0 (by simp));obtain⟨h1,_⟩:=eV (hargs 1 (by simp));rw[xe hl,h0,h1];obtain⟨q1,q2⟩:=sJ s [];exact yf (fun ts e=>by rw[e];exact Fu _ (⟨⟨s⟩⟩:ByteArray) rfl) himm (by decide) hp (by omega) (fun t ht=>by have:=q2 t ht;simp only[List.length_nil]at this;omega) hm
def I2 (n:Nat)(h:1≤n)(s:ai):(nS n (ah s 32)).length≤s.length+1∧∀t∈nS n (ah s 32),t.length≤s.length:=by
 have hl:=cn s 32;have hj:aM [32] (ah s 32)=s:=by
  have:=ll 32 s [];simpa[ah]using this
 unfold nS;split
 ·exact⟨hl,fun t ht=>dj s 32 ht⟩
 ·rename_i hn;refine⟨by simp only[List.length_append,List.length_take,List.length_cons,List.length_nil];omega,fun t ht=>?_⟩;rcases List.mem_append.1 ht with ht|ht
  ·exact dj s 32 (List.mem_of_mem_take ht)
  ·rw[List.mem_singleton.1 ht];have h2:(aM [32] (ah s 32)).length=s.length:=by rw[hj]
   have h3:∀(l:List ai) (k:Nat),(aM [32] (l.drop k)).length≤(aM [32] l).length:=by
    intro l;induction l with
    |nil=>simp
    |cons a l ih=>
     intro k;cases k with
     |zero=>simp
     |succ k=>
      refine Nat.le_trans (ih k) ?_;cases l with
      |nil=>simp[aM]
      |cons b l=>rw[fu [32] a (b::l) (by simp)];simp only[List.length_append];omega
   have:=h3 (ah s 32) (n-1);omega
def E245:Ow 112 245:=by
 refine bw rfl ?_;rintro s n hp hn hok x args hl hargs hnl himm ⟨⟨_,m,hm⟩,_⟩;obtain⟨h0,hs⟩:=eV (hargs 0 (by simp));obtain⟨h1,_⟩:=eV (hargs 1 (by simp));have h2:=Dx (hargs 2 (by simp));rw[PQ hl,h0,h1,h2];rcases hn with rfl|⟨hn1,hn2⟩
 ·have hc:=C1 Tryz.lays147 (by kernel_rfl) ⟨⟨s⟩⟩ ⟨⟨[32]⟩⟩ m x.w (by show s.length<_;omega) hm (Nat.le_refl 1);have hlen:=Lib.splitB_all ⟨⟨[32]⟩⟩ (Nat.le_refl 1) 0 _ (⟨⟨s⟩⟩:ByteArray) rfl;have hL:(Lib.splitB ⟨⟨[32]⟩⟩ 0 (Lib.countB ⟨⟨s⟩⟩ ⟨⟨[32]⟩⟩) ⟨⟨s⟩⟩).map (fun t=>t.data.toList)=jm (-1) s:=ya 32 _ (⟨⟨s⟩⟩:ByteArray) rfl;have hsl:=cn s 32;have hll:(jm (-1) s).length=(Lib.splitB ⟨⟨[32]⟩⟩ 0 (Lib.countB ⟨⟨s⟩⟩ ⟨⟨[32]⟩⟩) ⟨⟨s⟩⟩).length:=by rw[←hL];simp
  have hw:jm (-1) s=ah s 32:=rfl;rw[hw]at hll;exact qH (by kernel_rfl) himm hL (by omega) (by simp only[maxLen];omega) (fun t ht=>by have:=dj s 32 ht;simp only[maxLen];omega) hc
 ·obtain⟨k,rfl⟩:∃k:Nat,n=k:=⟨n.toNat,by omega⟩
  have hc:=Tryz.strings_SplitN ⟨⟨s⟩⟩ ⟨⟨[32]⟩⟩ k m x.w (by show s.length<_;omega) hm (Nat.le_refl 1) (by omega) (by omega);have hle:=Lib.splitB_length_le ⟨⟨[32]⟩⟩ 0 (min k ((⟨⟨s⟩⟩:ByteArray).size+1) -1) ⟨⟨s⟩⟩;have hsz:(⟨⟨s⟩⟩:ByteArray).size=s.length:=rfl;obtain⟨q1,q2⟩:=I2 k (by omega) s;refine qH (by kernel_rfl) himm (L:=jm (k:Int) s) ?_ (by omega) (by simp only[maxLen];omega) (fun t ht=>?_) hc
  ·rw[Lib.splitB_data];exact C9 k (by omega) s
  ·have:jm (k:Int) s=nS k (ah s 32):=by unfold jm;rw[if_neg (by omega),Int.toNat_natCast]
   rw[this]at ht;have:=q2 t ht;simp only[maxLen];omega
def E683:Ow 155 683:=by
 refine bw rfl ?_;rintro s b rfl hp hok x args hl hargs hnl himm _;obtain⟨h0,hs⟩:=eV (hargs 0 (by simp));obtain⟨h1,_⟩:=eV (hargs 1 (by simp));rw[xe hl,h0,h1];refine jD (by kernel_rfl) himm (Calls.mono (Tryz.strings_Trim_one ⟨⟨s⟩⟩ 32 (by decide) x.w (by show s.length≤_;omega)) fun e w' ⟨h1,h2⟩=>⟨h1, ?_⟩) (fun x'=>?_)
 ·rcases h2 with rfl|rfl
  ·exact ff.refl _
  ·exact⟨rfl,rfl,rfl,Nat.le_refl _,fun _ _=>rfl⟩
 ·have:Lib.trimB (⟨⟨s⟩⟩:ByteArray).data.toList 32=c9 s:=Gf s;rw[this];have hb:(c9 s).length≤s.length:=by
   unfold c9;have h1:=mJ s;have h2:=mJ (iT s).reverse;simp only[List.length_reverse]at h2⊢;omega
  exact sD _ (by omega)
def E469:Ow 65 469:=by
 refine bw rfl ?_;rintro l hp hok x args hl hargs hnl himm _;have h0:=hargs 0 (by simp);rw[Kn hl];simp only[List.getD_cons_zero]at h0;generalize args.getD 0 undef=v0 at h0⊢;cases h0 with
 |sl a b off len cap k es c hlen ha hcap hm hk hn hc h1 h=>
  simp only[List.length_map]at hlen;subst hlen;have fin:∀(e:Ending) (w':World) v' ty,e=.returned v'→w'.ownsRow x.w.heap.size ty 1 v' l.length (l.map fun t=>Value.string ⟨⟨t⟩⟩)→Go.RowKit.Below x.w.heap.size x.w w'→
    ∃v,e=.returned v∧ff x.w w'∧∃I:Nat→Prop,(∀b,x.I b→I b)∧(∀b,I b→x.I b∨x.w.heap.size≤b∧b<w'.heap.size)∧RD tG ⟨w',I,x.β⟩ v (.sl 1 (l.map D.str)):=by
   rintro e w' v' ty rfl ⟨hxl,ho⟩ hB;refine⟨v',rfl,⟨hB.os,hB.tape,hB.output,hB.size,hB.block⟩, ?_⟩;rcases ho with⟨rfl,hl0⟩|⟨g,cap',cur,rfl,hg,hh,hle,hml,hcs,htk⟩
   ·have:l=[]:=List.length_eq_zero_iff.1 hl0;subst this;exact⟨x.I,fun _ h=>h,fun _ h=>.inl h,.sl none 0 0 0 0 1 [] (fun _ _=>.nilIface) rfl (.inl rfl) (Nat.le_refl _) (by simp[maxLen]) (fun i hi=>by omega) (fun i hi=>by omega) (fun i j hi=>by omega) (fun i j hi=>by omega) (fun i j hi=>by omega)⟩
   ·have hgl:g<w'.heap.size:=(Array.getElem?_eq_some_iff.1 hh).1;have hgt:∀i (hi:i<l.length),((l.map D.str).getD i .any)=.str l[i]:=fun i hi=>by simp[hi]
    refine⟨fun q=>x.I q∨q=g,fun _ h=>.inl h,fun q hq=>hq.imp id fun h=>by subst h;exact⟨hg,hgl⟩, ?_⟩;refine .sl _ g 0 l.length cap' 1 _ (fun i _=>.string ⟨⟨l.getD i []⟩⟩) (by simp) (.inr ⟨rfl,.inr rfl⟩) hle hml (fun i hi=>by rw[hgt i hi];rfl) (fun i hi=>by rw[hgt i hi];rfl) (fun i j hi hj=>?_) (fun _ _ _ _=>rfl) (fun i j hi hj=>?_)
    ·obtain rfl:j=0:=by omega
     refine(cell_of_heap (c:=cur) (T:=ty) (fr:=(0,0)) hh (by omega)).trans ?_;have e1:cur.toList[i]? =some (.string ⟨⟨l.getD i []⟩⟩):=by
      have e2:(cur.toList.take (l.length*1))[i]? =(l.map fun t=>Value.string ⟨⟨t⟩⟩)[i]? :=by rw[htk]
      rw[List.getElem?_take,if_pos (by omega)]at e2;rw[e2];simp[hi]
     have e3:cur[i]? =some (.string ⟨⟨l.getD i []⟩⟩):=by rw[←e1];simp
     rw[show(0+i*1+0:Nat)=i by omega,Array.getD_eq_getD_getElem?,e3];rfl
    ·obtain rfl:j=0:=by omega
     rw[hgt i hi];have q2:=h i 0 hi (by omega);rw[hgt i hi]at q2;obtain⟨_,q3⟩:=eV q2;have:l.getD i []=l[i]:=by simp[hi]
     rw[this];exact .str _ q3
  rcases ha with he|⟨rfl,hI⟩
  ·have hnil:l=[]:=by simpa using he
   subst hnil;cases a with
   |none=>exact jD (by kernel_rfl) himm (Calls.mono (Tryz.slices_Clone_string_nil 0 cap x.w) fun e w' ⟨h1,h2⟩=>⟨h1,h2▸ff.refl _⟩) (fun x'=>.sl none 0 0 0 0 1 [] (fun _ _=>.nilIface) rfl (.inl rfl) (Nat.le_refl _) (by simp[maxLen]) (fun i hi=>by omega) (fun i hi=>by omega) (fun i j hi=>by omega) (fun i j hi=>by omega) (fun i j hi=>by omega))
   |some a=>exact ph (by kernel_rfl) himm (Calls.mono (Tryz.slices_Clone_string_zero a cap x.w) fun e w' ⟨v',h1,h2,_,h3⟩=>fin e w' v' _ h1 h2 h3)
  ·have hcell:∀i,(hi:i<l.length)→x.w.cell? ⟨b,off+i,none⟩=some (.string ⟨⟨l[i]⟩⟩):=fun i hi=>by
    have q1:=hc i 0 hi (by omega);have q2:=h i 0 hi (by omega);have e:((l.map D.str).getD i .any).cells.getD 0 .any=.str l[i]:=by simp[hi,D.cells]
    rw[e]at q2;rw[(eV q2).1]at q1;simpa using q1
   refine ph (by kernel_rfl) himm (Calls.mono (Tryz.slices_Clone_string b off l.length cap (l.map fun t=>⟨⟨t⟩⟩) x.w (by simp) (by omega) (fun j hj=>?_)) fun e w' ⟨v',h1,h2,_,h3⟩=>?_)
   ·rw[List.length_map]at hj;rw[hcell j hj];simp[hj]
   ·have:((l.map fun t=>(⟨⟨t⟩⟩:ByteArray)).take l.length).map Value.string=l.map fun t=>Value.string ⟨⟨t⟩⟩:=by
     rw[List.take_of_length_le (by simp),List.map_map];rfl
    rw[this]at h2;exact fin e w' v' _ h1 h2 h3
def E489:Ow 131 489:=lr rfl fun ds st K h hok=>Jf rfl rfl Tryz.Dl Tryz.LP (Go.Proofs.enters_of Tryz.Dl.f166 (by kernel_rfl) rfl) ds st K h hok
def E664:Ow 132 664:=lr rfl fun ds st K h hok=>Je rfl rfl Tryz.Dm Tryz.LP (Go.Proofs.enters_of Tryz.Dm.f167 (by kernel_rfl) rfl) ds st K h hok
def E452:Ow 96 452:=lr rfl fun ds st K h hok=>Jd rfl rfl Tryz.Dn Tryz.LP (Go.Proofs.enters_of Tryz.Dn.f169 (by kernel_rfl) rfl) ds st K h hok
def uW (sep:ai)(B:Nat):∀l:List ai,(∀t∈l,t.length≤B)→(aM sep l).length≤l.length*(B+sep.length)
 |[],_=>by simp[aM]
 |[t],h=>by have:=h t (.head _);simp only[aM,List.length_cons,List.length_nil];omega
 |t::u::r,h=>by
  have h1:=h t (.head _);have h2:=uW sep B (u::r) fun x hx=>h x (.tail _ hx)
  rw[fu _ _ _ (by simp)];rw[List.length_cons,Nat.succ_mul];simp only[List.length_append];omega
def E242:Ow 95 242:=by
 refine bw rfl ?_;rintro l sep hp1 hp2 hp3 hok x args hl hargs hnl himm _;have h0:=hargs 0 (by simp);obtain⟨h1,_⟩:=eV (hargs 1 (by simp));rw[xe hl,h1];have hj:=uW sep 2097200 l hp3;have hj2:=Nat.mul_le_mul_right (2097200+sep.length) hp1;have hj3:1048600*(2097200+sep.length)≤140737488355328:=by
  have:=Nat.mul_le_mul_left 1048600 (show 2097200+sep.length≤2097204 by omega);omega
 have hjm:(aM sep l).length≤140737488355328:=by omega
 simp only[List.getD_cons_zero]at h0;generalize args.getD 0 undef=v0 at h0⊢;cases h0 with
 |sl a b off len cap k es c hlen ha hcap hm hk hn hc h1 h=>
  simp only[List.length_map]at hlen;subst hlen;rcases ha with he|⟨rfl,hI⟩
  ·have hnil:l=[]:=by simpa using he
   subst hnil;refine jD (by kernel_rfl) himm (Calls.mono (Tryz.strings_Join_none a cap ⟨⟨sep⟩⟩ x.w) fun e w' ⟨h1,h2⟩=>⟨h1,h2▸ff.refl _⟩) (fun x'=>?_);exact sD [] (by simp)
  ·have hcell:∀i,(hi:i<l.length)→x.w.cell? ⟨b,off+i,none⟩=some (.string ⟨⟨l[i]⟩⟩):=fun i hi=>by
    have q1:=hc i 0 hi (by omega);have q2:=h i 0 hi (by omega);have e:((l.map D.str).getD i .any).cells.getD 0 .any=.str l[i]:=by simp[hi,D.cells]
    rw[e]at q2;rw[(eV q2).1]at q1;simpa using q1
   have e2:(l.map fun t=>(⟨⟨t⟩⟩:ByteArray)).map (fun t=>t.data.toList)=l:=by rw[List.map_map];exact List.map_id l
   have hjl:Lib.join ((l.map fun t=>(⟨⟨t⟩⟩:ByteArray)).map (fun t=>t.data.toList)) (⟨⟨sep⟩⟩:ByteArray).data.toList=aM sep l:=by rw[e2];exact(Aq sep l).symm
   have key:=Tryz.strings_Join b off cap (l.map fun t=>⟨⟨t⟩⟩) ⟨⟨sep⟩⟩ x.w (fun j y hy=>by
    rw[List.getElem?_map,Option.map_eq_some_iff]at hy;obtain⟨t,ht,rfl⟩:=hy;obtain⟨hlt,rfl⟩:=List.getElem?_eq_some_iff.1 ht;exact hcell j hlt) (himm b hI) (by simp;omega) (by simpa using hcap) (by rw[hjl];exact hjm)
   rw[hjl,List.length_map]at key;refine jD (by kernel_rfl) himm (Calls.mono key fun e w' ⟨h1,h2⟩=>⟨h1,h2.os,h2.tape,h2.output,h2.size,h2.block⟩) (fun x'=>?_);exact .str _ (by simp only[maxLen];omega)
end Go.Abs
end
section
namespace Go.Abs
section
variable [cz]
def H12:Ow 3 12:=bw rfl fun s=>aR ba ck rfl (w12 (aK _ _ _ _) G69 G76 G77 G78 s)
def H77:Ow 14 77:=bw rfl fun s=>aR ba ck rfl (w77 (aK _ _ _ _) G71 G223 G224 s)
def H212:Ow 45 212:=bw rfl fun s=>aR ba ck rfl (w212 (aK _ _ _ _) G445 G446 s)
def H218:Ow 52 218:=bw rfl fun r hp0=>aR ba ck rfl (w218 (aK _ _ _ _) G457 G458 G459 G460 r hp0)
def H226:Ow 33 226:=bw rfl fun a b=>aR ba ck rfl (w226 (aK _ _ _ _) a b)
def H440:Ow 82 440:=bw rfl fun n=>aR ba ck rfl (w440 (aK _ _ _ _) n)
def H446:Ow 89 446:=bw rfl fun m=>aR ba ck rfl (w446 (aK _ _ _ _) O7 O8 m)
def H453:Ow 97 453:=bw rfl fun c=>aR ba ck rfl (w453 (aK _ _ _ _) c)
def H459:Ow 103 459:=bw rfl fun l hp0=>aR ba ck rfl (w459 (aK _ _ _ _) Ej G671 l hp0)
def H467:Ow 63 467:=Mk rfl OC fun r hp0=>An 2 ba ck rfl rfl (w467 (aK _ _ _ _) IH O1 O2 r hp0)
def H474:Ow 70 474:=bw rfl fun l n=>aR ba ck rfl (w474 (aK _ _ _ _) l n)
def H495:Ow 123 495:=bw rfl fun s hp0=>aR ba ck rfl (w495 (aK _ _ _ _) IH G682 G683 Lz G685 Pk s hp0)
def H658:Ow 116 658:=bw rfl fun s=>aR ba ck rfl (w658 (aK _ _ _ _) s)
def H665:Ow 133 665:=bw rfl fun n hp0=>aR ba ck rfl (w665 (aK _ _ _ _) G336 n hp0)
def H671:Ow 142 671:=bw rfl fun l of hp0=>aR ba ck rfl (w671 (aK _ _ _ _) Pb Pg G816 l of hp0)
def H677:Ow 120 677:=lr rfl fun c hp0 nx m K hK=>Fz rfl rfl ba ck rfl rfl hK (w677 (aK _ _ _ _) c Pe hp0)
def H741:Ow 151 741:=bw rfl fun s b=>aR ba ck rfl (w741 (aK _ _ _ _) s b)
def H810:Ow 160 810:=bw rfl fun l=>aR ba ck rfl (w810 (aK _ _ _ _) Ei l)
def H816:Ow 173 816:=bw rfl fun l nm=>aR ba ck rfl (w816 (aK _ _ _ _) G955 l nm)
def H897:Ow 204 897:=bw rfl fun s hp0=>aR ba ck rfl (w897 (aK _ _ _ _) wG O4 OG OH OI s hp0)
def H947:Ow 191 947:=lr rfl fun w nd b nx lp ln m K h1 h2 h3 h4 hK=>sA oH (by decide) rfl (fun _=>rfl) ba ck rfl h1 h2 h3 h4 hK (w947 (aK _ _ _ _) w nd b LC)
def H953:Ow 201 953:=bw rfl fun m=>aR ba ck rfl (w953 (aK _ _ _ _) Pr OK m)
def Pu:Ow 225 1007:=bw rfl fun s=>aR ba ck rfl (Qt (aK _ _ _ _) s)
def PA:Ow 222 1035:=bw rfl fun l hp0=>aR ba ck rfl (Qz (aK _ _ _ _) ON l hp0)
def PH:Ow 236 1100:=bw rfl fun s b hp0=>aR ba ck rfl (QF (aK _ _ _ _) s b hp0)
end
end Go.Abs
end
section
namespace Go.Abs
section
variable [cz]
def H69:Ow 12 69:=bw rfl (aR ba ck rfl (w69 (aK _ _ _ _) G72 G76))
def H78:Ow 15 78:=bw rfl fun a b=>aR ba ck rfl (w78 (aK _ _ _ _) G225 OU a b)
def H213:Ow 46 213:=bw rfl fun l hp0=>aR ba ck rfl (w213 (aK _ _ _ _) Ei G447 OY G449 l hp0)
def H219:Ow 34 219:=bw rfl fun r hp0=>aR ba ck rfl (w219 (aK _ _ _ _) IL G316 G461 G462 r hp0)
def H246:Ow 113 246:=bw rfl fun l x=>aR ba ck rfl (w246 (aK _ _ _ _) G494 l x)
def H441:Ow 83 441:=bw rfl fun s hp0=>aR ba ck rfl (w441 (aK _ _ _ _) OX IM Lx G659 s hp0)
def H447:Ow 90 447:=bw rfl fun l=>aR ba ck rfl (w447 (aK _ _ _ _) l)
def H454:Ow 98 454:=bw rfl fun c=>aR ba ck rfl (w454 (aK _ _ _ _) c)
def H460:Ow 104 460:=bw rfl fun r of hp0=>aR ba ck rfl (w460 (aK _ _ _ _) Pb G673 G674 r of hp0)
def H468:Ow 64 468:=Mk rfl OD fun r hp0=>An 2 ba ck rfl rfl (w468 (aK _ _ _ _) O1 r hp0)
def H475:Ow 71 475:=bw rfl fun s n hp0 hp1=>aR ba ck rfl (w475 (aK _ _ _ _) IL wG s n hp0 hp1)
def H496:Ow 124 496:=bw rfl fun r hp0=>aR ba ck rfl (w496 (aK _ _ _ _) Lz r hp0)
def H659:Ow 122 659:=bw rfl fun t=>aR ba ck rfl (w659 (aK _ _ _ _) t)
def H666:Ow 135 666:=bw rfl fun t=>aR ba ck rfl (w666 (aK _ _ _ _) t)
def H672:Ow 143 672:=bw rfl fun s hp0=>aR ba ck rfl (w672 (aK _ _ _ _) IJ Ej wG s hp0)
def H678:Ow 121 678:=bw rfl fun op=>aR ba ck rfl (w678 (aK _ _ _ _) op)
def H742:Ow 152 742:=bw rfl fun l=>aR ba ck rfl (w742 (aK _ _ _ _) Ly l)
def H811:Ow 161 811:=bw rfl fun l i hp0=>aR ba ck rfl (w811 (aK _ _ _ _) Pm l i (Ki (Nat.le_refl _)) (Pn (Nat.le_refl _)) hp0)
def H819:Ow 180 819:=bw rfl fun s hp0=>aR ba ck rfl (w819 (aK _ _ _ _) IM Lx LA Ph G956 Ps s hp0)
def H898:Ow 205 898:=bw rfl fun s=>aR ba ck rfl (w898 (aK _ _ _ _) s)
def H948:Ow 192 948:=lr rfl fun x w nd b hp0 nx lp ln m K h1 h2 h3 h4 hK=>eE oH (by decide) rfl (fun _=>rfl) ba ck rfl h1 h2 h3 h4 hK (w948 (aK _ _ _ _) x w nd b hp0)
def H954:Ow 202 954:=bw rfl fun l hp0=>aR ba ck rfl (w954 (aK _ _ _ _) OL l hp0)
def Pv:Ow 226 1008:=bw rfl fun l=>aR ba ck rfl (Qu (aK _ _ _ _) Ly l)
def PC:Ow 223 1036:=bw rfl fun l i hp0=>aR ba ck rfl (QA (aK _ _ _ _) Kg OO l i (Ls (Nat.le_refl _)) hp0)
def PI:Ow 245 1126:=lr rfl fun W w nd hp0 hp1 nx lp ln m K h1 h2 h3 h4 hK=>eE (qz _) (by decide) rfl (fun _=>rfl) ba ck rfl h1 h2 h3 h4 hK (QG (aK _ _ _ _) W w nd Ej De Kg OQ hp0 hp1)
end
end Go.Abs
end
section
namespace Go.Abs
section
variable [cz]
def H70:Ow 20 70:=bw rfl fun r hp0=>aR ba ck rfl (w70 (aK _ _ _ _) Lt II G210 OR OS G213 G214 OT r hp0)
def H208:Ow 41 208:=bw rfl fun s=>aR ba ck rfl (w208 (aK _ _ _ _) s)
def H214:Ow 47 214:=bw rfl fun r s hp0=>aR ba ck rfl (w214 (aK _ _ _ _) OY r s hp0)
def H222:Ow 29 222:=Mk rfl OA fun r hp0=>An 2 ba ck rfl rfl (w222 (aK _ _ _ _) G466 G467 O2 G469 Pl r hp0)
def H249:Ow 77 249:=bw rfl fun l x hp0=>aR ba ck rfl (w249 (aK _ _ _ _) l x hp0)
def H442:Ow 84 442:=bw rfl fun s hp0=>aR ba ck rfl (w442 (aK _ _ _ _) IM s hp0)
def H448:Ow 91 448:=bw rfl fun s hp0=>aR ba ck rfl (w448 (aK _ _ _ _) Lt G254 Ei G487 s hp0)
def H455:Ow 99 455:=bw rfl fun n=>aR ba ck rfl (w455 (aK _ _ _ _) n)
def H461:Ow 75 461:=bw rfl fun w hp0=>aR ba ck rfl (w461 (aK _ _ _ _) IL w hp0)
def H470:Ow 66 470:=bw rfl fun s b hp0=>aR ba ck rfl (w470 (aK _ _ _ _) s b hp0)
def H476:Ow 72 476:=lr rfl fun x l hp0 hp1 nx j0 j1 j2 j3 j4 m K h1 h2 h3 hK=>oL (by simp only[aT,D.a7,Bool.and_true]) ba ck rfl h1 h2 h3 hK (w476 (aK _ _ _ _) l x.r.name x.r.v x.r.needs x.r.bars x.r.feats x.st O3 hp0 hp1)
def H533:Ow 115 533:=bw rfl fun s b hp0=>aR ba ck rfl (w533 (aK _ _ _ _) s b hp0)
def H660:Ow 125 660:=lr rfl fun w nd hp0 nx lp ln m K h1 h2 h3 h4 hK=>eE oH (by decide) rfl (fun _=>rfl) ba ck rfl h1 h2 h3 h4 hK (w660 (aK _ _ _ _) w nd (Kh (Nat.le_of_eq (lU (c:=fun _=>4) h1).symm)) hp0)
def H667:Ow 136 667:=bw rfl fun s=>aR ba ck rfl (w667 (aK _ _ _ _) Lv s)
def H673:Ow 144 673:=bw rfl fun r x=>aR ba ck rfl (w673 (aK _ _ _ _) r x)
def H682:Ow 154 682:=bw rfl fun s hp0=>aR ba ck rfl (w682 (aK _ _ _ _) G819 s hp0)
def H744:Ow 170 744:=bw rfl fun s hp0=>aR ba ck rfl (w744 (aK _ _ _ _) wG G896 G897 G898 Pj LB s hp0)
def H812:Ow 167 812:=bw rfl fun l al=>aR ba ck rfl (w812 (aK _ _ _ _) Ej Pg l al)
def H827:Ow 188 827:=bw rfl fun c hp0=>aR ba ck rfl (w827 (aK _ _ _ _) II c hp0)
def H899:Ow 206 899:=bw rfl fun r hp0=>aR ba ck rfl (w899 (aK _ _ _ _) Pc r hp0)
def H949:Ow 193 949:=lr rfl fun w nd hp0 nx lp ln m K h1 h2 h3 h4 hK=>eE oH (by decide) rfl (fun _=>rfl) ba ck rfl h1 h2 h3 h4 hK (w949 (aK _ _ _ _) w nd (O6 (Nat.le_of_eq (lU (c:=fun _=>0) h1).symm)) IP IQ (Kj (Nat.le_of_eq (lU (c:=fun _=>0) h1).symm)) OJ hp0)
def H955:Ow 209 955:=bw rfl fun l nm=>aR ba ck rfl (w955 (aK _ _ _ _) l nm)
def Pw:Ow 217 1031:=lr rfl fun k w nd b hp0 nx lp ln m K h1 h2 h3 h4 hK=>eE oH (by decide) rfl (fun _=>rfl) ba ck rfl h1 h2 h3 h4 hK (Qv (aK _ _ _ _) k w nd b Ei IP IQ Pm hp0)
def PD:Ow 237 1079:=bw rfl fun s w=>aR ba ck rfl (QB (aK _ _ _ _) s w)
def PJ:Ow 248 1141:=lr rfl fun W w nd b hp0 nx lp ln m K h1 h2 h3 h4 hK=>sA (qz _) (by decide) rfl (fun _=>rfl) ba ck rfl h1 h2 h3 h4 hK (QH (aK _ _ _ _) W w nd b hp0)
end
end Go.Abs
end
section
namespace Go.Abs
section
variable [cz]
def H71:Ow 23 71:=bw rfl fun r hp0=>aR ba ck rfl (w71 (aK _ _ _ _) IJ IK G218 G219 r hp0)
def H209:Ow 42 209:=bw rfl fun v hp0=>aR ba ck rfl (w209 (aK _ _ _ _) G440 G441 OX v hp0)
def H215:Ow 48 215:=bw rfl fun r hp0=>aR ba ck rfl (w215 (aK _ _ _ _) Lu G450 OZ G452 r hp0)
def H223:Ow 30 223:=bw rfl fun s hp0=>aR ba ck rfl (w223 (aK _ _ _ _) wG s hp0)
def H316:Ow 74 316:=bw rfl fun v hp0=>aR ba ck rfl (w316 (aK _ _ _ _) IK G554 v hp0)
def H443:Ow 85 443:=bw rfl fun r w al hp0=>aR ba ck rfl (w443 (aK _ _ _ _) OR Ei r w al hp0)
def H449:Ow 92 449:=bw rfl fun l nm=>aR ba ck rfl (w449 (aK _ _ _ _) G663 l nm)
def H456:Ow 100 456:=bw rfl fun s p hp0=>aR ba ck rfl (w456 (aK _ _ _ _) wG G666 Ly G668 s p hp0)
def H462:Ow 76 462:=bw rfl fun s hp0=>aR ba ck rfl (w462 (aK _ _ _ _) s hp0)
def H471:Ow 67 471:=lr rfl fun x l hp0 nx j0 j1 j2 j3 j4 m K h1 h2 h3 hK=>oL (by simp only[aT,D.a7,Bool.and_true]) ba ck rfl h1 h2 h3 hK (w471 (aK _ _ _ _) l x.r.name x.r.v x.r.needs x.r.bars x.r.feats x.st G568 hp0)
def H477:Ow 73 477:=bw rfl fun a b=>aR ba ck rfl (w477 (aK _ _ _ _) OU a b)
def H554:Ow 118 554:=bw rfl fun v hp0=>aR ba ck rfl (w554 (aK _ _ _ _) Pe v hp0)
def H661:Ow 126 661:=bw rfl fun m=>aR ba ck rfl (w661 (aK _ _ _ _) O8 G810 m)
def H668:Ow 137 668:=bw rfl fun t=>aR ba ck rfl (w668 (aK _ _ _ _) t)
def H674:Ow 145 674:=bw rfl fun r x=>aR ba ck rfl (w674 (aK _ _ _ _) r x)
def H684:Ow 156 684:=bw rfl fun r hp0=>aR ba ck rfl (w684 (aK _ _ _ _) Lu LA Ph r hp0)
def H745:Ow 171 745:=bw rfl fun r hp0=>aR ba ck rfl (w745 (aK _ _ _ _) LB G901 r hp0)
def H813:Ow 168 813:=bw rfl fun s=>aR ba ck rfl (w813 (aK _ _ _ _) wG G952 Pq s)
def H828:Ow 189 828:=bw rfl fun c hp0=>aR ba ck rfl (w828 (aK _ _ _ _) O9 LA Ps c hp0)
def H900:Ow 207 900:=bw rfl fun r hp0=>aR ba ck rfl (w900 (aK _ _ _ _) O4 r hp0)
def H950:Ow 194 950:=bw rfl (aR ba ck rfl (w950 (aK _ _ _ _)))
def H956:Ow 212 956:=bw rfl fun s w=>aR ba ck rfl (w956 (aK _ _ _ _) s w)
def Px:Ow 219 1032:=lr rfl fun W w nd hp0 hp1 nx lp ln m K h1 h2 h3 h4 hK=>eE (qz _) (by decide) rfl (fun _=>rfl) ba ck rfl h1 h2 h3 h4 hK (Qw (aK _ _ _ _) W w nd F4 De (F5 (Nat.le_of_eq (qt (c:=fun _=>1) hp0.1 h1).symm)) hp0 hp1)
def PE:Ow 233 1097:=lr rfl fun W w nd hp0 hp1 nx lp ln m K h1 h2 h3 h4 hK=>eE (qz _) (by decide) rfl (fun _=>rfl) ba ck rfl h1 h2 h3 h4 hK (QC (aK _ _ _ _) W w nd (Po (Nat.le_of_eq (qt (c:=fun _=>0) hp0.1 h1).symm)) F4 De (F5 (Nat.le_of_eq (qt (c:=fun _=>0) hp0.1 h1).symm)) OP hp0 hp1)
end
end Go.Abs
end
section
namespace Go.Abs
section
variable [cz]
def H72:Ow 21 72:=bw rfl fun r hp0=>aR ba ck rfl (w72 (aK _ _ _ _) G70 OT r hp0)
def H210:Ow 43 210:=bw rfl fun r n hp0=>aR ba ck rfl (w210 (aK _ _ _ _) OS Ei G443 r n hp0)
def H216:Ow 50 216:=bw rfl fun s=>aR ba ck rfl (w216 (aK _ _ _ _) O0 Lv s)
def H224:Ow 31 224:=lr rfl fun x t hp0 hp1 hp2 nx j0 j1 j2 j3 j4 m K h1 h2 h3 hK=>oL rfl ba ck rfl h1 h2 h3 hK (w224 (aK _ _ _ _) t x.r.name x.r.v x.r.needs x.r.bars x.r.feats x.st wG G471 G472 G473 O3 Lw G476 hp2 hp0.1 hp0.2.1 hp0.2.2 (by unfold fX.sz at hp1;omega))
def H349:Ow 86 349:=bw rfl fun s=>aR ba ck rfl (w349 (aK _ _ _ _) s)
def H444:Ow 87 444:=bw rfl fun s hp0=>aR ba ck rfl (w444 (aK _ _ _ _) G495 G496 s hp0)
def H450:Ow 93 450:=lr rfl fun ws t l lw nx m K h1 h2 h3 h4 hp2 hK=>EP ba ck rfl h1 h2 h3 h4 hK fun m0 hp0 hp1=>w450 (aK _ _ _ _) ws t m0 Lu G489 G664 hp0 hp1 hp2
def H457:Ow 101 457:=bw rfl fun r n hp0=>aR ba ck rfl (w457 (aK _ _ _ _) Ej G669 Pa r n hp0)
def H465:Ow 61 465:=P3 rfl OB (fun r w n op hp0 hp1 hp2=>An 2 ba ck rfl rfl (QI (aK _ _ _ _) OV OW r w n op hp0 hp1 hp2)) fun r w n op l nx m K hp0 hp1 hp2 hl hK=>Jc (An 2 ba ck rfl rfl (QI (aK _ _ _ _) OV OW r w n op hp0 hp1 hp2)) hl rfl rfl hK
def H472:Ow 68 472:=lr rfl fun x t hp0 hp1 hp2 hp3 nx j0 j1 j2 j3 j4 m K h1 h2 h3 hK=>oL rfl ba ck rfl h1 h2 h3 hK (w472 (aK _ _ _ _) t x.r.name x.r.v x.r.needs x.r.bars x.r.feats x.st wG Lw hp0 hp1 hp2 hp3)
def H482:Ow 80 482:=bw rfl fun c hp0=>aR ba ck rfl (w482 (aK _ _ _ _) IL Pc G677 Pd c hp0)
def H568:Ow 117 568:=bw rfl fun s hp0=>aR ba ck rfl (w568 (aK _ _ _ _) IK wG G741 G742 s hp0)
def H662:Ow 127 662:=bw rfl fun l hp0=>aR ba ck rfl (w662 (aK _ _ _ _) G811 l hp0)
def H669:Ow 138 669:=bw rfl fun r w al hp0=>aR ba ck rfl (w669 (aK _ _ _ _) IJ O5 G812 r w al hp0)
def H675:Ow 114 675:=bw rfl fun s b=>aR ba ck rfl (w675 (aK _ _ _ _) s b)
def H685:Ow 157 685:=bw rfl fun r hp0=>aR ba ck rfl (w685 (aK _ _ _ _) Lz r hp0)
def H808:Ow 158 808:=lr rfl ⟨fun w nd hp0 nx lp ln m K h1 h2 h3 h4 hK=>eE oH (by decide) rfl (fun _=>rfl) ba ck rfl h1 h2 h3 h4 hK (QJ (aK _ _ _ _) iV 809 n5 4 w nd LC IP IQ hp0 uA (by decide) (by decide) (fun w2 nd2 hl hp=>Pf (Nat.le_refl _) w2 nd2 hp (by rw[lU h1];exact(show 6*w2.length+2<6*w.length+3 by omega)))),fun w nd hp0 nx lp ln m K h1 h2 h3 h4 hK=>eE oH (by decide) rfl (fun _=>rfl) ba ck rfl h1 h2 h3 h4 hK (QJ (aK _ _ _ _) ir 949 jz 3 w nd LC IP IQ hp0 r9 (by decide) (by decide) (fun w2 nd2 hl hp=>Kj (Nat.le_refl _) w2 nd2 hp (by rw[lU h1];exact(show 6*w2.length+0<6*w.length+1 by omega))))⟩
def H814:Ow 169 814:=bw rfl fun m=>aR ba ck rfl (w814 (aK _ _ _ _) Pq Pr m)
def H882:Ow 179 882:=bw rfl fun n hp0=>aR ba ck rfl (w882 (aK _ _ _ _) n hp0)
def H901:Ow 208 901:=bw rfl fun r hp0=>aR ba ck rfl (w901 (aK _ _ _ _) Pj LB r hp0)
def H951:Ow 195 951:=bw rfl fun l i b hp0=>aR ba ck rfl (w951 (aK _ _ _ _) l i b (Ki (Nat.le_refl _)) hp0)
def H957:Ow 213 957:=bw rfl fun op=>aR ba ck rfl (w957 (aK _ _ _ _) op)
def Py:Ow 220 1033:=lr rfl fun s W w nd b hp0 nx lp ln m K h1 h2 h3 h4 hK=>sA (qz _) (by decide) rfl (fun _=>rfl) ba ck rfl h1 h2 h3 h4 hK (Qx (aK _ _ _ _) s W w nd b hp0)
def PF:Ow 234 1098:=bw rfl fun n=>aR ba ck rfl (QD (aK _ _ _ _) Ej n)
end
end Go.Abs
end
section
namespace Go.Abs
section
variable [cz]
def H76:Ow 13 76:=bw rfl fun s=>aR ba ck rfl (w76 (aK _ _ _ _) G70 IH G222 s)
def H211:Ow 44 211:=bw rfl fun r name rng hp0=>aR ba ck rfl (w211 (aK _ _ _ _) Lt G444 r name rng hp0)
def H217:Ow 51 217:=bw rfl fun v hp0=>aR ba ck rfl (w217 (aK _ _ _ _) G455 G456 v hp0)
def H225:Ow 32 225:=bw rfl fun a b=>aR ba ck rfl (w225 (aK _ _ _ _) G477 a b)
def H357:Ow 140 357:=bw rfl fun s=>aR ba ck rfl (w357 (aK _ _ _ _) O0 Lv s)
def H445:Ow 88 445:=bw rfl fun s=>aR ba ck rfl (w445 (aK _ _ _ _) IH G660 O7 s)
def H451:Ow 94 451:=bw rfl fun v hp0=>aR ba ck rfl (w451 (aK _ _ _ _) II O9 v hp0)
def H458:Ow 102 458:=bw rfl fun r b hp0=>aR ba ck rfl (w458 (aK _ _ _ _) IJ O5 Pa r b hp0)
def H466:Ow 62 466:=bw rfl fun s hp0=>aR ba ck rfl (w466 (aK _ _ _ _) II OZ IM Lx G675 s hp0)
def H473:Ow 69 473:=lr rfl fun x t hp0 hp1 hp2 hp3 hp4 nx j0 j1 j2 j3 j4 m K h1 h2 h3 hK=>oL rfl ba ck rfl h1 h2 h3 hK (w473 (aK _ _ _ _) t x.r.name x.r.v x.r.needs x.r.bars x.r.feats x.st Lw hp0 hp1 hp2 hp3 hp4)
def H494:Ow 150 494:=bw rfl fun l x=>aR ba ck rfl (w494 (aK _ _ _ _) l x)
def H572:Ow 141 572:=bw rfl fun s hp0=>aR ba ck rfl (w572 (aK _ _ _ _) G744 G745 s hp0)
def H663:Ow 130 663:=bw rfl fun l nm=>aR ba ck rfl (w663 (aK _ _ _ _) l nm)
def H670:Ow 139 670:=bw rfl fun s=>aR ba ck rfl (w670 (aK _ _ _ _) G813 G814 s)
def H676:Ow 119 676:=bw rfl fun c hp0=>aR ba ck rfl (w676 (aK _ _ _ _) IK c hp0)
def H734:Ow 153 734:=bw rfl fun n hp0=>aR ba ck rfl (w734 (aK _ _ _ _) G882 n hp0)
def H809:Ow 159 809:=lr rfl fun w nd hp0 nx lp ln m K h1 h2 h3 h4 hK=>eE oH (by decide) rfl (fun _=>rfl) ba ck rfl h1 h2 h3 h4 hK (w809 (aK _ _ _ _) w nd (Kh (Nat.le_of_eq (lU (c:=fun _=>2) h1).symm)) hp0)
def H815:Ow 172 815:=bw rfl fun l=>aR ba ck rfl (w815 (aK _ _ _ _) l)
def H896:Ow 203 896:=bw rfl fun s hp0=>aR ba ck rfl (w896 (aK _ _ _ _) s hp0)
def H946:Ow 190 946:=bw rfl fun w es b=>aR ba ck rfl (w946 (aK _ _ _ _) w es b)
def H952:Ow 200 952:=lr rfl fun W w nd hp0 hp1 nx lp ln m K h1 h2 h3 h4 hK=>eE (qz _) (by decide) rfl (fun _=>rfl) ba ck rfl h1 h2 h3 h4 hK (w952 (aK _ _ _ _) W w nd (Lr (Nat.le_of_eq (qt (c:=fun _=>2) hp0.1 h1).symm)) F4 De hp0 hp1)
def Pt:Ow 224 1006:=bw rfl fun s=>aR ba ck rfl (Qs (aK _ _ _ _) Pd OM s)
def Pz:Ow 221 1034:=lr rfl fun x W w nd b hp0 nx lp ln m K h1 h2 h3 h4 hK=>eE (qz _) (by decide) rfl (fun _=>rfl) ba ck rfl h1 h2 h3 h4 hK (Qy (aK _ _ _ _) x W w nd b hp0)
def PG:Ow 235 1099:=bw rfl fun k hp0=>aR ba ck rfl (QE (aK _ _ _ _) k hp0)
end
end Go.Abs
end
namespace Go.Abs
def Iv:List (Nat×Nat)→Prop
 |[]=>True
 |p::r=>Ow p.1 p.2∧Iv r
def Iv.mem:∀{l:List (Nat×Nat)},Iv l→∀p∈l,Ow p.1 p.2
 |p::r,h,q,hq=>by
  rcases List.mem_cons.1 hq with rfl|hq
  ·exact h.1
  ·exact h.2.mem q hq
def allY:Iv tG:=⟨H12,H69,H76,H77,H78,H70,H72,H71,E124,H222,H223,H224,H225,H226,H219,H208,H209,H210,H211,H212,H213,H214,H215,H216,H217,H218,H465,H466,H467,H468,E469,H470,H471,H472,H473,H474,H475,H476,H477,H316,H461,H462,H249,H482,H440,H441,H442,H443,H349,H444,H445,H446,H447,H448,H449,H450,H451,E242,E452,H453,H454,H455,H456,H457,H458,H459,H460,E245,H246,H675,H533,H658,H568,H554,H676,H677,H678,H659,H495,H496,H660,H661,H662,E254,E487,H663,E489,E664,H665,H666,H667,H668,H669,H670,H357,H572,H671,H672,H673,H674,H494,H741,H742,H734,H682,E683,H684,H685,H808,H809,H810,H811,E336,H812,H813,H814,H744,H745,H815,H816,H882,H819,H827,H828,H946,H947,H948,H949,H950,H951,H952,H953,H954,H896,H897,H898,H899,H900,H901,H955,H956,H957,Pw,Px,Py,Pz,PA,PC,Pt,Pu,Pv,PE,PF,PG,PH,PD,PI,PJ,trivial⟩
def rV:∀{l:List (Nat×Nat)}{a b:Nat},dW l a=some b→(a,b)∈l
 |[],_,_,h=>by simp[dW]at h
 |(c,d)::r,a,b,h=>by
  simp only[dW]at h;split at h
  ·rename_i e;simp_all
  ·exact .tail _ (rV h)
def okY:Ok (Go.Proofs.Tryz.prog) tG Gv (wL aU):=okA (fun fid n hn=>(show ∀p∈tG,p.2<1000000 by decide+kernel) _ (rV hn)) (fun t ht=>by simp[Gv]at ht;show t=133;omega) fun fid n hn=>allY.mem (fid,n) (rV hn)
end Go.Abs
section
namespace Go.Abs
open Go.RowKit Go.ChangeShapes
def ff.below {w w':World}(h:ff w w'):Below w.heap.size w w':=⟨h.os,h.tape,h.output,h.size,h.old⟩
section
variable {H:Type} {enc:TypeId×Value→H} {P:Program}
def wU {f:Func}{s:ChangeSpec}{apart fresh handsOn again:Bool}{W W':World}{args:Array Value}{v:Value}{ds gs:List (DataW H)}{before pa pv:List MemPlace}
  (hW:DataW.Whole enc P f.params.toList s.vars apart W args.toList ds gs before)
  (hres:∀(b:Nat) (sp:Nat→Bool) (hd:Bool),DataW.TrodAll enc P W' b sp hd f.resultTypes.toList (v.resultList f.resultTypes.size) (s.fn H (ds++gs)).results [])
  (hargs:∀sp:Nat→Bool,(∀p∈before,sp p.block=true)→DataW.TrodAll enc P W' 0 sp true f.params.toList args.toList (s.fn H (ds++gs)).args pa)
  (hvars:∀sp:Nat→Bool,(∀p∈before,sp p.block=true)→DataW.TrodVars enc P W' sp s.vars (s.fn H (ds++gs)).vars pv)
  (hps:before=pa++pv) (hb:Below W.heap.size W W')
  (hok:∀(j:Nat) (t:TypeId) (r:Value),f.resultTypes[j]? =some t→(v.resultList f.resultTypes.size)[j]? =some r→Value.okWide P W' .any 0 t r):
  s.post enc P f apart fresh handsOn again W args v W':=by
 have hold:∀p∈before,(fun b=>decide (b<W.heap.size)) p.block=true:=fun p hp=>by simpa using hW.lt p hp
 refine⟨ds,gs,before,[],pa,pv,hW,hres _ _ _,hargs _ hold,hvars _ hold,World.keptBut_mono (fun p hp=>⟨hp, ?_⟩) (hb.frame (· ∈before)),fun _=>?_⟩
 ·rw[hps,List.mem_append]at hp;exact Or.inr hp
 ·have hlt:=hW.lt;obtain⟨_,_,_,_,_,hz,hn⟩:=hW;refine⟨hok,_,_,([]++pa)++pv,⟨[]++pa,pv,trodAll_append (hargs _ (fun _ _=>rfl)) (hres _ _ _),hvars _ (fun _ _=>rfl),rfl, ?_, ?_⟩, ?_⟩
  ·intro b off hp;have hmem:MemPlace.cell b off∈before:=by rw[hps];simpa using hp
   have hq:=hz b off hmem;have hl:b<W.heap.size:=hlt _ hmem;simpa only[World.frozen?,hb.block b hl]using hq
  ·intro ha;have:=hn ha;rw[hps]at this;simpa using this
  ·intro p hp _;rw[hps];simpa using hp
end
end Go.Abs
end
section
namespace Go.Abs
inductive Lf
 |str
 |int (k:IntKind)
 |bool
 |sl (ag:Bool) (k:Nat) (cs:List Lf)
mutual
/--a value that fits a leaf,of so much bulk -/
def fit:Lf→D→Nat→Prop
 | .str,d,n=>∃s,d=.str s∧s.length+1≤n
 | .int k,d,n=>(∃m,d=.int k m∧(Lit.int k m).wf=true)∧1≤n
 | .bool,d,n=>(∃b,d=.bool b)∧1≤n
 | .sl ag k cs,d,n=>∃es,d=.sl k es∧∃ns:List Nat,ns.length=es.length∧ns.sum+1≤n∧∀i,i<es.length→∃ds,es.getD i .any=(bif ag then .agg ds else ds.getD 0 .any)∧kG cs ds (ns.getD i 0)
def kG:List Lf→List D→Nat→Prop
 |[],ds,_=>ds=[]
 |c::r,ds,n=>∃d ds' n1 n2,ds=d::ds'∧n1+n2≤n∧fit c d n1∧kG r ds' n2
end
def q9:∀{cs:List Lf}{ds:List D}{n:Nat},kG cs ds n→ds.length=cs.length
 |[],ds,n,h=>by simp only[kG]at h;simp[h]
 |c::r,ds,n,h=>by
  simp only[kG]at h;obtain⟨d,ds',n1,n2,rfl,_,_,h2⟩:=h;simp[q9 h2]
def sY:∀{a b:List Lf}{da db:List D}{n m:Nat},kG a da n→kG b db m→kG (a++b) (da++db) (n+m)
 |[],b,da,db,n,m,h1,h2=>by
  simp only[kG]at h1;subst h1;simp only[List.nil_append];exact fitL_mono h2 (by omega)
 |c::r,b,da,db,n,m,h1,h2=>by
  simp only[kG]at h1;obtain⟨d,ds',n1,n2,rfl,h3,h4,h5⟩:=h1;simp only[List.cons_append,kG];exact⟨d,ds'++db,n1,n2+m,rfl,by omega,h4,sY h5 h2⟩
where
 fitL_mono:∀{cs:List Lf} {ds:List D} {n m:Nat},kG cs ds n→n≤m→kG cs ds m
 |[],_,_,_,h,_=>h
 |c::r,ds,n,m,h,hm=>by
  simp only[kG]at h⊢;obtain⟨d,ds',n1,n2,rfl,h3,h4,h5⟩:=h;exact⟨d,ds',n1,n2,rfl,by omega,h4,h5⟩
def Dt {c:Lf}{d:D}{n:Nat}(h:fit c d n):d.cells=[d]∧d.a7=true:=by
 cases c<;>simp only[fit]at h
 ·obtain⟨s,rfl,_⟩:=h;exact⟨rfl,rfl⟩
 ·obtain⟨⟨m,rfl,_⟩,_⟩:=h;exact⟨rfl,rfl⟩
 ·obtain⟨⟨b,rfl⟩,_⟩:=h;exact⟨rfl,rfl⟩
 ·obtain⟨es,rfl,_⟩:=h;exact⟨rfl,rfl⟩
def qj:∀{cs:List Lf}{ds:List D}{n:Nat},kG cs ds n→aT ds=true
 |[],ds,n,h=>by simp only[kG]at h;subst h;rfl
 |c::r,ds,n,h=>by
  simp only[kG]at h;obtain⟨d,ds',n1,n2,rfl,_,h1,h2⟩:=h;simp only[aT,(Dt h1).2,qj h2,Bool.and_self]
def Em (b o m j:Nat):((⟨b,o,none⟩:Addr).add m).add j=⟨b,o+m+j,none⟩:=by
 unfold Addr.add;split<;>split<;>simp_all
section
variable {H:Type}
mutual
def dB:DataW H→Nat
 | .lit (.string s)=>s.length+1
 | .slice es _=>I3 es+1
 | .agg ps=>I3 ps
 |_=>1
def I3:List (DataW H)→Nat
 |[]=>0
 |d::r=>dB d+I3 r
end
def Dp:∀ds:List (DataW H),I3 ds=(ds.map dB).sum
 |[]=>rfl
 |d::r=>by simp only[I3,List.map_cons,List.sum_cons,Dp r]
end
def se (P:Program)(t:TypeId):Bool:=match P.underlying t with
 |some (.struct _)=>true
 |some (.array _ _)=>true
 |_=>false
def MX (P:Program)(F:TypeId→Option (List Lf)):List Field→Nat→Option (List Lf)
 |[],_=>some []
 |f::r,off=>match F f.type,MX P F r (off+P.cellsOf f.type)with
  |some a,some b=>if f.offset=off∧a.length=P.cellsOf f.type then some (a++b)else none
  |_,_=>none
def arrF (e:TypeId)(off:Nat):Field:={(default:Field)with type:=e,offset:=off}
def wR (P:Program):Nat→TypeId→Option (List Lf)
 |0,_=>none
 |n+1,t=>match P.underlying t with
  |some .bool=>some [.bool]
  |some (.int k)=>some [.int k]
  |some .string=>some [.str]
  |some (.slice e)=>match wR P n e with
   |some cs=>if cs.length=P.cellsOf e∧0<cs.length∧(se P e=true∨cs.length=1)then some [.sl (se P e) (P.cellsOf e) cs]else none
   |none=>none
  |some (.struct fs)=>match MX P (wR P n) fs.toList 0 with
   |some a=>if a.length=P.cellsOf t then some a else none
   |none=>none
  |some (.array k e)=>match MX P (wR P n) ((List.range k).map fun i=>arrF e (i*P.cellsOf e)) 0 with
   |some a=>if a.length=P.cellsOf t then some a else none
   |none=>none
  |_=>none
section
variable {H:Type} {enc:TypeId×Value→H} {P:Program} {ν:List (Nat×Nat)}
def tO (W:World):X:=⟨W,fun b=>b<W.heap.size,fun _=>none⟩
def Rds (ν:List (Nat×Nat))(W:World)(cs:List Value)(a:List Lf)(n:Nat):Prop:=
 cs.length=a.length∧∃ds:List D,kG a ds n∧∀i,i<cs.length→RD ν (tO W) (cs.getD i undef) (ds.getD i .any)∧(cs.getD i undef).oneCell'=true
def Rds.one {W:World}{v:Value}{c:Lf}{d:D}{n:Nat}(hf:fit c d n)(hr:RD ν (tO W) v d)(h1:v.oneCell'=true):Rds ν W [v] [c] n:=
 ⟨rfl,[d],by simp only[kG];exact⟨d,[],n,0,rfl,by omega,hf,rfl⟩,fun i hi=>by
  obtain rfl:i=0:=by simpa using hi
  exact⟨hr,h1⟩⟩
def Cc {W:World}{F:TypeId→Option (List Lf)}{m:Nat}{sp:Nat→Bool}{held:Bool}{cs:List Value}
  (hF:∀t a cs (x:DataW H×List MemPlace),F t=some a→DataW.trod enc P W 0 sp held m t cs=some x→Rds ν W cs a (dB x.1)):
  ∀(r:List Field) (off:Nat) (a:List Lf) (xs:List (DataW H×List MemPlace)),MX P F r off=some a→xs.length=r.length→
   (∀(i:Nat) (f:Field),r[i]? =some f→DataW.trod enc P W 0 sp held m f.type ((cs.drop f.offset).take (P.cellsOf f.type))=xs[i]?)→off+a.length≤cs.length→
   ∃ds:List D,kG a ds (I3 (xs.map (·.1)))∧∀i,i<a.length→RD ν (tO W) (cs.getD (off+i) undef) (ds.getD i .any)∧(cs.getD (off+i) undef).oneCell'=true
 |[],off,a,xs,h,hl,_,_=>by
  simp only[MX,Option.some.injEq]at h;subst h;exact⟨[],rfl,fun i hi=>by simp at hi⟩
 |f::r,off,a,xs,h,hl,hx,hoff=>by
  simp only[MX]at h;split at h
  ·rename_i a1 a2 h1 h2;split at h
   ·rename_i hc;simp only[Option.some.injEq]at h;subst h
    match xs,hl with
    |x::xs,hl=>
    have q:=hx 0 f rfl;simp only[List.getElem?_cons_zero]at q;obtain⟨l1,ds1,g1,g2⟩:=hF _ _ _ _ h1 q;simp only[List.length_append]at hoff;have hlen:((cs.drop f.offset).take (P.cellsOf f.type)).length=a1.length:=by rw[←l1]
    obtain⟨ds2,g3,g4⟩:=Cc hF r _ a2 xs h2 (by simpa using hl) (fun i f' hf=>by simpa using hx (i+1) f' (by simpa using hf)) (by omega);have hd1:=q9 g1;refine⟨ds1++ds2,by simp only[List.map_cons,I3];exact sY g1 g3,fun i hi=>?_⟩;simp only[List.length_append]at hi;by_cases hi1:i<a1.length
    ·have:=g2 i (by omega);have e1:(ds1++ds2).getD i .any=ds1.getD i .any:=by simp[List.getD,List.getElem?_append,hd1,hi1]
     have e2:((cs.drop f.offset).take (P.cellsOf f.type)).getD i undef=cs.getD (off+i) undef:=by
      simp only[List.getD,List.getElem?_take,List.getElem?_drop,hc.1];rw[if_pos (by omega)]
     rw[e1,←e2];exact this
    ·have:=g4 (i-a1.length) (by omega);have e1:(ds1++ds2).getD i .any=ds2.getD (i-a1.length) .any:=by simp[List.getD,List.getElem?_append,hd1,hi1]
     rw[e1,show off+i=off+P.cellsOf f.type+(i-a1.length)by omega];exact this
   ·cases h
  ·cases h
def ui {W:World}{sp:Nat→Bool}{held:Bool}:∀(fl:Nat)(t:TypeId)(a:List Lf)(fuel:Nat)(cs:List Value)(x:DataW H×List MemPlace),
  wR P fl t=some a→DataW.trod enc P W 0 sp held fuel t cs=some x→Rds ν W cs a (dB x.1)
 |0,t,a,fuel,cs,x,h,_=>by simp[wR]at h
 |n+1,t,a,fuel,cs,x,h,hx=>by
  unfold wR at h;split at h
  ·rename_i ht;simp only[Option.some.injEq]at h;subst h;obtain⟨b,rfl,rfl⟩:=DataW.trod_bool ht hx;exact .one (by simp only[fit];exact⟨⟨b,rfl⟩,by simp[dB]⟩) (.bool b) rfl
  ·rename_i k ht;simp only[Option.some.injEq]at h;subst h;obtain⟨m,rfl,rfl,hw⟩:=DataW.trod_int ht hx;exact .one (by simp only[fit];exact⟨⟨m,rfl,hw⟩,by simp[dB]⟩) (.int k m) rfl
  ·rename_i ht;simp only[Option.some.injEq]at h;subst h;obtain⟨s,rfl,rfl,hs⟩:=DataW.trod_string ht hx;obtain⟨⟨l⟩⟩:=s;exact .one (d:=.str l) (by simp only[fit];exact⟨l,rfl,by simp[dB]⟩) (.str l hs) rfl
  ·rename_i e ht;split at h
   ·rename_i ce hce;split at h
    ·rename_i hk;obtain⟨hk1,hk0,hkag⟩:=hk;simp only[Option.some.injEq]at h;subst h;rcases DataW.trod_slice ht hx with⟨rfl,rfl⟩|⟨ad,len,cap,elems,rest,m,rfl,rfl,rfl,hb,hlc,hcm,hel,hat,_,_⟩
     ·refine .one (d:=.sl (P.cellsOf e) []) (by simp only[fit];exact⟨[],rfl,[],rfl,by simp[dB],fun i hi=>by simp at hi⟩) ?_ rfl;exact .sl none 0 0 0 0 _ [] (fun _ _=>undef) rfl (.inl rfl) (Nat.le_refl _) (Nat.zero_le _) (fun i hi=>by omega) (fun i hi=>by omega) (fun i j hi=>by omega) (fun i j hi=>by omega) (fun i j hi=>by omega)
     ·have key:∀i,i<len→∃(csi:List Value) (dsi:List D),(csi.length=ce.length∧∀j,j<P.cellsOf e→W.cell? ((ad.add (i*P.cellsOf e)).add j)=csi[j]?)∧kG ce dsi (dB (elems.getD i (.nil,[])).1)∧
        ∀j,j<csi.length→RD ν (tO W) (csi.getD j undef) (dsi.getD j .any)∧(csi.getD j undef).oneCell'=true:=by
       intro i hi;have q:=hat i hi;have hgi:elems[i]? =some (elems.getD i (.nil,[])):=by simp[List.getD,show i<elems.length by omega]
       rw[hgi,Option.bind_eq_some_iff]at q;obtain⟨csi,q1,q2⟩:=q;obtain⟨l1,dsi,g1,g2⟩:=ui n e ce m csi _ hce q2;obtain⟨_,_,q3⟩:=World.cells?_some q1;exact⟨csi,dsi,⟨l1,q3⟩,g1,g2⟩
      let f:Nat→List Value×List D:=fun i=>if h:i<len then((key i h).choose,(key i h).choose_spec.choose)else([],[])
      have hf:∀i,i<len→((f i).1.length=ce.length∧∀j,j<P.cellsOf e→W.cell? ((ad.add (i*P.cellsOf e)).add j)=(f i).1[j]?)∧kG ce (f i).2 (dB (elems.getD i (.nil,[])).1)∧
        ∀j,j<(f i).1.length→RD ν (tO W) ((f i).1.getD j undef) ((f i).2.getD j .any)∧((f i).1.getD j undef).oneCell'=true:=by
       intro i hi;have e1:f i=((key i hi).choose,(key i hi).choose_spec.choose):=by simp[f,hi]
       rw[e1];exact(key i hi).choose_spec.choose_spec
      let es:List D:=(List.range len).map fun i=>bif se P e then .agg (f i).2 else(f i).2.getD 0 .any
      have hes:∀i,i<len→es.getD i .any=bif se P e then .agg (f i).2 else(f i).2.getD 0 .any:=fun i hi=>by simp[es,hi]
      have hcells:∀i,i<len→(es.getD i .any).cells=(f i).2:=fun i hi=>by
       rw[hes i hi];cases hag:se P e with
       |true=>rfl
       |false=>
        have h1:ce.length=1:=by
         rcases hkag with h|h
         ·rw[hag]at h;cases h
         ·exact h
        match ce,h1 with
        |[c],_=>
        have g:=(hf i hi).2.1;simp only[kG]at g;obtain⟨d,ds',n1,n2,e1,_,g1,rfl⟩:=g;rw[e1];exact(Dt g1).1
      have hnl:∀i,i<len→(es.getD i .any).a7=true:=fun i hi=>by
       have g:=qj (hf i hi).2.1;rw[hes i hi];cases hag:se P e with
       |true=>exact g
       |false=>
        show((f i).2.getD 0 .any).a7=true
        match hq:(f i).2 with
        |[]=>rfl
        |d::r=>
         rw[hq]at g;simp only[aT,Bool.and_eq_true]at g;exact g.1
      refine .one (d:=.sl (P.cellsOf e) es) ?_ ?_ rfl
      ·simp only[fit];refine⟨es,rfl,elems.map fun q=>dB q.1,by simp[es,hel],by simp only[dB,Dp,List.map_map];exact Nat.le_refl _,fun i hi=>?_⟩;have hi':i<len:=by simpa[es]using hi
       refine⟨(f i).2,hes i hi', ?_⟩;have:=(hf i hi').2.1;have e2:(elems.map fun q=>dB q.1).getD i 0=dB (elems.getD i (.nil,[])).1:=by simp[List.getD,show i<elems.length by omega]
       rw[e2];exact this
      ·have hfl:∀i,i<len→(f i).1.length=P.cellsOf e:=fun i hi=>by rw[(hf i hi).1.1,hk1]
       have hdl:∀i,i<len→(f i).2.length=P.cellsOf e:=fun i hi=>by rw[q9 (hf i hi).2.1,hk1]
       have hcell:∀i j,i<len→j<P.cellsOf e→W.cell? ((ad.add (i*P.cellsOf e)).add j)=some ((f i).1.getD j undef):=fun i j hi hj=>by
        rw[(hf i hi).1.2 j hj];simp[List.getD,show j<(f i).1.length by rw[hfl i hi];exact hj]
       have hsp:es=[]∨(ad.spot=none∧ad.block<W.heap.size):=by
        by_cases h0:len=0
        ·left;simp[es,h0]
        ·right;have h1:=hcell 0 0 (by omega) (by omega);have e3:(ad.add (0*P.cellsOf e)).add 0=ad:=by simp[Addr.add]
         rw[e3]at h1;refine⟨World.cell?_spot h1, ?_⟩;unfold World.cell? at h1;split at h1
         ·rename_i h2;exact(Array.getElem?_eq_some_iff.mp h2).1
         ·cases h1
       obtain⟨ab,ao,asp⟩:=ad;refine .sl (some ⟨ab,ao,asp⟩) ab ao len cap _ es (fun i j=>(f i).1.getD j undef) (by simp[es]) ?_ hlc hcm (fun i hi=>by rw[hcells i hi,hdl i hi]) hnl ?_ ?_ ?_
       ·rcases hsp with h|⟨h,h2⟩
        ·exact .inl h
        ·obtain rfl:asp=none:=h;exact .inr ⟨rfl,h2⟩
       ·intro i j hi hj;have h1:=hcell i j hi hj;rcases hsp with h|⟨h,h2⟩
        ·have:es.length=0:=by rw[h];rfl
         simp[es]at this;omega
        ·obtain rfl:asp=none:=h
         rwa [Em]at h1
       ·intro i j hi hj;exact((hf i hi).2.2 j (by rw[hfl i hi];exact hj)).2
       ·intro i j hi hj;rw[hcells i hi];exact((hf i hi).2.2 j (by rw[hfl i hi];exact hj)).1
    ·cases h
   ·cases h
  ·rename_i fs ht;split at h
   ·rename_i b hb;split at h
    ·rename_i hlen;simp only[Option.some.injEq]at h;subst h;obtain⟨xs,m,rfl,rfl,hcl,hxl,hat⟩:=DataW.trod_struct ht hx;obtain⟨ds,g1,g2⟩:=Cc (W:=W) (ν:=ν) (sp:=sp) (held:=held) (enc:=enc) (m:=m) (cs:=cs) (fun t a cs x h1 h2=>ui n t a m cs x h1 h2) fs.toList 0 b xs hb (by simpa using hxl) (fun i f hf=>hat i f (by simpa using hf)) (by omega);refine⟨by omega,ds,by simpa only[dB]using g1,fun i hi=>?_⟩;have:=g2 i (by omega)
     rwa [Nat.zero_add]at this
    ·cases h
   ·cases h
  ·rename_i k e ht;split at h
   ·rename_i b hb;split at h
    ·rename_i hlen;simp only[Option.some.injEq]at h;subst h;obtain⟨xs,m,rfl,rfl,hcl,hxl,hat⟩:=DataW.trod_array ht hx;obtain⟨ds,g1,g2⟩:=Cc (W:=W) (ν:=ν) (sp:=sp) (held:=held) (enc:=enc) (m:=m) (cs:=cs) (fun t a cs x h1 h2=>ui n t a m cs x h1 h2) _ 0 b xs hb (by simpa using hxl) (fun i f hf=>by
      simp only[List.getElem?_map,Option.map_eq_some_iff]at hf;obtain⟨j,hj,rfl⟩:=hf;have hi:i<k:=by
       have:=(List.getElem?_eq_some_iff.1 hj).1;simpa using this
      obtain rfl:j=i:=by simpa[hi]using hj.symm
      exact hat j hi) (by omega)
     refine⟨by omega,ds,by simpa only[dB]using g1,fun i hi=>?_⟩;have:=g2 i (by omega)
     rwa [Nat.zero_add]at this
    ·cases h
   ·cases h
  ·cases h
end
end Go.Abs
end
section
namespace Go.Abs
open Go.RowKit Go.ChangeShapes Go.WideShapes
def BN (sh:Bool×List Lf)(d:D)(n:Nat):Prop:=∃ds,kG sh.2 ds n∧d=bif sh.1 then .agg ds else ds.getD 0 .any
def tT:List (Bool×List Lf)→List D→Nat→Prop
 |[],ds,_=>ds=[]
 |s::r,ds,n=>∃d ds' n1 n2,ds=d::ds'∧n1+n2≤n∧BN s d n1∧tT r ds' n2
def m4 (P:Program)(k:Nat):List TypeId→Option (List (Bool×List Lf))
 |[]=>some []
 |t::r=>match wR P k t,m4 P k r with
  |some a,some b=>if se P t=true∨a.length=1 then some ((se P t,a)::b)else none
  |_,_=>none
section
variable {H:Type} {enc:TypeId×Value→H} {P:Program} {ν:List (Nat×Nat)}
def LM {W:World}{sp:Nat→Bool}{held:Bool}{k base:Nat}{t:TypeId}{a:List Lf}{v:Value}{d:DataW H}{p:List MemPlace}{r:Reach}
  (ha:wR P k t=some a) (h1:se P t=true∨a.length=1) (tz:Value.okWide P W r base t v) (h:DataW.Trod enc P W 0 sp held t v d p):
  ∃e,BN (se P t,a) e (dB d)∧e.a7=true∧RD ν (tO W) v e:=by
 obtain⟨fuel,hf⟩:=h;obtain⟨hl,ds,g1,g2⟩:=ui (ν:=ν) k t a fuel v.cells.toList (d,p) ha hf;have hdl:=q9 g1;have hnl:=qj g1;refine⟨_,⟨ds,g1,rfl⟩, ?_⟩;cases hag:se P t with
 |true=>
  have:∃cs,v=.agg cs∧cs.size=P.cellsOf t:=by
   match k,ha with
   |n+1,ha=>
   unfold wR at ha;unfold se at hag;split at ha
   ·simp_all
   ·simp_all
   ·simp_all
   ·simp_all
   ·rename_i fs ht;exact okWide_struct ht tz
   ·rename_i m e ht;simp only[Value.okWide,ht]at tz;obtain⟨cs,h1,h2,_⟩:=tz;exact⟨cs,h1,h2⟩
   ·simp_all
  obtain⟨cs,rfl,hcs⟩:=this;refine⟨hnl, ?_⟩;have hl':cs.size=a.length:=by simpa[Value.cells]using hl
  have e:∀i,(Value.agg cs).cells.toList.getD i undef=cs.getD i undef:=fun i=>by
   simp only[Value.cells];by_cases hi:i<cs.size<;>simp[List.getD,Array.getD,hi]
  refine .agg cs ds (by omega) (fun i hi=>?_) fun i hi=>?_
  ·rw[←e];exact(g2 i (by simp only[Value.cells,Array.length_toList];omega)).2
  ·rw[←e];exact(g2 i (by simp only[Value.cells,Array.length_toList];omega)).1
 |false=>
  have h1:a.length=1:=by
   rcases h1 with h|h
   ·rw[hag]at h;cases h
   ·exact h
  have hv:v.cells.toList.getD 0 undef=v:=by
   match k,ha with
   |n+1,ha=>
   unfold wR at ha;unfold se at hag;split at ha
   ·rename_i ht;obtain⟨b,rfl⟩:=okWide_bool ht tz;rfl
   ·rename_i k ht;obtain⟨b,rfl⟩:=okWide_int ht tz;rfl
   ·rename_i ht;obtain⟨b,rfl⟩:=okWide_string ht tz;rfl
   ·rename_i e ht;obtain⟨b,c,f,rfl⟩:=okWide_slice ht tz;rfl
   ·rename_i fs ht;rw[ht]at hag;cases hag
   ·rename_i m e ht;rw[ht]at hag;cases hag
   ·cases ha
  have g:=g2 0 (by omega);rw[hv]at g;refine⟨?_,g.1⟩
  match ds,hdl with
  |[d0],_=>simpa[aT]using hnl
  |[],h=>simp at h;omega
  |_::_::_,h=>simp at h;omega
def Di {W:World}{sp:Nat→Bool}{held:Bool}{k base:Nat}{r:Reach}:∀(ts:List TypeId)(shs:List (Bool×List Lf))(vs:List Value)(dws:List (DataW H))(ps:List MemPlace),
  m4 P k ts=some shs→(∀(j:Nat) t v,ts[j]? =some t→vs[j]? =some v→Value.okWide P W r base t v)→DataW.TrodAll enc P W 0 sp held ts vs dws ps→
  ∃es:List D,tT shs es (I3 dws)∧es.length=vs.length∧dws.length=ts.length∧aT es=true∧∀i,i<es.length→RD ν (tO W) (vs.getD i undef) (es.getD i .any)
 |[],shs,vs,dws,ps,hs,_,h=>by
  simp only[m4,Option.some.injEq]at hs;subst hs;obtain⟨rfl,rfl,rfl⟩:=trodAll_nil h;exact⟨[],rfl,rfl,rfl,rfl,fun i hi=>by simp at hi⟩
 |t::ts,shs,vs,dws,ps,hs,hv,h=>by
  simp only[m4]at hs;split at hs
  ·rename_i a b h1 h2;split at hs
   ·rename_i hc;simp only[Option.some.injEq]at hs;subst hs;obtain⟨v,vs',d,ds',p,q,rfl,rfl,rfl,h3,h4⟩:=trodAll_cons h;obtain⟨e,g1,g2,g3⟩:=LM (ν:=ν) h1 hc (hv 0 t v rfl rfl) h3;obtain⟨es,k1,k2,k3,k4,k5⟩:=Di ts b vs' ds' q h2 (fun j t v h5 h6=>hv (j+1) t v (by simpa using h5) (by simpa using h6)) h4;refine⟨e::es,⟨e,es,_,_,rfl,Nat.le_refl _,g1,k1⟩,by simp[k2],by simp[k3],by simp[aT,g2,k4],fun i hi=>?_⟩
    match i,hi with
    |0,_=>exact g3
    |i+1,hi=>exact k5 i (by simpa using hi)
   ·cases hs
  ·cases hs
def p0 {W W':World}(hl:laidOutB P=true)(hb:Below W.heap.size W W'){sp':Nat→Bool}:∀(ts:List TypeId)(vs:List Value)(dws:List (DataW H))(ps:List MemPlace),
  (ts.all fun t=>P.readableRec t&&decide (t<P.types.size))=true→(∀x∈ps,x.block<W.heap.size)→(∀x∈ps,sp' x.block=true)→
  DataW.TrodAll enc P W 0 (fun _=>true) true ts vs dws ps→DataW.TrodAll enc P W' 0 sp' true ts vs dws ps
 |[],vs,dws,ps,_,_,_,h=>by
  obtain⟨rfl,rfl,rfl⟩:=trodAll_nil h;exact trodAll_mk0
 |t::ts,vs,dws,ps,ht,hlt,hsp,h=>by
  obtain⟨v,vs',d,ds',p,q,rfl,rfl,rfl,h3,h4⟩:=trodAll_cons h;simp only[List.all_cons,Bool.and_eq_true,decide_eq_true_eq]at ht;refine trodAll_cons_mk (WideElems.Trod_stays hl ht.1.1 ht.1.2 h3 (fun x hx=>hb.same (hlt x (by simp[hx]))) fun x hx=>hsp x (by simp[hx])) ?_;exact p0 hl hb ts vs' ds' q ht.2 (fun x hx=>hlt x (by simp[hx])) (fun x hx=>hsp x (by simp[hx])) h4
end
end Go.Abs
end
namespace Go.Abs
def Gy {c:Lf}{d:D}{n m:Nat}(h:fit c d n)(hm:n≤m):fit c d m:=by
 cases c<;>simp only[fit]at h⊢
 ·obtain⟨s,h1,h⟩:=h;exact⟨s,h1,by omega⟩
 ·exact⟨h.1,by omega⟩
 ·exact⟨h.1,by omega⟩
 ·obtain⟨es,h1,ns,h2,h3,h4⟩:=h;exact⟨es,h1,ns,h2,by omega,h4⟩
def JB {c:Lf}{d:D}{n:Nat}(h:BN (false,[c]) d n):fit c d n:=by
 obtain⟨ds,h,rfl⟩:=h;simp only[kG]at h;obtain⟨d,_,n1,n2,rfl,h1,h2,rfl⟩:=h;exact Gy h2 (by omega)
def JY {d:D}{n:Nat}(h:fit .str d n):∃s:ai,d=.str s∧s.length+1≤n:=by
 simpa only[fit]using h
end Go.Abs
section
namespace Go.Abs
open Go.RowKit Go.ChangeShapes Go.WideShapes
def ctxp {t:List (Nat×pK)}{n:Nat}{ds:List D}{d:D}(hD:OE (lk t n kU).rel)(h:(lk t n kU).rel ds d):(wL t).pre n ds∧(wL t).val n ds=d:=⟨⟨d,h⟩,hD _ _ _ (jP ⟨d,h⟩) h⟩
section
variable {H:Type} {enc:TypeId×Value→H} {P:Program} {ν:List (Nat×Nat)}
def Ca [cz]{b9:List Nat}{Γ:Ctx}(hok:Ok P ν b9 Γ){fid n k base:Nat}{f:Func}{s:ChangeSpec}{tb:TypeId}{shs:List (Bool×List Lf)}{r:Reach}
  {W:World} {args:Array Value} {ds gs:List (DataW H)} {before:List MemPlace}
  (hf:P.funcs[fid]? =some f) (hnm:(f.name== "runtime.NumGoroutine")=false) (hbody:f.body.isSome=true) (hn:dW ν fid=some n)
  (hl:laidOutB P=true) (hts:(f.params.toList.all fun t=>P.readableRec t&&decide (t<P.types.size))=true)
  (hsh:m4 P k f.params.toList=some shs) (hres:f.resultTypes=#[tb]) (htb:P.underlying tb=some .bool)
  (hvars:s.vars=[]) (hfn:∀xs:List (DataW H),xs.length=f.params.toList.length→s.fn H xs={results:=[.lit (.bool true)],args:=xs})
  (hgd:cz.gd (tO W)) (hpre:∀es,tT shs es (I3 ds)→(∀i,i<es.length→∃v,RD ν (tO W) v (es.getD i .any))→Γ.pre n es∧Γ.val n es=.bool true)
  (hargs:∀(j:Nat) t v,f.params[j]? =some t→args[j]? =some v→Value.okWide P W r base t v)
  (hW:DataW.Whole enc P f.params.toList s.vars false W args.toList ds gs before):
  Calls P fid args W fun e W'=>∃v,e=.returned v∧s.post enc P f false true false false W args v W':=by
 have hW':=hW;obtain⟨p,q,hA,hV,rfl,hz,hnd⟩:=hW;rw[hvars]at hV;obtain⟨rfl,rfl⟩:=trodVars_none hV;obtain⟨es,h1,h2,h3,h4,h5⟩:=Di (ν:=ν) f.params.toList shs args.toList ds p hsh (fun j t v e1 e2=>hargs j t v (by simpa using e1) (by simpa using e2)) hA;have hsz:args.size=es.length:=by simpa using h2.symm
 obtain⟨hp1,hp2⟩:=hpre es h1 fun i hi=>⟨_,h5 i hi⟩
 have hd:=hok.pure fid n hn (tO W) args es hsz (fun i hi=>by
  have:=h5 i hi;have e:args.toList.getD i undef=args.getD i undef:=by
   have hi':i<args.size:=by omega
   simp[List.getD,Array.getD,hi']
  rwa [e]at this) h4 (fun b hb=>hb) hgd hp1
 rw[fZ hf hnm hbody args]at hd;rcases hd with⟨v,x',hd|hd,_⟩|⟨f',args',hd,hc⟩
 ·cases hd
 ·cases hd.1
 ·cases hd;refine Calls.mono hc fun e W' he=>?_
  match e,he with
  | .returned v,he=>
   obtain⟨x',rfl,hp,hr⟩:=he;rw[hp2]at hr;obtain rfl:v=.bool true:=by cases hr;rfl
   have hb:Below W.heap.size W x'.w:=hp.grow.below;have hlt:=hW'.lt;have e1:s.fn H (ds++[])={results:=[.lit (.bool true)],args:=ds}:=by rw[List.append_nil];exact hfn ds h3
   refine⟨_,rfl,wU (pa:=p) (pv:=[]) hW' (fun b sp hd=>?_) (fun sp hsp=>?_) (fun sp hsp=>?_) rfl hb (ok_one hres rfl (okWide_bool_mk htb _))⟩
   ·rw[e1,hres];exact trodAll_mk1 (shut_bool htb _)
   ·rw[e1];exact p0 hl hb _ _ _ _ hts (fun x hx=>by simpa using hlt x (by simpa using hx)) (fun x hx=>hsp x (by simpa using hx)) hA
   ·rw[e1,hvars];rfl
end
end Go.Abs
end
section
namespace Go.Proofs.YtpdlhpamcaocgaaGreatDoor
open Go.Abs Go.ChangeShapes Go.WideShapes Go.ChangeAt Go.RowKit Go.Proofs
def own:ownKnob Tryz.prog.godebug=none:=by kernel_rfl
def GR:laidOutB Tryz.prog=true:=by kernel_rfl
def rj {P:Program}{W:World}{y:String×DataW Unit}{l:List (String×DataW Unit)}(h:laidMet P (y::l) W):laidMet P l W:=by
 obtain⟨ps,⟨g,t,cs,fuel,p,q,_,_,_,_,h1,rfl⟩,h2,h3⟩:=h;refine⟨q,h1,(List.nodup_append.1 h2).2.1,fun b off hm=>h3 b off (by simp[hm])⟩
def DN {W:World}{b:Nat}{o:Nat}{v:Value}(h:W.cell? ⟨b,o,none⟩=some v):b<W.heap.size:=by
 unfold World.cell? at h;split at h
 ·rename_i h2;exact(Array.getElem?_eq_some_iff.mp h2).1
 ·cases h
def PT {W:World}(hL:laidMetH Tryz.prog Rows.recordReadsRow.laid W)(hsh:W.ShapedOpen Tryz.prog):cz.gd (tO W):=by
 have hL':laidMet Tryz.prog Rows.recordReadsRow.laid W:=hL;have htab:Lib.TabIs Tryz.prog W "internal/strconv.uint64pow10" .u64 Lib.pow10Tab:=
  Lib.tabIs_of_head (g:=3) (t:=244) (e:=49) (n:=20) (by kernel_rfl) (by kernel_rfl) (by kernel_rfl) (by kernel_rfl) (by kernel_rfl) (by kernel_rfl) (rj (rj hL'))
 obtain⟨m,hm⟩:∃m,W.cell? ⟨0,0,none⟩=some (.int .i64 m):=Tryz.laysM219.s1_3 W hsh
 have h3:=htab.cell tj 0 (by decide);exact⟨⟨DN hm,m,hm⟩,DN h3,htab⟩
mutual
def Ab {H:Type}:DataW H→List Value
 | .lit (.int k n)=>[.int k n]
 | .agg ps=>Gq ps
 |_=>[]
def Gq {H:Type}:List (DataW H)→List Value
 |[]=>[]
 |d::r=>Ab d++Gq r
end
def put (d:DataW Unit):Obj→Obj
 | .cells _ t frozen=>.cells (Ab d).toArray t frozen
 |o=>o
noncomputable def sg (os:Os):World:=
 {World.holding Tryz.prog os ⟨#[],#[],[]⟩with heap:=(((((World.holding Tryz.prog os ⟨#[],#[],[]⟩).heap.modify 1 (put Rows.laid_unicode_utf8_first)).modify 2 (put Rows.laid_unicode_utf8_acceptRanges)).modify 3 (put Rows.laid_internal_strconv_uint64pow10)).modify 4 (put Rows.laid_math_bits_deBruijn32tab)).modify 5 (put Rows.laid_math_bits_deBruijn64tab)}
def strZ:Value:=.string ⟨#[]⟩
end Go.Proofs.YtpdlhpamcaocgaaGreatDoor
end
section
namespace Go.Proofs.YtpdlhpamcaocgaaGreatDoor
open Go.Abs Go.ChangeShapes Go.WideShapes Go.ChangeAt Go.RowKit Go.Proofs
def gI:Array Value:=#[strZ]
def oC (os:Os):laidMet Tryz.prog Rows.recordReadsRow.laid ((sg os).forCall (fun _ _=>0) ⟨#[],gI,[]⟩).memory:=
 laidMet_of_run' 8 (by kernel_rfl) (by kernel_rfl)
def qD:m4 Tryz.prog 20 Tryz.f3.params.toList=some [(false,[.str])]:=by kernel_rfl
def tJ {W:World}{es:List D}{n:Nat}(h:tT [(false,[.str])] es n)(hr:∀i,i<es.length→∃v,RD tG (tO W) v (es.getD i .any)):(wL aU).pre 12 es∧(wL aU).val 12 es=.bool true:=by
 obtain⟨d1,_,n1,m1,rfl,a1,h1,rfl⟩:=h;obtain⟨v1,rfl,k1⟩:=JY (JB h1);exact ctxp D12 fun T h=>h v1
def rC (os:Os){H:Type}(enc:TypeId×Value→H):∃places,DataW.whole enc Tryz.prog ((sg os).forCall (fun _ _=>0) ⟨#[],gI,[]⟩).memory Tryz.f3.params.toList Rows.recordReadsSpec.vars false gI.toList 8=
  some ([.lit (.string [])],[],places):=
 ⟨[],by kernel_rfl⟩
set_option maxRecDepth 100000 in
theorem qp (os:Os)(started:os.Started)(H:Type)(enc:TypeId×Value→H)(F:Stop.Interp):
  ReturnsInHanded {} Tryz.checked os 3 .any ((OpenSpec.ofChange Rows.recordReadsSpec).preRow enc Tryz.prog Tryz.f3 Rows.recordReadsRow.domain false Rows.recordReadsRow.laid) (((OpenSpec.ofChange Rows.recordReadsSpec).at F).post enc Tryz.prog Tryz.f3 false true false false):=by
 obtain⟨places,hx⟩:=rC os enc;refine returnsInHanded_of_row (C:=Tryz.checked) (s:=OpenSpec.ofChange Rows.recordReadsSpec) own started (by kernel_rfl) Tryz.func3
  (witness_row_at (enc:=enc) (C:=Tryz.checked) false (sg os) gI rfl (by kernel_rfl) (by kernel_rfl) (by kernel_rfl)
    (OpenSpec.preRow_of_cond 8 hx (by kernel_rfl) (fun k hk=>by cases hk) (by kernel_rfl) (oC os))) ?_
 intro W base args ds gs before tz hW _ _ _ hL hsh _;refine Ca (n:=12) (k:=20) (s:=(OpenSpec.ofChange Rows.recordReadsSpec).at F) (tb:=4) okY Tryz.func3 (by kernel_rfl) (by kernel_rfl) (by kernel_rfl) GR (by kernel_rfl) qD (by kernel_rfl) (by kernel_rfl) rfl (fun xs hx=>?_) (PT hL hsh)
  (fun es he hr=>tJ he hr) tz hW
 match xs,hx with
 |[a],_=>rfl
def uQ:Tryz.prog.inPlace 3=Rows.recordReadsRow.inPlace:=by kernel_rfl
def uR:Tryz.prog.unfollowed 3=Rows.recordReadsRow.unfollowed:=by kernel_rfl
def uS:Tryz.prog.recurses 3=Rows.recordReadsRow.recurses:=by kernel_rfl
def uT:Tryz.prog.varsNamed 3=Rows.recordReadsRow.named:=by kernel_rfl
def qd:joinedFacts Tryz.prog 3 Tryz.f3 (OpenSpec.ofChange Rows.recordReadsSpec).bare Rows.recordReadsRow=true:=by
 unfold joinedFacts;rw[uQ,uR,uS,uT]
 kernel_rfl
def sH:Rows.RecordReadsSaid:=
 OpenClaim.holds_of_cond 3 Tryz.f3 rfl rfl rfl rfl rfl rfl rfl ⟨rfl,rfl,rfl,rfl,rfl⟩ rfl rfl rfl rfl rfl (by kernel_rfl) Tryz.func3 qd
  (of_decide_eq_true (by kernel_rfl)) (by unfold Func.isWrapper;first|(rw[if_pos (by decide+kernel)];kernel_rfl)|(rw[if_neg (by decide+kernel)];exact⟨rfl,rfl⟩))
  (fun os started H enc _ F=>by rw[OpenClaim.pre_eq_preRow];exact qp os started H enc F)
def ry (f:FuncId)(fn:Func)(hf:Tryz.pinned.checked.prog.funcNamed "linchpin/linchpinlaw12.RecordReads" =some f)(hfn:Tryz.pinned.checked.prog.funcs[f]? =some fn):
  false=Tryz.pinned.checked.prog.looks []∧∀(j:Nat) t,fn.params[j]? =some t→Tryz.pinned.checked.prog.wantsStandIn t=false:=by
 obtain rfl:f=3:=Option.some.inj ((show Tryz.prog.funcNamed "linchpin/linchpinlaw12.RecordReads" =some 3 by kernel_rfl).symm.trans hf) |>.symm
 obtain rfl:fn=Tryz.f3:=(Option.some.inj (Tryz.func3.symm.trans hfn)).symm;refine⟨by kernel_rfl,fun j t ht=>?_⟩;have hall:(Tryz.f3.params.toList.all fun t=>!Tryz.prog.wantsStandIn t)=true:=by kernel_rfl
 have:=List.all_eq_true.1 hall t (by simpa using Array.mem_of_getElem? ht);show Tryz.prog.wantsStandIn t=false;simpa using this
theorem card_recordReads:Rows.RecordReadsCardSaid:=
 Claim7.holds_tied_plain_at .later [] _ _ _ _ sH (fun _ h=>by cases h) (by kernel_rfl) (fun _ h=>by cases h) recordReads_row_tie rfl ⟨rfl,rfl⟩ (by kernel_rfl) rfl ry (by kernel_rfl)
end Go.Proofs.YtpdlhpamcaocgaaGreatDoor
end
#print axioms Go.Proofs.YtpdlhpamcaocgaaGreatDoor.card_recordReads
