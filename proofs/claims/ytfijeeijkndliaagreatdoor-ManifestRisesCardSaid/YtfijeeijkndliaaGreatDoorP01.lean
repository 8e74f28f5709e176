/- A part of the proofs. -/
import Derived.Attr
import Derived.ChangeKeysEq
import Derived.Deep.AppendSrc
import Derived.KernelRfl
import Derived.Laws.Cover4
import Derived.Lib.Strings
import Derived.MapKept
import Derived.WalkKit
import GoSem.Dispatch
import GoSem.Step
set_option linter.all false
set_option maxRecDepth 4000
section
namespace Go.Abs
def aH:=@List.length_cons
def aO:=@List.length_nil
def bC:=@decide_eq_false_iff_not
def a8:=@decide_eq_true_eq
def aL:=@Option.some.injEq
def aj:=@if_neg
def aw:=@if_pos
def bt:=@Bool.and_eq_true
def bA:=@List.length_append
def cL:=@Bool.not_eq_false'
def bP:=@Bool.not_eq_true'
def aF:=@Nat.le_refl
def br:=@Option.some.inj
def bz:=@List.length_map
def aM:=@if_false
def aP:=@if_true
def bN:=@List.drop_zero
def cK:=@decide_eq_true
def bD:=@Nat.zero_add
def dT:=@Bool.or_eq_false_iff
def cR:=@List.forall_mem_cons
def dF:=@Bool.and_eq_false_iff
def df:=@Option.map_eq_some_iff
def dJ:=@decide_eq_false
def dk:=@Bool.or_eq_true
def eM:=@List.take_of_length_le
def fW:=@List.length_take
def dU:=@List.append_assoc
def cT:=@List.mem_singleton
def fX:=@Bool.false_eq_true
def dn:=@Prod.mk.injEq
def eu:=@Nat.mul_le_mul_right
def cC:=@Nat.le_trans
def eC:=@Nat.lt_of_lt_of_le
def eN:=@List.nil_append
def kC:=@List.eq_nil_of_length_eq_zero
def jn:=@List.drop_eq_getElem_cons
def eV:=@List.cons_append
def cD:=@List.mem_cons
def bY:=@true_and
def bQ:=@and_true
def cx:=@false_and
def cy:=@and_false
def cA:=@and_self
def dw:=@Eq.trans
def ar:=@congrArg
def jR:=@List.drop_eq_nil_of_le
def gD:=@List.append_nil
def kD:=@List.suffix_refl
def pr:=@List.length_drop
def eD:=@List.not_mem_nil
def lT:=@UInt8.toNat_inj
def fY:=@List.getD_cons_zero
def iF:=@Bool.true_and
def kE:=@Bool.and_true
def eW:=@List.mem_map
def rl:=@List.cons.injEq
def tl:=@List.length_eq_zero_iff
def lU:=@List.mem_of_mem_take
def tm:=@decide_eq_decide
def fH:=@Nat.lt_or_ge
def ae {p:Prop}(h:p:=by omega):p:=h
def dK {p:Prop}(h:p:=by simp only[List.length_cons,List.length_nil];omega):p:=h
def aE {p:Prop}(h:p:=by decide):p:=h
def jt {p:Prop}(h:p:=by kernel_rfl):p:=h
def aJ {p:Prop}(h:p:=by simp):p:=h
def ea {p:Prop}(h:p:=by dsimp only;omega):p:=h
def cX {p:Prop}(h:p:=by simp;omega):p:=h
def aT {p:Prop}(h:p:=by exact rfl):p:=h
end Go.Abs
def bK {α:Type}{a:Option α}{b c:α}(h:a=some b)(e:b=c:=by kernel_rfl):a=some c:=h.trans (congrArg some e)
end
namespace Go.Abs
inductive D where
 |any
 |bool (b:Bool)
 |int (k:IntKind) (n:Int)
 |str (s:List UInt8)
 |agg (cs:List D)
 |tup (ds:List D)
 |au
 |sl (k:Nat) (es:List D)
 |ref (k:Nat) (es:List D) (i o:Nat)
 |ptr (l k i o:Nat)
 |own (l k i n:Nat)
 |nilp
 |fn (f:Nat) (caps:List D)
 |nilf
 |it (l:Nat)
 deriving Inhabited
inductive Src where
 |s (n:Nat)
 |l (p:Nat)
 |c (d:D)
 deriving Inhabited
inductive Sh where
 |a
 |sl (k:Nat) (cs:List Sh)
 |pt (cs:List Sh)
 deriving Inhabited
inductive CK where
 |b|i (k:IntKind)|s
 deriving Inhabited
inductive aC where
 |mv (x:Src)
 |pick (c a b:Src)
 |box (k:Nat) (x:Src)
 |build (z:List D) (parts:List (Nat×Nat×Src))
 |bsl (k:Nat) (z:D) (n:Nat) (parts:List (Nat×Src))
 |ld (n:Nat) (ag:Bool) (p:Src)
 |st (n:Nat) (p v:Src)
 |nilck (x:Src)
 |bin (op:BinOp) (x y:Src)
 |eqA (neg ag:Bool) (ks:List CK) (x y:Src)
 |un (op:UnOp) (x:Src)
 |cvi (k:IntKind) (x:Src)
 |mn (x y:Src)
 |s2b (x:Src)
 |b2s (x:Src)
 |i2s (x:Src)
 |mkf (f:Nat) (caps:List Src)
 |mks (k:Nat) (z:D) (ln cp:Src)
 |slS (x:Src) (lo hi:Option Src)
 |slA (k:Nat) (x:Src) (lo hi:Option Src)
 |slX (k:Nat) (x hi mx:Src)
 |fa (off:Nat) (p:Src)
 |fld (off n:Nat) (ag:Bool) (x:Src)
 |ia (k:Nat) (x i:Src)
 |iaP (n k:Nat) (x i:Src)
 |ixS (x i:Src)
 |ixA (n k:Nat) (ag:Bool) (x i:Src)
 |ext (x:Src) (i:Nat)
 |len (x:Src)
 |lenS (x:Src)
 |app (k:Nat) (x y:Src)
 |call (f:Nat) (args:List Src) (sh:List (List Sh))
 |callv (f:Src) (args:List Src) (sh:List (List Sh))
 |callM (f:Nat) (args:List Src)
 |callvM (f:Src) (args:List Src)
 |ldI (n:Nat) (ag:Bool) (p:Src)
 |ldU (n:Nat) (ag:Bool) (p:Src)
 |callF (f:Nat) (r:Src) (args:List Src) (sh:List (List Sh))
 |appN (k:Nat) (y:Src)
 |bslI (k:Nat) (z:D) (n:Nat) (parts:List (Nat×Src))
 |sa (x:Src)
 |xe (x:Src)
 |mkB
 |lkp (x k:Src)
 |G4 (x:Src)
 |isNl (x:Src)
 deriving Inhabited
structure GI where
 i:aC
 g:Option (Nat×Bool)
 deriving Inhabited
inductive AC where
 |reg (draw:Bool) (ins:List GI) (cm:List (Nat×Nat))
 |seq (a b:AC)
 |cond (c:Src) (a b:AC)
 |block (id:Nat) (a:AC)
 |loop (a:AC)
 |exit (id:Nat)
 |ret
 |skip
 deriving Inhabited
structure Cr where
 s:Nat
 mem:Option (Nat×Bool)
 deriving Inhabited
structure aN where
 np:Nat
 ns:Nat
 res:List Cr
 rsh:List (List Sh)
 body:AC
 deriving Inhabited
@[go_sem] def D.cells:D->List D
 | .agg cs=>cs
 | .any=>[]
 | .tup _=>[]
 |d=>[d]
@[go_sem] def D.isBool:D->Bool
 | .bool _=>true
 |_=>false
@[go_sem] def D.isAgg:D->Bool
 | .agg _=>true
 |_=>false
mutual
@[go_sem] def D.aX:D->Bool
 | .agg cs=>aY cs
 | .tup cs=>aY cs
 | .fn _ cs=>aY cs
 | .ptr .. =>false
 | .own .. =>false
 | .it _=>false
 |_=>true
@[go_sem] def aY:List D->Bool
 |[]=>true
 |d::r=>d.aX&&aY r
end
mutual
@[go_sem] def D.eo:D->Bool
 | .agg cs=>lG cs
 | .tup cs=>lG cs
 | .fn n cs=>!(Nat.ble 2000000 n)&&lG cs
 | .ptr .. =>false
 | .own .. =>false
 | .it _=>false
 | .sl .. =>false
 | .ref .. =>false
 |_=>true
@[go_sem] def lG:List D->Bool
 |[]=>true
 |d::r=>d.eo&&lG r
end
inductive bp where
 |buf (k:Nat) (es:List D)
 |iter (s:List UInt8) (pos:Nat)
 |row (s:List UInt8)
 |bld (o:Option Nat) (n:Nat) (u:Bool)
 deriving Inhabited
structure St where
 nx:Nat
 m:List (Nat×bp)
@[go_sem] def look:List (Nat×bp)->Nat->Option bp
 |[],_=>none
 |(a,b)::r,l=>if a=l then some b else look r l
@[go_sem] def cM:List (Nat×bp)->Nat->bp->List (Nat×bp)
 |[],l,b=>[(l,b)]
 |(a,x)::r,l,b=>if a=l then(a,b)::r else(a,x)::cM r l b
@[go_sem] def cd:List (Nat×bp)->Nat->List (Nat×bp)
 |[],_=>[]
 |(a,x)::r,l=>if a=l then cd r l else(a,x)::cd r l
structure bE where
 ok:Bool
 d:D
@[go_sem] def bE.un:bE:=⟨true,.any⟩
@[go_sem] def Src.ev (env vs:List bE):Src->bE
 | .s n=>env.getD n .un
 | .l p=>vs.getD p .un
 | .c d=>⟨true,d⟩
structure Ctx where
 pre:Nat->List D->Prop
 val:Nat->List D->D
 tr:Nat->List D->St->(D->St->Prop)->Prop
 fp:Nat->D->List D->Prop
 fv:Nat->D->List D->D
 fs:Nat->D->List D->D
 lo:Nat
@[go_sem] def aS (m:List (Nat×bp))(l:Nat):List D:=match look m l with
 |some (.buf _ es)=>es
 |_=>[]
@[go_sem] def eZ (m:List (Nat×bp))(l k n:Nat):Prop:=match look m l with
 |some (.buf k' es)=>k=k'/\n<=es.length
 |_=>False
@[go_sem] def nY (m:List (Nat×bp)):D->List D
 | .sl _ es=>es
 | .own l _ i n=>((aS m l).drop i).take n
 | .str s=>s.map fun b=>.int .u8 b.toNat
 |_=>[]
@[go_sem] def zk (m:List (Nat×bp))(k:Nat):D->Prop
 | .sl k' _=>k'=k
 | .own l k' i n=>k'=k/\eZ m l k (i+n)
 | .str _=>k=1
 | .au=>True
 |_=>False
mutual
@[go_sem] def mW (m:List (Nat×bp)):Sh->D->D
 | .a,d=>match d with
  | .au=>.sl 0 []
  |d=>d
 | .sl k cs,d=>match d with
  | .au=>.sl k []
  | .own l k' i c=>.sl k' ((((aS m l).drop i).take c).map (iO m cs))
  |d=>d
 | .pt cs,d=>match d with
  | .ptr l k i o=>.ref k ((aS m l).map (iO m cs)) i o
  |d=>d
@[go_sem] def iO (m:List (Nat×bp)):List Sh->D->D
 |[],d=>d
 |s::r,d=>match d with
  | .agg cs=>.agg (mX m (s::r) cs)
  |d=>mW m s d
@[go_sem] def mX (m:List (Nat×bp)):List Sh->List D->List D
 |[],ds=>ds
 |s::r,ds=>match ds with
  |[]=>[]
  |d::ds=>mW m s d::mX m r ds
end
mutual
@[go_sem] def j8 (m:List (Nat×bp)):Sh->D->Prop
 | .a,d=>d.aX=true
 | .sl _ cs,d=>match d with
  | .own l k' i c=>eZ m l k' (i+c)/\∀e∈((aS m l).drop i).take c,gT m cs e
  |d=>d.aX=true
 | .pt cs,d=>match d with
  | .ptr l k _ _=>eZ m l k 0/\∀e∈aS m l,gT m cs e
  |d=>d.aX=true
@[go_sem] def gT (m:List (Nat×bp)):List Sh->D->Prop
 |[],d=>d.aX=true
 |s::r,d=>match d with
  | .agg cs=>kL m (s::r) cs
  |d=>j8 m s d
@[go_sem] def kL (m:List (Nat×bp)):List Sh->List D->Prop
 |[],ds=>aY ds=true
 |s::r,ds=>match ds with
  |[]=>True
  |d::ds=>j8 m s d/\kL m r ds
end
@[go_sem] def jE (op:BinOp):D->D->D
 | .int k a,.int _ b=>match op with
  | .add=>.int k (k.wrap (a+b))
  | .sub=>.int k (k.wrap (a-b))
  | .mul=>.int k (k.wrap (a*b))
  | .quo=>.int k (k.wrap (a.tdiv b))
  | .rem=>.int k (a.tmod b)
  | .eql=>.bool (a==b)| .neq=>.bool (a !=b)| .lss=>.bool (decide (a<b))| .leq=>.bool (decide (a<=b))| .gtr=>.bool (decide (b<a))| .geq=>.bool (decide (b<=a))
  | .shl=>.int k (k.wrap (a*2^(min b.toNat k.bits)))
  | .shr=>.int k (a.fdiv (2^(min b.toNat k.bits)))
  | .and=>.int k (k.wrap (((BitVec.ofInt k.bits a)&&&(BitVec.ofInt k.bits b)).toNat))
  | .or=>.int k (k.wrap (((BitVec.ofInt k.bits a) |||(BitVec.ofInt k.bits b)).toNat))
  | .xor=>.int k (k.wrap (((BitVec.ofInt k.bits a)^^^(BitVec.ofInt k.bits b)).toNat))
  | .andNot=>.int k (k.wrap (((BitVec.ofInt k.bits a)&&& ~~~(BitVec.ofInt k.bits b)).toNat))
 | .str a,.str b=>match op with
  | .add=>.str (a++b)
  | .eql=>.bool (a==b)| .neq=>.bool (!(a==b))| .lss=>.bool (Op.bytesLess a b)| .geq=>.bool (!(Op.bytesLess a b))
  | .leq=>.bool (Op.bytesLess a b ||a==b)| .gtr=>.bool (!(Op.bytesLess a b ||a==b))
  |_=>.any
 |_,_=>.any
@[go_sem] def iT (op:BinOp):D->D->Prop
 | .int k a,.int k' b=>match op with
  | .quo=>k=k'/\b≠0
  | .rem=>k=k'/\b≠0
  | .shl=>0<=b
  | .shr=>0<=b
  |_=>k=k'
 | .str a,.str b=>match op with
  | .add=>a.length+b.length<=9223372036854775807
  | .eql=>True| .neq=>True| .lss=>True| .geq=>True| .leq=>True| .gtr=>True
  |_=>False
 |_,_=>False
@[go_sem] def D.pick (b:Bool):D->D->D
 | .bool x,.bool y=>.bool (bif b then x else y)
 |x,y=>bif b then x else y
@[go_sem] def cut (cs:List D)(o n:Nat)(ag:Bool):D:=bif ag then .agg ((cs.drop o).take n)else cs.getD o .any
@[go_sem] def mT (e:D)(k n o:Nat)(ag:Bool):D:=bif (n==k)&&(e.isAgg==ag)then e else cut e.cells o n ag
@[go_sem] def yh (m:List (Nat×bp))(n:Nat)(ag:Bool):D->D
 | .ptr l k i o=>mT ((aS m l).getD i .any) k n o ag
 | .ref k es i o=>mT (es.getD i .any) k n o ag
 | .fn _ es=>mT (es.getD 0 .any) 1 n 0 ag
 |_=>.any
@[go_sem] def Bf (m:List (Nat×bp))(n:Nat):D->Prop
 | .ptr l k i o=>eZ m l k (i+1)/\o+n<=k
 | .ref k es i o=>i<es.length/\o+n<=k
 | .fn q es=>q=3000000/\n=1/\es.length=1/\(es.getD 0 .any).cells=[es.getD 0 .any]
 |_=>False
mutual
@[go_sem] def Pz:D->D->Bool
 | .bool a,.bool b=>a==b
 | .int _ a,.int _ b=>a==b
 | .str a,.str b=>a==b
 |_,_=>false
@[go_sem] def gJ:List D->List D->Bool
 |[],[]=>true
 |a::r,b::s=>Pz a b&&gJ r s
 |_,_=>false
end
@[go_sem] def CK.fits:CK->D->Prop
 | .b,.bool _=>True
 | .i k,.int k' _=>k'=k
 | .s,.str _=>True
 |_,_=>False
@[go_sem] def gp:List CK->List D->Prop
 |[],[]=>True
 |c::r,d::s=>c.fits d/\gp r s
 |_,_=>False
@[go_sem] def over (cs:List D)(o:Nat)(new:List D):List D:=cs.take o++(new++cs.drop (o+new.length))
@[go_sem] def wM (e:D)(k n o:Nat)(v:D):D:=bif (n==k)&&(v.isAgg ||!e.isAgg)then v else .agg (over e.cells o v.cells)
@[go_sem] def vz (J:Src->bE)(cs:List D):List (Nat×Nat×Src)->List D
 |[]=>cs
 |(o,_,s)::r=>vz J (over cs o (J s).d.cells) r
@[go_sem] def xX (J:Src->bE)(len:Nat):List (Nat×Nat×Src)->Prop
 |[]=>True
 |(o,n,s)::r=>(J s).ok=true/\(J s).d.cells.length=n/\o+n<=len/\xX J len r
@[go_sem] def kI (J:Src->bE)(es:List D):List (Nat×Src)->List D
 |[]=>es
 |(i,s)::r=>kI J (es.set i (J s).d) r
@[go_sem] def qE (J:Src->bE)(k n:Nat):List (Nat×Src)->Prop
 |[]=>True
 |(i,s)::r=>i<n/\(J s).ok=true/\(J s).d.cells.length=k/\qE J k n r
@[go_sem] def D.nat:D->Nat
 | .int _ n=>n.toNat
 |_=>0
@[go_sem] def dS (o:Option D)(dflt:Nat):Nat:=match o with
 |some (.int _ n)=>n.toNat
 |_=>dflt
@[go_sem] def nr (o:Option D)(hi:Nat):Prop:=match o with
 |none=>True
 |some (.int _ n)=>0<=n/\n<=hi
 |_=>False
@[go_sem] def Ij (J:Src->bE):Option Src->Prop
 |none=>True
 |some s=>(J s).ok=true
@[go_sem] def dO (J:Src->bE):Option Src->Option D
 |none=>none
 |some s=>some (J s).d
@[go_sem] def uj (J:Src->bE):List Src->Prop
 |[]=>True
 |s::r=>(J s).ok=true/\uj J r
@[go_sem] def gV (J:Src->bE):List Src->List D
 |[]=>[]
 |s::r=>(J s).d::gV J r
@[go_sem] def D.u8:D->UInt8
 | .int _ n=>UInt8.ofNat n.toNat
 |_=>0
@[go_sem] def D.G5:D->Prop
 | .int k n=>k=.u8/\0<=n/\n<256
 |_=>False
def sx (s:List UInt8)(pos:Nat):Nat×Nat:=Utf8.decode ⟨⟨s⟩⟩ pos
def KL (n:Int):List UInt8:=(Utf8.encode n).data.toList
@[go_sem] def gL (m:List (Nat×bp)):List (List Sh)->List D->List D
 |_,[]=>[]
 |[],d::r=>iO m [.a] d::gL m [] r
 |s::ss,d::r=>iO m s d::gL m ss r
@[go_sem] def iH (m:List (Nat×bp)):List (List Sh)->List D->Prop
 |_,[]=>True
 |[],d::r=>gT m [.a] d/\iH m [] r
 |s::ss,d::r=>gT m s d/\iH m ss r
@[go_sem] def xr (s:List UInt8):List D->D
 | .str a::f::r=>bif a==s then f else xr s r
 |_=>.nilf
@[go_sem] def MS:List D->Prop
 |[]=>True
 | .str _::_::r=>MS r
 |_=>False
@[go_sem] def aC.val (Y:Ctx)(J:Src->bE)(m:List (Nat×bp))(L:Nat):aC->D
 | .mv x=>(J x).d
 | .pick c a b=>match(J c).d with| .bool t=>D.pick t (J a).d (J b).d|_=>.any
 | .box k _=>.ptr L k 0 0
 | .build z ps=>.agg (vz J z ps)
 | .bsl k _ n _=>.own L k 0 n
 | .ld n ag p=>yh m n ag (J p).d
 | .st _ _ _=>.any
 | .nilck x=>(J x).d
 | .bin op x y=>jE op (J x).d (J y).d
 | .eqA neg _ _ x y=>.bool (bif neg then !(gJ (J x).d.cells (J y).d.cells)else gJ (J x).d.cells (J y).d.cells)
 | .un op x=>match op,(J x).d with
  | .not,.bool b=>.bool (!b)
  | .neg,.int k n=>.int k (k.wrap (0-n))
  |_,_=>.any
 | .cvi k x=>match(J x).d with| .int _ n=>.int k (k.wrap n)|_=>.any
 | .mn x y=>match(J x).d,(J y).d with| .int k a,.int _ b=>.int k (if b<a then b else a)|_,_=>.any
 | .s2b x=>match(J x).d with| .str s=>.own L 1 0 s.length|_=>.any
 | .b2s x=>.str ((nY m (J x).d).map D.u8)
 | .i2s x=>match(J x).d with| .int _ n=>.str (KL n)|_=>.any
 | .mkf f caps=>.fn f (gV J caps)
 | .mks k _ ln _=>.own L k 0 (J ln).d.nat
 | .slS x lo hi=>match(J x).d with
  | .str s=>.str ((s.take (dS (dO J hi) s.length)).drop (dS (dO J lo) 0))
  |_=>.any
 | .slA _ x lo hi=>match(J x).d with
  | .sl k es=>.sl k ((es.take (dS (dO J hi) es.length)).drop (dS (dO J lo) 0))
  | .own l k i n=>.own l k (i+dS (dO J lo) 0) (dS (dO J hi) n-dS (dO J lo) 0)
  | .au=>.au
  |_=>.any
 | .slX _ x hi _=>match(J x).d,(J hi).d with
  | .sl k es,.int _ h=>.sl k (es.take h.toNat)
  | .own l k i _,.int _ h=>.own l k i h.toNat
  | .au,_=>.au
  |_,_=>.any
 | .fa off p=>match(J p).d with
  | .ptr l k i o=>.ptr l k i (o+off)
  | .ref k es i o=>.ref k es i (o+off)
  |_=>.any
 | .fld off n ag x=>cut (J x).d.cells off n ag
 | .ia _ x i=>match(J x).d,(J i).d with
  | .sl k es,.int _ n=>.ref k es n.toNat 0
  | .own l k j _,.int _ n=>.ptr l k (j+n.toNat) 0
  |_,_=>.any
 | .iaP _ k x i=>match(J x).d,(J i).d with
  | .ptr l k' j o,.int _ n=>.ptr l k' j (o+n.toNat*k)
  | .ref k' es j o,.int _ n=>.ref k' es j (o+n.toNat*k)
  |_,_=>.any
 | .ixS x i=>match(J x).d,(J i).d with
  | .str s,.int _ n=>.int .u8 (s.getD n.toNat 0).toNat
  |_,_=>.any
 | .ixA _ k ag x i=>match(J i).d with
  | .int _ n=>cut (J x).d.cells (n.toNat*k) k ag
  |_=>.any
 | .ext x i=>match(J x).d with| .tup ds=>ds.getD i .any|_=>.any
 | .len x=>match(J x).d with
  | .sl _ es=>.int .i64 es.length
  | .own _ _ _ n=>.int .i64 n
  | .au=>.int .i64 0
  |_=>.any
 | .lenS x=>match(J x).d with
  | .str s=>.int .i64 s.length
  |_=>.any
 | .app k x y=>match(J x).d with
  | .own _ _ _ n=>.own L k 0 (n+(nY m (J y).d).length)
  |_=>.own L k 0 (nY m (J y).d).length
 | .call f args sh=>Y.val f (gL m sh (gV J args))
 | .callv f args sh=>match(J f).d with
  | .fn n caps=>Y.val n (gL m sh (gV J args++caps))
  |_=>.any
 | .callM _ _=>.any
 | .callvM _ _=>.any
 | .ldU n ag p=>yh m n ag (J p).d
 | .ldI n ag p=>match(J p).d with
  | .ref k es i o=>mT (es.getD i .any) k n o ag
  | .fn _ es=>mT (es.getD 0 .any) 1 n 0 ag
  |_=>.any
 | .appN k y=>.own L k 0 (nY m (J y).d).length
 | .bslI k z n ps=>.sl k (kI J (List.replicate n z) ps)
 | .callF f r args sh=>match(J r).d with
  | .ptr l _ _ _=>Y.fv f ((aS m l).getD 0 .any) (gL [] sh (gV J args))
  |_=>.any
 | .sa _=>.it L
 | .mkB=>.ptr L 2 0 0
 | .lkp x k=>match(J x).d,(J k).d with| .fn _ es,.str s=>xr s es|_,_=>.any
 | .G4 x=>match(J x).d with| .nilf=>.bool true|_=>.bool false
 | .isNl _=>.any
 | .xe x=>match(J x).d with
  | .it l=>match look m l with
   |some (.iter s pos)=>bif decide (pos<s.length)then .tup [.bool true,.int .i64 pos,.int .i32 (sx s pos).1]else .tup [.bool false]
   |_=>.any
  |_=>.any
@[go_sem] def qx (args:List D)(r:D):Bool:=aY args ||r.eo
@[go_sem] def aC.dD (Y:Ctx)(J:Src->bE)(m:List (Nat×bp)):aC->Prop
 | .mv x=>(J x).ok=true
 | .pick c a b=>(J c).ok=true/\match(J c).d with
  | .bool t=>(t=true->(J a).ok=true)/\(t=false->(J b).ok=true)
  |_=>False
 | .box k x=>(J x).ok=true/\(J x).d.cells.length=k
 | .build z ps=>xX J z.length ps
 | .bsl k z n ps=>z.cells.length=k/\qE J k n ps
 | .ld n _ p=>(J p).ok=true/\Bf m n (J p).d
 | .st n p v=>(J p).ok=true/\(J v).ok=true/\(J v).d.cells.length=n/\match(J p).d with
  | .ptr l k i o=>eZ m l k (i+1)/\o+n<=k
  |_=>False
 | .nilck x=>(J x).ok=true/\match(J x).d with| .ptr .. =>True| .ref .. =>True|_=>False
 | .bin op x y=>(J x).ok=true/\(J y).ok=true/\iT op (J x).d (J y).d
 | .eqA _ ag ks x y=>(J x).ok=true/\(J y).ok=true/\(J x).d.isAgg=ag/\(J y).d.isAgg=ag/\gp ks (J x).d.cells/\gp ks (J y).d.cells
 | .un op x=>(J x).ok=true/\match op,(J x).d with
  | .not,.bool _=>True
  | .neg,.int _ _=>True
  |_,_=>False
 | .cvi _ x=>(J x).ok=true/\match(J x).d with| .int _ _=>True|_=>False
 | .mn x y=>(J x).ok=true/\(J y).ok=true/\match(J x).d,(J y).d with| .int _ _,.int _ _=>True|_,_=>False
 | .s2b x=>(J x).ok=true/\match(J x).d with| .str _=>True|_=>False
 | .b2s x=>(J x).ok=true/\(match(J x).d with| .str _=>False|_=>True)/\zk m 1 (J x).d/\∀e∈nY m (J x).d,e.G5
 | .i2s x=>(J x).ok=true/\match(J x).d with| .int _ _=>True|_=>False
 | .mkf _ caps=>uj J caps
 | .mks k z ln cp=>(J ln).ok=true/\(J cp).ok=true/\z.cells.length=k/\match(J ln).d,(J cp).d with
  | .int _ n,.int _ c=>0<=n/\n<=c/\c<=1073741824
  |_,_=>False
 | .slS x lo hi=>(J x).ok=true/\Ij J lo/\Ij J hi/\match(J x).d with
  | .str s=>nr (dO J hi) s.length/\nr (dO J lo) (dS (dO J hi) s.length)
  |_=>False
 | .slA k x lo hi=>(J x).ok=true/\Ij J lo/\Ij J hi/\match(J x).d with
  | .sl k' es=>k'=k/\nr (dO J hi) es.length/\nr (dO J lo) (dS (dO J hi) es.length)
  | .own _ k' _ n=>k'=k/\nr (dO J hi) n/\nr (dO J lo) (dS (dO J hi) n)
  | .au=>nr (dO J hi) 0/\nr (dO J lo) 0
  |_=>False
 | .slX k x hi mx=>(J x).ok=true/\(J hi).ok=true/\(J mx).ok=true/\match(J hi).d,(J mx).d with
  | .int _ h,.int _ m=>0<=h/\h<=m/\(match(J x).d with
    | .sl k' es=>k'=k/\m<=es.length
    | .own _ k' _ n=>k'=k/\m<=n
    | .au=>m=0
    |_=>False)
  |_,_=>False
 | .fa off p=>(J p).ok=true/\match(J p).d with| .ptr .. =>True| .ref .. =>True|_=>False
 | .fld off n ag x=>(J x).ok=true/\match(J x).d with| .agg cs=>off+n<=cs.length/\(ag=false->n=1)|_=>False
 | .ia k x i=>(J x).ok=true/\(J i).ok=true/\match(J x).d,(J i).d with
  | .sl k' es,.int _ n=>k'=k/\0<=n/\n<es.length
  | .own _ k' _ c,.int _ n=>k'=k/\0<=n/\n<c
  |_,_=>False
 | .iaP n k x i=>(J x).ok=true/\(J i).ok=true/\match(J x).d,(J i).d with
  | .ptr ..,.int _ c=>0<=c/\c<n
  | .ref ..,.int _ c=>0<=c/\c<n
  |_,_=>False
 | .ixS x i=>(J x).ok=true/\(J i).ok=true/\match(J x).d,(J i).d with
  | .str s,.int _ n=>0<=n/\n<s.length
  |_,_=>False
 | .ixA n k ag x i=>(J x).ok=true/\(J i).ok=true/\(ag=false->k=1)/\match(J x).d,(J i).d with
  | .agg cs,.int _ c=>0<=c/\c<n/\cs.length=n*k
  |_,_=>False
 | .ext x i=>(J x).ok=true/\match(J x).d with| .tup ds=>i<ds.length|_=>False
 | .len x=>(J x).ok=true/\match(J x).d with| .sl _ _=>True| .own .. =>True| .au=>True|_=>False
 | .lenS x=>(J x).ok=true/\match(J x).d with| .str _=>True|_=>False
 | .app k x y=>(J x).ok=true/\(J y).ok=true/\zk m k (J y).d/\match(J x).d with
  | .own l k' i n=>k'=k/\eZ m l k (i+n)/\n+(nY m (J y).d).length<=1073741824
  | .au=>(nY m (J y).d).length<=1073741824
  |_=>False
 | .call f args sh=>uj J args/\iH m sh (gV J args)/\Y.pre f (gL m sh (gV J args))/\qx (gV J args) (Y.val f (gL m sh (gV J args)))=true
 | .callv f args sh=>(J f).ok=true/\uj J args/\match(J f).d with
  | .fn n caps=>n<1000000/\iH m sh (gV J args++caps)/\Y.pre n (gL m sh (gV J args++caps))/\qx (gV J args++caps) (Y.val n (gL m sh (gV J args++caps)))=true
  |_=>False
 | .callM _ args=>uj J args
 | .callvM _ args=>uj J args
 | .ldU n _ p=>(J p).ok=true/\match(J p).d with
  | .ptr l k i o=>(eZ m l k (i+1)/\o+n<=k)/\aY (aS m l)=false
  | .ref k es i o=>i<es.length/\o+n<=k
  |_=>False
 | .ldI n _ p=>(J p).ok=true/\match(J p).d with
  | .ref k es i o=>i<es.length/\o+n<=k
  | .fn q es=>q=3000000/\n=1/\es.length=1/\(es.getD 0 .any).cells=[es.getD 0 .any]
  |_=>False
 | .appN k y=>(J y).ok=true/\zk m k (J y).d/\(nY m (J y).d).length<=1073741824
 | .bslI k z n ps=>z.cells.length=k/\qE J k n ps/\aY (kI J (List.replicate n z) ps)=true
 | .callF f r args sh=>(J r).ok=true/\uj J args/\aY (gV J args)=true/\match(J r).d with
  | .ptr l k i o=>i=0/\o=0/\eZ m l k 1/\(aS m l).length=1/\((aS m l).getD 0 .any).aX=true/\Y.fp f ((aS m l).getD 0 .any) (gL [] sh (gV J args))
  |_=>False
 | .sa x=>(J x).ok=true/\match(J x).d with| .str _=>True|_=>False
 | .mkB=>True
 | .lkp x k=>(J x).ok=true/\(J k).ok=true/\match(J x).d,(J k).d with
  | .fn n es,.str _=>n=2000000/\MS es
  |_,_=>False
 | .isNl _=>True
 | .G4 x=>(J x).ok=true/\match(J x).d with| .nilf=>True| .fn n _=>n<2000000|_=>False
 | .xe x=>(J x).ok=true/\match(J x).d with
  | .it l=>match look m l with
   |some (.iter _ _)=>True
   |_=>False
  |_=>False
@[go_sem] def Src.Jr:Src->Bool
 | .s _=>true
 |_=>false
@[go_sem] def aC.Aj (draw:Bool)(J:Src->bE):aC->Prop
 | .len x=>bif draw&& !x.Jr then True else(J x).ok=true->match(J x).d with
  | .sl _ es=>es.length<=9223372036854775807
  | .own _ _ _ n=>n<=9223372036854775807
  |_=>True
 | .lenS x=>bif draw&& !x.Jr then True else(J x).ok=true->match(J x).d with
  | .str s=>s.length<=9223372036854775807
  |_=>True
 |_=>True
@[go_sem] def aC.cj (Y:Ctx)(J:Src->bE)(m:List (Nat×bp))(L:Nat):aC->List (Nat×bp)
 | .box k x=>cM m L (.buf k [(J x).d])
 | .bsl k z n ps=>cM m L (.buf k (kI J (List.replicate n z) ps))
 | .mks k z ln _=>cM m L (.buf k (List.replicate (J ln).d.nat z))
 | .s2b x=>match(J x).d with
  | .str s=>cM m L (.buf 1 (s.map fun b=>.int .u8 b.toNat))
  |_=>m
 | .st n p v=>match(J p).d with
  | .ptr l k i o=>cM m l (.buf k ((aS m l).set i (wM ((aS m l).getD i .any) k n o (J v).d)))
  |_=>m
 | .app k x y=>match(J x).d with
  | .own l k' i n=>cM (cd m l) L (.buf k ((((aS m l).drop i).take n)++nY m (J y).d))
  |_=>cM m L (.buf k (nY m (J y).d))
 | .appN k y=>cM m L (.buf k (nY m (J y).d))
 | .callF f r args sh=>match(J r).d with
  | .ptr l k _ _=>cM m l (.buf k [Y.fs f ((aS m l).getD 0 .any) (gL [] sh (gV J args))])
  |_=>m
 | .sa x=>match(J x).d with
  | .str s=>cM m L (.iter s 0)
  |_=>m
 | .mkB=>cM m L (.bld none 0 false)
 | .xe x=>match(J x).d with
  | .it l=>match look m l with
   |some (.iter s pos)=>bif decide (pos<s.length)then cM m l (.iter s (pos+(sx s pos).2))else m
   |_=>m
  |_=>m
 |_=>m
@[go_sem] def cE:D->List Nat
 | .ptr l _ _ _=>[l]
 | .own l _ _ _=>[l]
 | .it l=>[l]
 |_=>[]
@[go_sem] def aC.lx (J:Src->bE):aC->Option (List Nat)
 | .ld _ _ p=>some (cE (J p).d)
 | .ldU _ _ p=>some (cE (J p).d)
 | .st _ p _=>some (cE (J p).d)
 | .b2s x=>some (cE (J x).d)
 | .app _ x y=>some (cE (J x).d++cE (J y).d)
 | .xe x=>some (cE (J x).d)
 | .call _ args _=>bif aY (gV J args)then some []else none
 | .callv f args _=>match(J f).d with
  | .fn _ caps=>bif aY (gV J args++caps)then some []else none
  |_=>none
 | .callM _ _=>none
 | .callvM _ _=>none
 | .isNl _=>none
 | .callF _ r _ _=>some (cE (J r).d)
 | .appN _ y=>some (cE (J y).d)
 |_=>some []
@[go_sem] def aC.wr (J:Src->bE)(L:Nat):aC->List Nat
 | .box .. =>[L]
 | .bsl .. =>[L]
 | .mks .. =>[L]
 | .s2b _=>[L]
 | .sa _=>[L]
 | .mkB=>[L]
 | .st _ p _=>cE (J p).d
 | .app _ x _=>L::cE (J x).d
 | .xe x=>cE (J x).d
 | .callF _ r _ _=>cE (J r).d
 | .appN .. =>[L]
 |_=>[]
@[go_sem] def aC.calm:aC->Bool
 | .st .. =>false
 | .app .. =>false
 | .xe .. =>false
 | .callM .. =>false
 | .callvM .. =>false
 | .isNl _=>false
 | .callF .. =>false
 |_=>true
@[go_sem] def flag (vs:List bE):Option (Nat×Bool)->Bool
 |none=>true
 |some (j,w)=>(vs.getD j .un).ok&&match(vs.getD j .un).d with
  | .bool b=>b==w
  |_=>false
@[go_sem] def N9 (vs:List bE)(i:aC):Option (Nat×Bool)->Prop
 |none=>True
 |some (j,_)=>i.calm=true/\((vs.getD j .un).ok=true->(vs.getD j .un).d.isBool=true)
@[go_sem] def aC.oz (draw:Bool)(g:Option (Nat×Bool))(i:aC):Bool:=!draw&&(!i.calm&&g.isSome)
@[go_sem] def ub (vs:List bE):Option (Nat×Bool)->Prop
 |none=>True
 |some (j,_)=>(vs.getD j .un).ok=true->(vs.getD j .un).d.isBool=true
@[go_sem] def nlB (d:D)(b:Bool):Prop:=match d with
 | .au=>b=true
 | .sl _ es=>b=true->es=[]
 | .own _ _ _ n=>b=true->n=0
 |_=>True
@[go_sem] def slB:D->Prop
 | .au=>True
 | .sl .. =>True
 | .own .. =>True
 |_=>False
@[go_sem] def xh (n:Nat):Nat:=if n<1000000 then n else n-1000000
@[go_sem] def vl (n:Nat)(aai caps:List D):List D:=if n<1000000 then aai++caps else caps++aai
def fe (Y:Ctx)(draw:Bool):List GI->(env vs:List bE)->St->(List bE->St->Prop)->Prop
 |[],_,vs,st,K=>K vs {st with nx:=st.nx+vs.length}
 |⟨.callM f args,g⟩::r,env,vs,st,K=>
  ub vs g/\(flag vs g=true->uj (Src.ev env vs) args/\
   Y.tr f (gV (Src.ev env vs) args) {st with nx:=st.nx+vs.length} fun d st'=>st.nx+vs.length<=st'.nx/\fe Y draw r env (vs++[⟨true,d⟩]) {st' with nx:=st'.nx-vs.length} K)/\
   (flag vs g=false->fe Y draw r env (vs++[⟨false,.any⟩]) st K)
 |⟨.callvM f args,g⟩::r,env,vs,st,K=>
  ub vs g/\(flag vs g=true->(Src.ev env vs f).ok=true/\uj (Src.ev env vs) args/\match(Src.ev env vs f).d with
   | .fn n caps=>n<2000000/\Y.tr (xh n) (vl n (gV (Src.ev env vs) args) caps) {st with nx:=st.nx+vs.length} fun d st'=>st.nx+vs.length<=st'.nx/\fe Y draw r env (vs++[⟨true,d⟩]) {st' with nx:=st'.nx-vs.length} K
   |_=>False)/\
   (flag vs g=false->fe Y draw r env (vs++[⟨false,.any⟩]) st K)
 |⟨.isNl x,g⟩::r,env,vs,st,K=>g=none/\(Src.ev env vs x).ok=true/\slB (Src.ev env vs x).d/\∀b,nlB (Src.ev env vs x).d b->fe Y draw r env (vs++[⟨true,.bool b⟩]) st K
 |⟨i,g⟩::r,env,vs,st,K=>
  if i.oz draw g=true then
   ub vs g/\(flag vs g=true->i.dD Y (Src.ev env vs) st.m/\
     fe Y draw r env (vs++[⟨true,i.val Y (Src.ev env vs) st.m (st.nx+vs.length)⟩]) {st with m:=i.cj Y (Src.ev env vs) st.m (st.nx+vs.length)} K)/\
    (flag vs g=false->fe Y draw r env (vs++[⟨false,.any⟩]) st K)
  else
  N9 vs i g/\(flag vs g=true->i.dD Y (Src.ev env vs) st.m)/\
   ((flag vs g=true->i.Aj draw (Src.ev env vs))->∃d,(flag vs g=true->i.val Y (Src.ev env vs) st.m (st.nx+vs.length)=d)/\
     fe Y draw r env (vs++[⟨flag vs g,d⟩]) {st with m:=i.cj Y (Src.ev env vs) st.m (st.nx+vs.length)} K)
mutual
@[go_sem] def hZ (l k:Nat)(es:List D):D->D
 | .own l' k' i n=>if l'=l/\k'=k/\i+n<=es.length then .sl k ((es.drop i).take n)else .own l' k' i n
 | .ptr l' k' i o=>if l'=l/\k'=k then .ref k es i o else .ptr l' k' i o
 | .agg cs=>.agg (jo l k es cs)
 | .tup cs=>.tup (jo l k es cs)
 | .fn f cs=>.fn f (jo l k es cs)
 | .any=>.any
 | .bool b=>.bool b
 | .int k n=>.int k n
 | .str s=>.str s
 | .au=>.au
 | .sl k es=>.sl k es
 | .ref k es i o=>.ref k es i o
 | .nilp=>.nilp
 | .nilf=>.nilf
 | .it l=>.it l
@[go_sem] def jo (l k:Nat)(es:List D):List D->List D
 |[]=>[]
 |d::r=>hZ l k es d::jo l k es r
end
@[go_sem] def lY (l k:Nat)(es:List D):bp->bp
 | .buf k' es'=>.buf k' (jo l k es es')
 |b=>b
@[go_sem] def kR (l k:Nat)(es:List D):List (Nat×bp)->List (Nat×bp)
 |[]=>[]
 |(a,b)::r=>(a,lY l k es b)::kR l k es r
@[go_sem] def kg (l k:Nat)(es:List D):List bE->List bE
 |[]=>[]
 |⟨ok,d⟩::r=>⟨ok,hZ l k es d⟩::kg l k es r
@[go_sem] def Ig (l:Nat)(s:List bE×List (Nat×bp)):List bE×List (Nat×bp):=match look s.2 l with
 |some (.buf k es)=>bif aY es then(kg l k es s.1,kR l k es (cd s.2 l))else s
 |_=>s
@[go_sem] def frzs:List Nat->List bE×List (Nat×bp)->List bE×List (Nat×bp)
 |[],s=>s
 |l::r,s=>frzs r (Ig l s)
inductive Ex where
 |normal|exit (id:Nat)|ret
@[go_sem] def gz (env vs:List bE):List (Nat×Nat)->List bE
 |[]=>env
 |(s,p)::r=>gz (env.set s (vs.getD p .un)) vs r
@[go_sem] def lu (lo:Nat)(σ:List (Nat×Nat))(l:Nat):Option Nat:=match σ with
 |[]=>bif Nat.blt l lo then some l else none
 |(a,b)::r=>bif Nat.beq a l then some b else lu lo r l
@[go_sem] def HP (lo:Nat)(σ:List (Nat×Nat))(l:Nat)(f:Nat->D):Option D:=match lu lo σ l with
 |some l'=>some (f l')
 |none=>none
mutual
@[go_sem] def r8 (lo:Nat)(σ:List (Nat×Nat)):D->Option D
 | .own l k i n=>HP lo σ l fun l=>.own l k i n
 | .ptr l k i o=>HP lo σ l fun l=>.ptr l k i o
 | .it l=>HP lo σ l fun l=>.it l
 | .agg cs=>match qW lo σ cs with
  |some cs=>some (.agg cs)
  |none=>none
 | .tup cs=>match qW lo σ cs with
  |some cs=>some (.tup cs)
  |none=>none
 | .fn f cs=>match qW lo σ cs with
  |some cs=>some (.fn f cs)
  |none=>none
 | .any=>some .any
 | .bool b=>some (.bool b)
 | .int k n=>some (.int k n)
 | .str s=>some (.str s)
 | .au=>some .au
 | .sl k es=>some (.sl k es)
 | .ref k es i o=>some (.ref k es i o)
 | .nilp=>some .nilp
 | .nilf=>some .nilf
@[go_sem] def qW (lo:Nat)(σ:List (Nat×Nat)):List D->Option (List D)
 |[]=>some []
 |d::r=>match r8 lo σ d,qW lo σ r with
  |some d,some r=>some (d::r)
  |_,_=>none
end
mutual
def ru:D->D->Prop
 | .au,d'=>d'=.au\/∃l k i,d'=.own l k i 0
 | .agg a,d'=>∃b,d'=.agg b/\Cv a b
 |d,d'=>d'=d/\d.aX=true
def Cv:List D->List D->Prop
 |[],b=>b=[]
 |d::r,b=>∃d' r',b=d'::r'/\ru d d'/\Cv r r'
end
def Ix (lo:Nat)(σ:List (Nat×Nat))(d d':D):Prop:=d'=d/\d.aX=true\/r8 lo σ d=some d'\/ru d d'
def pZ (lo:Nat)(σ:List (Nat×Nat)):bp->bp->Prop
 | .buf k es,.buf k' es'=>k'=k/\(es'=es/\aY es=true\/qW lo σ es=some es'\/Cv es es')
 | .iter s p,.iter s' p'=>s'=s/\p'=p
 | .row s,.row s'=>s'=s
 | .bld o n u,.bld o' n' u'=>(match o with
  |none=>o'=none
  |some l=>∃l',lu lo σ l=some l'/\o'=some l')/\n'=n/\u'=u
 |_,_=>False
def dr (lo:Nat)(σ:List (Nat×Nat)):List bE->List bE->Prop
 |[],[]=>True
 |a::r,b::s=>(b.ok=a.ok/\Ix lo σ a.d b.d\/b=.un)/\dr lo σ r s
 |_,_=>False
def bg (lo c:Nat)(σ:List (Nat×Nat))(m:List (Nat×bp)):List (Nat×bp)->Prop
 |[]=>True
 |(l',b')::r=>((∃l b,lu lo σ l=some l'/\look m l=some b/\pZ lo σ b b')\/(Nat.ble lo l'=true/\Nat.blt l' c=true/\σ.all (fun p=>!Nat.beq p.2 l')=true/\∃k,b'=.buf k []))/\bg lo c σ m r
def gN (lo c:Nat):List (Nat×Nat)->Bool
 |[]=>Nat.ble lo c
 |(a,b)::r=>(Nat.ble lo b&&(Nat.blt b c&&(r.all (fun p=>!Nat.beq p.1 a&& !Nat.beq p.2 b)&&gN lo c r)))
@[go_sem] def PN:List bE->List bE->Prop
 |[],[]=>True
 |a::r,b::s=>(b=a\/b=.un)/\PN r s
 |_,_=>False
@[go_sem] def KP (m:List (Nat×bp)):List (Nat×bp)->Prop
 |[]=>True
 |(l,b)::r=>look m l=some b/\KP m r
inductive uu:D->D->Prop
 |refl (d:D):uu d d
 |nil (k:Nat):uu .au (.sl k [])
 |agg (a b:List D) (hl:b.length=a.length) (h:∀i,uu (a.getD i .any) (b.getD i .any)):uu (.agg a) (.agg b)
 |sl (k:Nat) (a b:List D) (hl:b.length=a.length) (h:∀i,uu (a.getD i .any) (b.getD i .any)):uu (.sl k a) (.sl k b)
def D1 (a b:List D):Prop:=b.length=a.length/\∀i,uu (a.getD i .any) (b.getD i .any)
def QM:bp->bp->Prop
 | .buf k es,.buf k' es'=>k'=k/\D1 es es'
 |b,b'=>b'=b
def N1:List bE->List bE->Prop
 |[],[]=>True
 |a::r,b::s=>(b.ok=a.ok/\uu a.d b.d)/\N1 r s
 |_,_=>False
def Gm (m:List (Nat×bp)):List (Nat×bp)->Prop
 |[]=>True
 |(l,b')::r=>(∃b,look m l=some b/\QM b b')/\Gm m r
inductive aW (lo:Nat):List bE->St->List bE->St->Prop
 |refl (env:List bE) (st:St):aW lo env st env st
 |Ig (l:Nat) (env:List bE) (st:St):aW lo env st (Ig l (env,st.m)).1 ⟨st.nx,(Ig l (env,st.m)).2⟩
 |ren (σ:List (Nat×Nat)) (c:Nat) (env env':List bE) (nx:Nat) (m m':List (Nat×bp)) (h:gN lo c σ=true) (he:dr lo σ env env') (hm:bg lo c σ m m'):aW lo env ⟨nx,m⟩ env' ⟨c,m'⟩
 |wk (env env':List bE) (nx:Nat) (m m':List (Nat×bp)) (he:PN env env') (hm:KP m m'):aW lo env ⟨nx,m⟩ env' ⟨nx,m'⟩
 |nz (env env':List bE) (nx:Nat) (m m':List (Nat×bp)) (he:N1 env env') (hm:Gm m m'):aW lo env ⟨nx,m⟩ env' ⟨nx,m'⟩
 |trans (env1 env2 env3:List bE) (st1 st2 st3:St) (h:aW lo env1 st1 env2 st2) (h':aW lo env2 st2 env3 st3):aW lo env1 st1 env3 st3
def Gh (lo:Nat)(p:List bE->St->Prop)(env:List bE)(st:St):Prop:=∃env' st',aW lo env st env' st'/\p env' st'
def ca (Y:Ctx):AC->(Ex->List bE->St->Prop)->List bE->St->Prop
 | .reg draw ins cm,Q=>Gh Y.lo fun env st=>fe Y draw ins env [] st fun vs st'=>Q .normal (gz env vs cm) st'
 | .seq a b,Q=>Gh Y.lo (ca Y a (fun e env st=>match e with
   | .normal=>ca Y b Q env st
   |e=>Q e env st))
 | .cond c a b,Q=>Gh Y.lo fun env st=>(c.ev env []).ok=true/\match(c.ev env []).d with
  | .bool t=>(t=true->ca Y a Q env st)/\(t=false->ca Y b Q env st)
  |_=>False
 | .block id a,Q=>Gh Y.lo (ca Y a (fun e env st=>match e with
   | .exit j=>if j=id then Q .normal env st else Q (.exit j) env st
   |e=>Q e env st))
 | .loop a,Q=>Gh Y.lo fun env st=>∃(I:List bE->St->Prop) (μ:List bE->St->Nat),
   I env st/\∀env st,I env st->
   ca Y a (fun e env' st'=>match e with
    | .normal=>∃env2 st2,aW Y.lo env' st' env2 st2/\I env2 st2/\μ env2 st2<μ env st
    |e=>Q e env' st') env st
 | .exit id,Q=>Gh Y.lo (Q (.exit id))
 | .ret,Q=>Gh Y.lo (Q .ret)
 | .skip,Q=>Gh Y.lo (Q .normal)
def Ctx.at (Y:Ctx)(n:Nat):Ctx:={Y with lo:=n}
@[go_sem] def BM (m:List (Nat×bp))(env:List bE)(r:Cr):D:=match r.mem with
 |none=>(env.getD r.s .un).d
 |some (n,ag)=>yh m n ag (env.getD r.s .un).d
@[go_sem] def n4 (m:List (Nat×bp))(env:List bE):List Cr->Prop
 |[]=>True
 |r::rs=>(env.getD r.s .un).ok=true/\(match r.mem with
   |none=>True
   |some (n,_)=>Bf m n (env.getD r.s .un).d)/\n4 m env rs
@[go_sem] def n5 (m:List (Nat×bp))(env:List bE):List Cr->List D
 |[]=>[]
 |r::rs=>BM m env r::n5 m env rs
@[go_sem] def jQ (a:aN)(env:List bE)(st:St):D:=match a.res with
 |[r]=>BM st.m env r
 |rs=>.tup (n5 st.m env rs)
@[go_sem] def Nv (a:aN)(env:List bE)(st:St):D:=match a.res with
 |[r]=>iO st.m (a.rsh.getD 0 []) (BM st.m env r)
 |rs=>.tup (gL st.m a.rsh (n5 st.m env rs))
@[go_sem] def EK (a:aN)(env:List bE)(st:St):Prop:=match a.res with
 |[r]=>gT st.m (a.rsh.getD 0 []) (BM st.m env r)
 |rs=>iH st.m a.rsh (n5 st.m env rs)
@[go_sem] def Ex.home:Ex->Prop
 | .exit _=>False
 |_=>True
@[go_sem] def gh (a:aN)(ds:List D):List bE:=(ds.map fun d=>⟨true,d⟩)++List.replicate (a.ns-a.np) .un
mutual
def eG:Value->Option D
 | .bool b=>some (.bool b)
 | .int k n=>some (.int k n)
 | .string s=>if s.size<=9223372036854775807 then some (.str s.data.toList)else none
 | .pointer none=>some .nilp
 | .slice none 0 0=>some .au
 | .nilFunc=>some .nilf
 | .agg ⟨cs⟩=>if rD cs then(pB cs).map .agg else none
 |_=>none
def pB:List Value->Option (List D)
 |[]=>some []
 |v::r=>match eG v,pB r with
  |some d,some ds=>some (d::ds)
  |_,_=>none
def rD:List Value->Bool
 |[]=>true
 |v::r=>(match v with
  | .agg _=>false
  | .tuple _=>false
  |_=>true)&&rD r
end
def BV (P:Program):Nat->TypeId->List Sh
 |0,_=>[.a]
 |d+1,t=>match P.underlying t with
  |some (.struct fs)=>(fs.toList.map fun f=>BV P d f.type).flatten
  |some (.array n e)=>(List.replicate n (BV P d e)).flatten
  |some (.slice e)=>[.sl (P.cellsOf e) (BV P d e)]
  |some (.pointer e)=>[.pt (BV P d e)]
  |_=>[.a]
structure CC where
 P:Program
 ν:List (Nat×Nat)
 cj:List Nat
 slots:List Nat
 ntmps:Nat
 vm:Bool
def ue:List Nat->Nat->Option Nat
 |[],_=>none
 |a::r,t=>if a=t then some 0 else(ue r t).map (· +1)
def dH:List (Nat×Nat)->Nat->Option Nat
 |[],_=>none
 |(a,b)::r,l=>if a=l then some b else dH r l
def posOf (t:Nat):List (Option Nat)->Option Nat
 |[]=>none
 |a::r=>if a=some t then some 0 else(posOf t r).map (· +1)
def CC.src (C:CC)(defs:List (Option Nat)):Operand->Option Src
 | .tmp t=>match posOf t defs with
  |some p=>some (.l p)
  |none=>(ue C.slots t).map .s
 | .const v=>(eG v).map .c
 | .func f=>(dH C.ν f).map fun n=>.c (.fn n [])
 | .global _=>none
def CC.ri (C:CC)(defs:List (Option Nat)):List Operand->Option (List Src)
 |[]=>some []
 |x::r=>match C.src defs x,C.ri defs r with
  |some a,some l=>some (a::l)
  |_,_=>none
def CC.opt (C:CC)(defs:List (Option Nat)):Option Operand->Option (Option Src)
 |none=>some none
 |some x=>(C.src defs x).map some
def bM (P:Program)(t:TypeId):Bool:=match P.underlying t with
 |some (.struct _)=>true
 |some (.array ..)=>true
 |_=>false
def j7 (P:Program)(k:TypeId->Option (List CK)):Nat->List Field->Option (List CK)
 |_,[]=>some []
 |off,f::r=>if f.name= "_" \/f.offset≠off then none else
  match k f.type,j7 P k (off+P.cellsOf f.type) r with
  |some a,some b=>if a.length=P.cellsOf f.type/\a.length≠0/\(P.underlying f.type).isNone=false then some (a++b)else none
  |_,_=>none
def fu (P:Program):Nat->TypeId->Option (List CK)
 |0,_=>none
 |d+1,t=>match P.underlying t with
  |some .bool=>some [.b]
  |some (.int k)=>some [.i k]
  |some .string=>some [.s]
  |some (.struct fs)=>if P.stoodInHeld t then none else j7 P (fun t=>fu P d t) 0 fs.toList
  |some (.array n e)=>match fu P d e with
   |some l=>if l.length=P.cellsOf e/\l.length≠0/\(P.underlying e).isNone=false then some (List.replicate n l).flatten else none
   |none=>none
  |_=>none
def CC.parts (C:CC)(defs:List (Option Nat))(place:Nat->Option (Nat×Nat)):List (Nat×Operand)->Option (List (Nat×Nat×Src))
 |[]=>some []
 |(i,x)::r=>match place i,C.src defs x,C.parts defs place r with
  |some (o,n),some s,some l=>if n=0 then none else some ((o,n,s)::l)
  |_,_,_=>none
def CC.sU (C:CC)(defs:List (Option Nat)):List (Nat×Operand)->Option (List (Nat×Src))
 |[]=>some []
 |(i,x)::r=>match C.src defs x,C.sU defs r with
  |some s,some l=>some ((i,s)::l)
  |_,_=>none
def po (P:Program)(t:TypeId):Option D:=((P.info? t).bind (·.zero)).bind eG
def nj (P:Program)(t:TypeId):Bool:=match po P t with
 |some z=>z.cells.length==P.cellsOf t
 |none=>false
def CC.op (C:CC)(defs:List (Option Nat))(o:Oper):Option aC:=
 match o.op with
 | .move x=>(C.src defs x).map .mv
 | .assign x=>(C.src defs x).map .mv
 | .pick c a b=>match C.src defs c,C.src defs a,C.src defs b with
  |some c,some a,some b=>some (.pick c a b)
  |_,_,_=>none
 | .alloc t=>match po C.P t with
  |some z=>if C.P.cellsOf t=0 then none else if C.cj.contains (1000000000+t)then(match z with
   | .agg [.nilp,.au]=>some .mkB
   |_=>none)else some (.box (C.P.cellsOf t) (.c z))
  |none=>none
 | .box t x=>match C.src defs x with
  |some s=>if C.P.cellsOf t=0 then none else some (.box (C.P.cellsOf t) s)
  |none=>none
 | .build t ps=>match po C.P t,C.P.underlying t with
  |some (.agg z),some (.struct fs)=>if fs.toList.all (fun f=>(C.P.info? f.type).isSome)then(C.parts defs (fun i=>(fs[i]?).map fun f=>(f.offset,C.P.cellsOf f.type)) ps.toList).map (.build z)else none
  |some (.agg z),some (.array _ e)=>if C.P.cellsOf e=0 then none else(C.parts defs (fun i=>some (i*C.P.cellsOf e,C.P.cellsOf e)) ps.toList).map (.build z)
  |_,_=>none
 | .buildSlice t n ps=>match C.P.underlying t with
  |some (.slice e)=>match po C.P e,C.sU defs ps.toList with
   |some z,some l=>if C.P.cellsOf e=0\/n*C.P.cellsOf e>16777216 then none else some (.bsl (C.P.cellsOf e) z n l)
   |_,_=>none
  |_=>none
 | .load t a=>match C.src defs a with
  |some s=>if C.P.cellsOf t=0\/(C.P.underlying t).isNone\/(bM C.P t=false/\C.P.cellsOf t≠1)then none else some (.ld (C.P.cellsOf t) (bM C.P t) s)
  |none=>none
 | .store t a x=>match C.src defs a,C.src defs x with
  |some a,some x=>if C.P.cellsOf t=0 then none else some (.st (C.P.cellsOf t) a x)
  |_,_=>none
 | .nilCheck x=>(C.src defs x).map .nilck
 | .binOp op t x y _=>match C.src defs x,C.src defs y with
  |some a,some b=>match C.P.underlying t with
   |some (.int _)=>some (.bin op a b)
   |some .string=>some (.bin op a b)
   |_=>if C.P.eqGuardType C.P.depth t then none else match fu C.P 30 t,op with
    |some ks,.eql=>some (.eqA false (bM C.P t) ks a b)
    |some ks,.neq=>some (.eqA true (bM C.P t) ks a b)
    |none,.eql=>match C.P.underlying t,b with
     |some (.func ..),.c .nilf=>some (.G4 a)
     |some (.slice _),.c .au=>some (.isNl a)
     |_,_=>none
    |_,_=>none
  |_,_=>none
 | .unOp op _ x=>(C.src defs x).map (.un op)
 | .convert s d x=>match C.P.underlying s,C.P.underlying d,C.src defs x with
  |some (.int _),some (.int k),some a=>some (.cvi k a)
  |some (.int _),some .string,some a=>some (.i2s a)
  |some .string,some (.slice e),some a=>match C.P.underlying e with
   |some (.int .u8)=>some (.s2b a)
   |_=>none
  |some (.slice e),some .string,some a=>match C.P.underlying e with
   |some (.int .u8)=>some (.b2s a)
   |_=>none
  |_,_,_=>none
 | .makeFunc (.func f) first caps=>match dH C.ν f,C.ri defs caps.toList with
  |some n,some l=>if first.isEmpty then some (.mkf n l)else if l.isEmpty then(C.ri defs first.toList).map (.mkf (n+1000000))else none
  |_,_=>none
 | .makeSlice t l c=>match C.P.underlying t with
  |some (.slice e)=>match po C.P e,C.src defs l,C.src defs c with
   |some z,some l,some c=>if C.P.cellsOf e=0\/C.P.bytesOf e>65536 then none else some (.mks (C.P.cellsOf e) z l c)
   |_,_,_=>none
  |_=>none
 | .slice t x lo hi mx=>match C.P.underlying t,C.src defs x,C.opt defs lo,C.opt defs hi,mx with
  |some .string,some a,some l,some h,none=>some (.slS a l h)
  |some (.slice e),some a,some l,some h,none=>if C.P.cellsOf e=0 then none else some (.slA (C.P.cellsOf e) a l h)
  |some (.slice e),some a,some none,some (some h),some m=>match C.src defs m with
   |some m=>if C.P.cellsOf e=0 then none else some (.slX (C.P.cellsOf e) a h m)
   |none=>none
  |_,_,_,_,_=>none
 | .fieldAddr t x f=>match C.P.underlying t,C.src defs x with
  |some (.struct fs),some a=>match fs[f]? with
   |some f=>if C.P.cellsOf f.type=0 then none else some (.fa f.offset a)
   |none=>none
  |_,_=>none
 | .field t x f=>match C.P.underlying t,C.src defs x with
  |some (.struct fs),some a=>match fs[f]? with
   |some f=>if C.P.cellsOf f.type=0\/(C.P.underlying f.type).isNone then none else some (.fld f.offset (C.P.cellsOf f.type) (bM C.P f.type) a)
   |none=>none
  |_,_=>none
 | .indexAddr t x i=>match C.P.underlying t,C.src defs x,C.src defs i with
  |some (.slice e),some a,some b=>if C.P.cellsOf e=0 then none else some (.ia (C.P.cellsOf e) a b)
  |some (.array n e),some a,some b=>if C.P.cellsOf e=0 then none else some (.iaP n (C.P.cellsOf e) a b)
  |_,_,_=>none
 | .index t x i=>match C.P.underlying t,C.src defs x,C.src defs i with
  |some .string,some a,some b=>some (.ixS a b)
  |some (.array n e),some a,some b=>if C.P.cellsOf e=0\/(C.P.underlying e).isNone then none else some (.ixA n (C.P.cellsOf e) (bM C.P e) a b)
  |_,_,_=>none
 | .lookup t x y false=>match C.src defs x,C.src defs y,C.P.underlying t with
  |some a,some b,some (.map k e)=>match C.P.underlying k,po C.P e with
   |some .string,some .nilf=>some (.lkp a b)
   |_,_=>none
  |_,_,_=>none
 | .range t x=>match C.P.underlying t,C.src defs x with
  |some .string,some a=>some (.sa a)
  |_,_=>none
 | .next it true=>(C.src defs it).map .xe
 | .extract t i=>(C.src defs t).map fun s=>.ext s i
 | .call c=>match c.callee with
  | .builtin .len=>match c.args.toList,c.argTypes.toList with
   |[x],[t]=>match C.src defs x,C.P.underlying t with
    |some a,some .string=>some (.lenS a)
    |some a,some (.slice _)=>some (.len a)
    |_,_=>none
   |_,_=>none
  | .builtin .min=>match c.args.toList with
   |[x,y]=>match C.src defs x,C.src defs y with
    |some a,some b=>some (.mn a b)
    |_,_=>none
   |_=>none
  | .builtin .append=>match c.args.toList,c.argTypes.toList with
   |[x,y],[t,u]=>match C.src defs x,C.src defs y,C.P.underlying t,C.P.underlying u with
    |some a,some b,some (.slice e),some (.slice _)=>if C.P.cellsOf e=0\/C.P.bytesOf e>65536\/C.P.bytesOf e=0\/nj C.P e=false then none else some (.app (C.P.cellsOf e) a b)
    |some a,some b,some (.slice e),some .string=>if C.P.cellsOf e=0\/C.P.bytesOf e>65536\/C.P.bytesOf e=0\/nj C.P e=false then none else some (.app (C.P.cellsOf e) a b)
    |_,_,_,_=>none
   |_,_=>none
  | .value (.func f)=>match dH C.ν f,C.ri defs c.args.toList with
   |some n,some l=>if C.cj.contains (2*n)then some (.callM n l)else if C.cj.contains (2*n+1)then(match l with
     |r::rest=>some (.callF n r rest ((c.argTypes.toList.map (BV C.P 8)).drop 1))
     |[]=>none)else some (.call n l (c.argTypes.toList.map (BV C.P 8)))
   |_,_=>none
  | .value (.tmp t)=>match C.src defs (.tmp t),C.ri defs c.args.toList with
   |some s,some l=>if C.vm then some (.callvM s l)else some (.callv s l (c.argTypes.toList.map (BV C.P 8)))
   |_,_=>none
  |_=>none
 |_=>none
def CC.guard (defs:List (Option Nat)):Option (Nat×Bool)->Option (Option (Nat×Bool))
 |none=>some none
 |some (j,w)=>match defs[j]? with
  |some (some _)=>some (some (j,w))
  |_=>none
def CC.ops (C:CC):(defs:List (Option Nat))->List Oper->Option (List GI)
 |_,[]=>some []
 |defs,o::r=>match C.op defs o,CC.guard defs o.guard,C.ops (defs++[o.dst]) r with
  |some i,some g,some l=>if o.dst.all (fun d=>d<C.ntmps&& !defs.contains (some d))then some (⟨i,g⟩::l)else none
  |_,_,_=>none
def CC.fN (C:CC):Nat->List Oper->List (Nat×Nat)
 |_,[]=>[]
 |p,o::r=>match o.dst.bind (ue C.slots)with
  |some s=>(s,p)::C.fN (p+1) r
  |none=>C.fN (p+1) r
def nO (acc:List Nat):List Edge->Nat
 |[]=>0
 |e::r=>if Region.binds .any e then(2^e.on |||acc.getD e.on 0) |||nO acc r else nO acc r
def mN:List Nat->List Oper->List Nat
 |acc,[]=>acc
 |acc,o::r=>mN (acc++[nO acc o.after.toList]) r
def tmpsOf (ops:List Oper)(o:Oper):List Nat:=
 (o.op.operands.toList.filterMap fun
   | .tmp t=>some t
   |_=>none)++(match o.guard with
   |some (g,_)=>((ops[g]?).bind (·.dst)).toList
   |none=>[])
def EI (ops:List Oper)(bs:List Nat):Bool:=
 (List.range ops.length).all fun j=>(List.range ops.length).all fun p=>match ops[j]?,ops[p]? with
   |some oj,some op=>match op.dst with
    |some t=>p==j ||!(tmpsOf ops oj).contains t ||(bs.getD (max j p) 0).testBit (min j p)
    |none=>true
   |_,_=>false
def aC.pure:aC->Bool
 | .mv _=>true
 | .pick .. =>true
 | .build .. =>true
 | .nilck _=>true
 | .bin .. =>true
 | .eqA .. =>true
 | .un .. =>true
 | .cvi .. =>true
 | .mn .. =>true
 | .i2s _=>true
 | .mkf .. =>true
 | .slS .. =>true
 | .slA .. =>true
 | .slX .. =>true
 | .fa .. =>true
 | .fld .. =>true
 | .ia .. =>true
 | .iaP .. =>true
 | .ixS .. =>true
 | .ixA .. =>true
 | .ext .. =>true
 | .len _=>true
 | .lenS _=>true
 | .ldI .. =>true
 | .bslI .. =>true
 | .lkp .. =>true
 | .G4 _=>true
 |_=>false
def Sh.QR:Sh->Bool
 | .a=>true
 |_=>false
def aC.free:aC->Bool
 | .call _ _ sh=>sh.all fun s=>s.all Sh.QR
 |i=>i.pure
def aC.iG:aC->Bool
 | .box .. =>true
 | .bsl .. =>true
 | .mks .. =>true
 | .s2b .. =>true
 | .sa .. =>true
 | .mkB=>true
 |_=>false
def aC.isApp:aC->Bool
 | .app .. =>true
 |_=>false
def aC.kU:aC->Bool
 | .callF .. =>true
 |_=>false
def aC.rS:aC->Bool
 | .ldU .. =>true
 |_=>false
def exU (l:List GI)(gj gi:aC)(j i:Nat):Bool:=gj.kU&&(gi.rS&&(decide (i<j)&&(List.range j).all fun q=>decide (q<=i) ||match l[q]? with
 |some g=>g.i.calm ||g.i.kU
 |none=>true))
def N5 (l:List GI)(bs:List Nat):Bool:=
 (List.range l.length).all fun j=>(List.range l.length).all fun i=>match l[j]?,l[i]? with
   |some gj,some gi=>gj.i.calm ||gi.i.free ||(gi.i.iG&& !gj.i.isApp) ||i==j ||(bs.getD (max j i) 0).testBit (min j i) ||exU l gj.i gi.i j i
   |_,_=>false
def aC.cI:aC->Bool
 | .callM .. =>true
 | .callvM .. =>true
 | .isNl _=>true
 |_=>false
def ux:Nat->List Oper->Bool
 |_,[]=>true
 |p,o::r=>o.after.toList.all (fun e=>!Region.binds .any e ||decide (e.on<p))&&ux (p+1) r
def NC:GI->Bool
 |⟨.mv _,none⟩=>true
 |⟨.un ..,_⟩=>true
 |⟨.pick ..,none⟩=>true
 |_=>false
def ER:List GI->Bool
 |⟨.callM ..,_⟩::r=>r.all NC
 |⟨.callvM ..,_⟩::r=>r.all NC
 |_=>false
def Eo (l:List GI)(bs:List Nat):Bool:=
 let n:=l.findIdx fun g=>g.i.cI
 ER (l.drop n)&&((l.take n).all (fun g=>!g.i.cI)&&(List.range (l.length-n)).all fun q=>(List.range (n+q)).all fun p=>(bs.getD (n+q) 0).testBit p)
def vx (ops:List Oper)(l:List GI):Bool:=
 let bs:=mN [] ops
 EI ops bs&&(N5 l bs&&(((l.all fun g=>!g.i.cI) ||Eo l bs)&&ux 0 ops))
def aC.QB:aC->aC
 | .app k (.c .au) y=>.appN k y
 |i=>i
def looseAt (bs:List Nat)(l:List GI)(i:Nat):Bool:=
 (List.range l.length).any fun j=>match l[j]? with
   |some gj=>!(gj.i.QB.calm ||i==j ||(bs.getD (max j i) 0).testBit (min j i))
   |none=>false
def PQ (bs:List Nat)(l:List GI)(i:Nat):Bool:=
 (List.range l.length).all fun j=>match l[j]? with
   |some gj=>gj.i.QB.calm ||i==j ||(bs.getD (max j i) 0).testBit (min j i) ||(gj.i.kU&&(decide (i<j)&&(List.range j).all fun q=>decide (q<=i) ||match l[q]? with
    |some g=>g.i.QB.calm ||g.i.kU
    |none=>true))
   |none=>true
def PI (bs:List Nat)(l:List GI)(p:Nat):Bool:=
 (List.range l.length).any fun j=>match l[j]? with
   |some ⟨.ia _ (.l q) _,_⟩=>Nat.beq q p&&(List.range l.length).any fun i=>match l[i]? with
    |some ⟨.ld _ _ (.l r),_⟩=>Nat.beq r j&&looseAt bs l i
    |_=>false
   |_=>false
def kn (bs:List Nat)(l0:List GI):Nat->List GI->List GI
 |_,[]=>[]
 |p,g::r=>(match g.i with
  | .ld n ag x=>if looseAt bs l0 p then(if PQ bs l0 p then⟨.ldU n ag x,g.g⟩else⟨.ldI n ag x,g.g⟩)else g
  | .bsl k z n ps=>if PI bs l0 p then⟨.bslI k z n ps,g.g⟩else g
  |i=>⟨i.QB,g.g⟩)::kn bs l0 (p+1) r
def CC.code (C:CC):Code->Option AC
 | .skip=>some .skip
 | .region _ ops draw=>match C.ops [] ops.toList with
  |some l=>if draw then
    if vx ops.toList (kn (mN [] ops.toList) l 0 l)then some (.reg true (kn (mN [] ops.toList) l 0 l) (C.fN 0 ops.toList))else none
   else some (.reg false l (C.fN 0 ops.toList))
  |none=>none
 | .seq a b=>match C.code a,C.code b with
  |some a,some b=>some (.seq a b)
  |_,_=>none
 | .cond c a b=>match C.src [] c,C.code a,C.code b with
  |some c,some a,some b=>some (.cond c a b)
  |_,_,_=>none
 | .block id a=>(C.code a).map (.block id)
 | .loop a=>(C.code a).map .loop
 | .exit id=>some (.exit id)
 | .ret=>some .ret
 | .scope a=>C.code a
 | .label _=>some .skip
 |_=>none
def E2:(defs:List (Option Nat))->List Oper->List Nat
 |_,[]=>[]
 |defs,o::r=>(o.op.operands.toList.filterMap fun
   | .tmp t=>if(posOf t defs).isNone then some t else none
   |_=>none)++E2 (defs++[o.dst]) r
def wU:Code->List Nat
 | .region _ ops _=>E2 [] ops.toList
 | .seq a b=>wU a++wU b
 | .cond c a b=>(match c with
  | .tmp t=>[t]
  |_=>[])++wU a++wU b
 | .block _ a=>wU a
 | .loop a=>wU a
 | .scope a=>wU a
 |_=>[]
def pS:List ResultVar->List Nat
 |[]=>[]
 | .tmp t::r=>t::pS r
 | .cell t _::r=>t::pS r
def dedup:List Nat->List Nat->List Nat
 |acc,[]=>acc.reverse
 |acc,a::r=>if acc.contains a then dedup acc r else dedup (a::acc) r
def r7 (P:Program)(sl:List Nat):List ResultVar->Option (List Cr)
 |[]=>some []
 | .tmp t::r=>match ue sl t,r7 P sl r with
  |some a,some l=>some (⟨a,none⟩::l)
  |_,_=>none
 | .cell t ty::r=>match ue sl t,r7 P sl r with
  |some a,some l=>if P.cellsOf ty=0\/(P.underlying ty).isNone\/(bM P ty=false/\P.cellsOf ty≠1)then none else some (⟨a,some (P.cellsOf ty,bM P ty)⟩::l)
  |_,_=>none
def slotsOf (fn:Func):List Nat:=dedup [] (List.range (fn.params.size+fn.nfree)++pS fn.results.toList++wU (fn.body.getD .skip))
def TA (P:Program)(ops:List Oper):Bool:=ops.any fun o=>match o.op with
 | .makeFunc _ first _=>!first.isEmpty
 | .lookup t _ _ _=>(match P.underlying t with
  |some (.map _ e)=>(match P.underlying e with
   |some (.func ..)=>true
   |_=>false)
  |_=>false)
 | .call c=>(match c.callee with
  | .value (.tmp _)=>c.argTypes.toList.any fun t=>match P.underlying t with
   |some (.pointer _)=>true
   |_=>false
  |_=>false)
 |_=>false
def B7 (P:Program):Code->Bool
 | .region _ ops _=>TA P ops.toList
 | .seq a b=>B7 P a ||B7 P b
 | .cond _ a b=>B7 P a ||B7 P b
 | .block _ a=>B7 P a
 | .loop a=>B7 P a
 | .scope a=>B7 P a
 |_=>false
def H3 (P:Program)(fn:Func):Bool:=B7 P (fn.body.getD .skip)
def compile (P:Program)(ν:List (Nat×Nat))(cj:List Nat)(fn:Func):Option aN:=
 match fn.body with
 |some body=>
  match CC.code {P,ν,cj,slots:=slotsOf fn,ntmps:=fn.ntmps,vm:=H3 P fn} body,r7 P (slotsOf fn) fn.results.toList with
  |some a,some res=>
   if fn.params.size+fn.nfree<=fn.ntmps then some {np:=fn.params.size+fn.nfree,ns:=(slotsOf fn).length,res,rsh:=fn.resultTypes.toList.map (BV P 8),body:=a}else none
  |_,_=>none
 |none=>none
section
structure X where
 w:World
 I:Nat->Prop
 β:Nat->Option (Nat×Nat×Nat)
def QW (es:List MapEntry)(i:Nat):Value:=match es[i/2]? with
 |some e=>if i%2=0 then e.key else e.val
 |none=>undef
inductive RD (ν:List (Nat×Nat))(x:X):Value->D->Prop
 |any (v:Value):RD ν x v .any
 |bool (b:Bool):RD ν x (.bool b) (.bool b)
 |int (k:IntKind) (n:Int):RD ν x (.int k n) (.int k n)
 |str (s:List UInt8) (h:s.length<=maxLen):RD ν x (.string ⟨⟨s⟩⟩) (.str s)
 |agg (cs:Array Value) (ds:List D) (hl:cs.size=ds.length) (h1:∀i,i<ds.length->(cs.getD i undef).oneCell'=true)
   (h:∀i,i<ds.length->RD ν x (cs.getD i undef) (ds.getD i .any)):RD ν x (.agg cs) (.agg ds)
 |tup (cs:Array Value) (ds:List D) (hl:cs.size=ds.length)
   (h:∀i,i<ds.length->RD ν x (cs.getD i undef) (ds.getD i .any)):RD ν x (.tuple cs) (.tup ds)
 |au:RD ν x (.slice none 0 0) .au
 |sl (a:Option Addr) (b off len cap k:Nat) (es:List D) (c:Nat->Nat->Value) (hlen:len=es.length)
   (ha:es=[]\/(a=some ⟨b,off,none⟩/\x.I b)) (hcap:len<=cap) (hm:cap<=maxLen)
   (hk:∀i,i<len->(es.getD i .any).cells.length=k) (hn:∀i,i<len->(es.getD i .any).aX=true)
   (hc:∀i j,i<len->j<k->x.w.cell? ⟨b,off+i*k+j,none⟩=some (c i j))
   (h1:∀i j,i<len->j<k->(c i j).oneCell'=true)
   (h:∀i j,i<len->j<k->RD ν x (c i j) ((es.getD i .any).cells.getD j .any)):RD ν x (.slice a len cap) (.sl k es)
 |ref (b off k i o at_:Nat) (es:List D) (c:Nat->Nat->Value) (hI:x.I b) (hat:at_=off+i*k+o)
   (hk:∀i,i<es.length->(es.getD i .any).cells.length=k) (hn:∀i,i<es.length->(es.getD i .any).aX=true)
   (hc:∀i j,i<es.length->j<k->x.w.cell? ⟨b,off+i*k+j,none⟩=some (c i j))
   (h1:∀i j,i<es.length->j<k->(c i j).oneCell'=true)
   (h:∀i j,i<es.length->j<k->RD ν x (c i j) ((es.getD i .any).cells.getD j .any)):RD ν x (.pointer (some ⟨b,at_,none⟩)) (.ref k es i o)
 |ptr (l k i o b base tot at_:Nat) (hβ:x.β l=some (b,base,tot)) (hat:at_=base+i*k+o):RD ν x (.pointer (some ⟨b,at_,none⟩)) (.ptr l k i o)
 |own (l k i n b base tot cap:Nat) (a:Addr) (hβ:x.β l=some (b,base,tot)) (ha:0<cap->a=⟨b,base+i*k,none⟩)
   (hcap:n<=cap) (hm:cap<=maxLen) (ht:i+cap<=tot):RD ν x (.slice (some a) n cap) (.own l k i n)
 |own0 (l k i:Nat) (a:Option Addr):RD ν x (.slice a 0 0) (.own l k i 0)
 |nilp:RD ν x (.pointer none) .nilp
 |fn (fid n:Nat) (cs:Array Value) (ds:List D) (hν:dH ν fid=some n) (hl:cs.size=ds.length)
   (h:∀i,i<ds.length->RD ν x (cs.getD i undef) (ds.getD i .any)):RD ν x (.func (.func fid) #[] cs) (.fn n ds)
 |dS (fid n:Nat) (fs:Array Value) (ds:List D) (hν:dH ν fid=some n) (hl:fs.size=ds.length)
   (h:∀i,i<ds.length->RD ν x (fs.getD i undef) (ds.getD i .any)):RD ν x (.func (.func fid) fs #[]) (.fn (n+1000000) ds)
 |nilf:RD ν x .nilFunc .nilf
 |mp (r:Nat) (es:Array MapEntry) (cl:Nat) (ds:List D) (hI:x.I r) (hh:x.w.heap[r]? =some (.map es cl)) (hl:2*es.size=ds.length)
   (h:∀i,i<ds.length->RD ν x (QW es.toList i) (ds.getD i .any)):RD ν x (.map (some r)) (.fn 2000000 ds)
 |bx (b at_:Nat) (ds:List D) (v:Value) (hI:x.I b) (hc:x.w.cell? ⟨b,at_,none⟩=some v) (h1:v.oneCell'=true) (hl:ds.length=1)
   (h:∀i,i<ds.length->RD ν x v (ds.getD i .any)):RD ν x (.pointer (some ⟨b,at_,none⟩)) (.fn 3000000 ds)
 |it (l b base tot:Nat) (hβ:x.β l=some (b,base,tot)):RD ν x (.pointer (some ⟨b,0,none⟩)) (.it l)
section
variable {ν:List (Nat×Nat)} {x x':X}
structure Le (x x':X):Prop where
 I:∀b,x.I b->x'.I b
 lE:∀b,x.I b->x'.w.heap[b]? =x.w.heap[b]?
 β:∀l p,x.β l=some p->x'.β l=some p
theorem gW {w w':World}{b o:Nat}{v:Value}(h:w'.heap[b]? =w.heap[b]?)(hc:w.cell? ⟨b,o,none⟩=some v):w'.cell? ⟨b,o,none⟩=some v:=by
 rw[<-hc];unfold World.cell?;simp only[h]
def Le.refl (x:X):Le x x:=⟨fun _ h=>h,fun _ _=>rfl,fun _ _ h=>h⟩
def Le.trans {x'':X}(h:Le x x')(h':Le x' x''):Le x x'':=
 ⟨fun b hb=>h'.I b (h.I b hb),fun b hb=>(h'.lE b (h.I b hb)).trans (h.lE b hb),fun l p hp=>h'.β l p (h.β l p hp)⟩
def RD.mono {v:Value}{d:D}(h:RD ν x v d)(hl:Le x x'):RD ν x' v d:=by
 induction h with
 |any v=>exact .any v
 |bool b=>exact .bool b
 |int k n=>exact .int k n
 |str s h=>exact .str s h
 |agg cs ds hl' h1 _ ih=>exact .agg cs ds hl' h1 ih
 |tup cs ds hl' _ ih=>exact .tup cs ds hl' ih
 |au=>exact .au
 |sl a b off len cap k es c hlen ha hcap hm hk hn hc h1 _ ih=>
  refine .sl a b off len cap k es c hlen (ha.imp id fun⟨p,q⟩=>⟨p,hl.I _ q⟩) hcap hm hk hn (fun i j hi hj=>?_) h1 ih;rcases ha with rfl|⟨_,hI⟩
  .simp at hlen;omega
  .exact gW (hl.lE _ hI) (hc i j hi hj)
 |ref b off k i o at_ es c hI hat hk hn hc h1 _ ih=>
  exact .ref b off k i o at_ es c (hl.I _ hI) hat hk hn (fun i j hi hj=>gW (hl.lE _ hI) (hc i j hi hj)) h1 ih
 |ptr l k i o b base tot at_ hβ hat=>exact .ptr l k i o b base tot at_ (hl.β _ _ hβ) hat
 |own l k i n b base tot cap a hβ ha hcap hm ht=>exact .own l k i n b base tot cap a (hl.β _ _ hβ) ha hcap hm ht
 |own0 l k i a=>exact .own0 l k i a
 |nilp=>exact .nilp
 |fn fid n cs ds hν hl' _ ih=>exact .fn fid n cs ds hν hl' ih
 |dS fid n cs ds hν hl' _ ih=>exact .dS fid n cs ds hν hl' ih
 |nilf=>exact .nilf
 |mp r es cl ds hI hh hl' _ ih=>exact .mp r es cl ds (hl.I _ hI) ((hl.lE _ hI).trans hh) hl' ih
 |bx b at_ ds v hI hc h1 hl' _ ih=>exact .bx b at_ ds v (hl.I _ hI) (gW (hl.lE _ hI) hc) h1 hl' ih
 |it l b base tot hβ=>exact .it l b base tot (hl.β _ _ hβ)
def cB:∀{ds:List D},aY ds=true->∀i,(ds.getD i .any).aX=true
 |[],_,i=>by simp[D.aX]
 |d::r,h,0=>by simp[aY]at h;simpa using h.1
 |d::r,h,i+1=>by simp[aY]at h;simpa using cB h.2 i
def ij:∀{ds:List D},lG ds=true->∀i,(ds.getD i .any).eo=true
 |[],_,i=>by simp[D.eo]
 |d::r,h,0=>by simp[lG]at h;simpa using h.1
 |d::r,h,i+1=>by simp[lG]at h;simpa using ij h.2 i
def oM:∀{ds:List D},(∀i,i<ds.length->(ds.getD i .any).aX=true)->aY ds=true
 |[],_=>rfl
 |d::r,h=>by
  simp only[aY,bt];exact⟨by simpa using h 0 aJ,oM fun i hi=>by simpa using h (i+1) cX⟩
def jM {d:D}(h:d.aX=true)(j:Nat):(d.cells.getD j .any).aX=true:=by
 cases d<;>simp only[D.cells]<;>first
  |(simp only[D.aX]at h;exact cB h j)
  |(cases j<;>simp_all[D.aX])
def RD.aX {v:Value}{d:D}(h:RD ν x v d)(hn:d.aX=true)(hI:∀b,x.I b->x'.I b)(hk:∀b,x.I b->x'.w.heap[b]? =x.w.heap[b]?):RD ν x' v d:=by
 induction h with
 |any v=>exact .any v
 |bool b=>exact .bool b
 |int k n=>exact .int k n
 |str s h=>exact .str s h
 |agg cs ds hl' h1 _ ih=>exact .agg cs ds hl' h1 fun i hi=>ih i hi (cB (by simpa[D.aX]using hn) i)
 |tup cs ds hl' _ ih=>exact .tup cs ds hl' fun i hi=>ih i hi (cB (by simpa[D.aX]using hn) i)
 |au=>exact .au
 |sl a b off len cap k es c hlen ha hcap hm hk' hn' hc h1 _ ih=>
  refine .sl a b off len cap k es c hlen (ha.imp id fun⟨p,q⟩=>⟨p,hI _ q⟩) hcap hm hk' hn' (fun i j hi hj=>?_) h1 fun i j hi hj=>ih i j hi hj (jM (hn' i hi) j)
  grind [gW]
 |ref b off k i o at_ es c hIb hat hk' hn' hc h1 _ ih=>
  exact .ref b off k i o at_ es c (hI _ hIb) hat hk' hn' (fun i j hi hj=>gW (hk _ hIb) (hc i j hi hj)) h1 fun i j hi hj=>ih i j hi hj (jM (hn' i hi) j)
 |ptr=>simp[D.aX]at hn
 |own=>simp[D.aX]at hn
 |own0=>simp[D.aX]at hn
 |nilp=>exact .nilp
 |fn fid n cs ds hν hl' _ ih=>exact .fn fid n cs ds hν hl' fun i hi=>ih i hi (cB (by simpa[D.aX]using hn) i)
 |dS fid n cs ds hν hl' _ ih=>exact .dS fid n cs ds hν hl' fun i hi=>ih i hi (cB (by simpa[D.aX]using hn) i)
 |nilf=>exact .nilf
 |mp r es cl ds hIr hh hl' _ ih=>exact .mp r es cl ds (hI _ hIr) ((hk _ hIr).trans hh) hl' fun i hi=>ih i hi (cB (by simpa[D.aX]using hn) i)
 |bx b at_ ds v hIr hc h1 hl' _ ih=>exact .bx b at_ ds v (hI _ hIr) (gW (hk _ hIr) hc) h1 hl' fun i hi=>ih i hi (cB (by simpa[D.aX]using hn) i)
 |it=>simp[D.aX]at hn
def RD.eo {v:Value}{d:D}(h:RD ν x v d)(hn:d.eo=true):RD ν x' v d:=by
 induction h with
 |any v=>exact .any v
 |bool b=>exact .bool b
 |int k n=>exact .int k n
 |str s h=>exact .str s h
 |agg cs ds hl' h1 _ ih=>exact .agg cs ds hl' h1 fun i hi=>ih i hi (ij (by simpa[D.eo]using hn) i)
 |tup cs ds hl' _ ih=>exact .tup cs ds hl' fun i hi=>ih i hi (ij (by simpa[D.eo]using hn) i)
 |au=>exact .au
 |sl=>simp[D.eo]at hn
 |ref=>simp[D.eo]at hn
 |ptr=>simp[D.eo]at hn
 |own=>simp[D.eo]at hn
 |own0=>simp[D.eo]at hn
 |nilp=>exact .nilp
 |fn fid n cs ds hν hl' _ ih=>exact .fn fid n cs ds hν hl' fun i hi=>ih i hi (ij (by simp[D.eo]at hn;exact hn.2) i)
 |dS fid n cs ds hν hl' _ ih=>exact .dS fid n cs ds hν hl' fun i hi=>ih i hi (ij (by simp[D.eo]at hn;exact hn.2) i)
 |nilf=>exact .nilf
 |mp=>simp[D.eo]at hn
 |bx=>simp[D.eo]at hn
 |it=>simp[D.eo]at hn
theorem RD.cells {v:Value}{d:D}(h:RD ν x v d)(hd:0<d.cells.length):
  v.cells.size=d.cells.length/\∀j,j<d.cells.length->(v.cells.getD j undef).oneCell'=true/\RD ν x (v.cells.getD j undef) (d.cells.getD j .any):=by
 cases h with
 |any=>simp[D.cells]at hd
 |tup=>simp[D.cells]at hd
 |agg cs ds hl h1 h=>exact⟨hl,fun j hj=>⟨h1 j hj,h j hj⟩⟩
 |bool b=>exact⟨rfl,fun j hj=>by simp[D.cells]at hj;subst hj;exact⟨rfl,.bool b⟩⟩
 |int k n=>exact⟨rfl,fun j hj=>by simp[D.cells]at hj;subst hj;exact⟨rfl,.int k n⟩⟩
 |str s h=>exact⟨rfl,fun j hj=>by simp[D.cells]at hj;subst hj;exact⟨rfl,.str s h⟩⟩
 |au=>exact⟨rfl,fun j hj=>by simp[D.cells]at hj;subst hj;exact⟨rfl,.au⟩⟩
 |sl a b off len cap k es c hlen ha hcap hm hk hn hc h1 h=>exact⟨rfl,fun j hj=>by simp[D.cells]at hj;subst hj;exact⟨rfl,.sl a b off len cap k es c hlen ha hcap hm hk hn hc h1 h⟩⟩
 |ref b off k i o at_ es c hI hat hk hn hc h1 h=>exact⟨rfl,fun j hj=>by simp[D.cells]at hj;subst hj;exact⟨rfl,.ref b off k i o at_ es c hI hat hk hn hc h1 h⟩⟩
 |ptr l k i o b base tot at_ hβ hat=>exact⟨rfl,fun j hj=>by simp[D.cells]at hj;subst hj;exact⟨rfl,.ptr l k i o b base tot at_ hβ hat⟩⟩
 |own l k i n b base tot cap a hβ ha hcap hm ht=>exact⟨rfl,fun j hj=>by simp[D.cells]at hj;subst hj;exact⟨rfl,.own l k i n b base tot cap a hβ ha hcap hm ht⟩⟩
 |own0 l k i a=>exact⟨rfl,fun j hj=>by simp[D.cells]at hj;subst hj;exact⟨rfl,.own0 l k i a⟩⟩
 |nilp=>exact⟨rfl,fun j hj=>by simp[D.cells]at hj;subst hj;exact⟨rfl,.nilp⟩⟩
 |fn fid n cs ds hν hl h=>exact⟨rfl,fun j hj=>by simp[D.cells]at hj;subst hj;exact⟨rfl,.fn fid n cs ds hν hl h⟩⟩
 |dS fid n cs ds hν hl h=>exact⟨rfl,fun j hj=>by simp[D.cells]at hj;subst hj;exact⟨rfl,.dS fid n cs ds hν hl h⟩⟩
 |nilf=>exact⟨rfl,fun j hj=>by simp[D.cells]at hj;subst hj;exact⟨rfl,.nilf⟩⟩
 |mp r es cl ds hI hh hl h=>exact⟨rfl,fun j hj=>by simp[D.cells]at hj;subst hj;exact⟨rfl,.mp r es cl ds hI hh hl h⟩⟩
 |bx b at_ ds v hI hc h1 hl h=>exact⟨rfl,fun j hj=>by simp[D.cells]at hj;subst hj;exact⟨rfl,.bx b at_ ds v hI hc h1 hl h⟩⟩
 |it l b base tot hβ=>exact⟨rfl,fun j hj=>by simp[D.cells]at hj;subst hj;exact⟨rfl,.it l b base tot hβ⟩⟩
end
end
section
section
variable {ν:List (Nat×Nat)} {x x':X}
class cP where
 tB:TypeId:=0
 tU:TypeId:=0
 gd:X->Prop
 le:∀x x':X,(∀b,x.I b->x'.I b)->(∀b,x.I b->x'.w.heap[b]? =x.w.heap[b]?)->gd x->gd x'
variable [cP]
def mC (ν:List (Nat×Nat))(x:X)(b base tot:Nat):bp->Prop
 | .buf k es=>0<k/\es.length<=tot/\∃c T fr,x.w.heap[b]? =some (.cells c T fr)/\base+tot*k<=c.size/\
   (∀o,o<c.size->¬(fr.1<=o/\o<fr.2))/\
   ∀i,i<es.length->(es.getD i .any).cells.length=k/\∀j,j<k->
    (c.getD (base+i*k+j) undef).oneCell'=true/\RD ν x (c.getD (base+i*k+j) undef) ((es.getD i .any).cells.getD j .any)
 | .iter s pos=>x.w.heap[b]? =some (.stringIter ⟨⟨s⟩⟩ pos)/\s.length<=maxLen
 | .row s=>base=0/\∃c,x.w.heap[b]? =some (.cells c cP.tU (0,0))/\c.size=tot/\tot<=maxLen/\s.length<=tot/\∀i,i<s.length->c.getD i undef=.int .u8 (s.getD i 0).toNat
 | .bld o n u=>base=0/\∃v,x.w.heap[b]? =some (.cells #[.pointer (if u=true then some ⟨b,0,none⟩else none),v] cP.tB (0,0))/\
   match o with
   |none=>n=0/\v=.slice none 0 0
   |some l=>∃g t,v=.slice (some ⟨g,0,none⟩) n t/\n<=t/\x.β l=some (g,0,t)
def oC (h:Le x x')(hg:cP.gd x):cP.gd x':=cP.le x x' h.I h.lE hg
structure eR (ν:List (Nat×Nat))(x:X)(f:Nat->Option bp):Prop where
 own:∀l blk b base tot,f l=some blk->x.β l=some (b,base,tot)->¬x.I b/\mC ν x b base tot blk
 inj:∀l l' b base tot base' tot',f l≠none->f l'≠none->x.β l=some (b,base,tot)->x.β l'=some (b,base',tot')->l=l'
 imm:∀b,x.I b->b<x.w.heap.size
 dS:∀l b base tot,x.β l=some (b,base,tot)->b<x.w.heap.size
 gd:cP.gd x
structure Step (x x':X):Prop where
 os:x'.w.os=x.w.os
 tape:x'.w.tape=x.w.tape
 output:x'.w.output=x.w.output
 size:x.w.heap.size<=x'.w.heap.size
 I:∀b,x.I b->x'.I b
 lE:∀b,x.I b->x'.w.heap[b]? =x.w.heap[b]?
 β:∀l p,x.β l=some p->x'.β l=some p
 old:∀b,b<x.w.heap.size->(∀l p,x.β l=some p->p.1≠b)->x'.w.heap[b]? =x.w.heap[b]?
 newI:∀b,x'.I b->x.I b\/x.w.heap.size<=b\/∃l p,x.β l=some p/\p.1=b
 newβ:∀l p,x'.β l=some p->x.β l=some p\/x.w.heap.size<=p.1\/∃l' p',x.β l'=some p'/\p'.1=p.1
def Step.le (h:Step x x'):Le x x':=⟨h.I,h.lE,h.β⟩
def Step.refl (x:X):Step x x:=⟨rfl,rfl,rfl,aF _,fun _ h=>h,fun _ _=>rfl,fun _ _ h=>h,fun _ _ _=>rfl,fun _ h=>.inl h,fun _ _ h=>.inl h⟩
def Step.trans {x'':X}(h:Step x x')(h':Step x' x''):Step x x'':=by
 refine⟨h'.os.trans h.os,h'.tape.trans h.tape,h'.output.trans h.output,cC h.size h'.size,fun b hb=>h'.I b (h.I b hb),
  fun b hb=>(h'.lE b (h.I b hb)).trans (h.lE b hb),fun l p hp=>h'.β l p (h.β l p hp), ?_, ?_, ?_⟩
 .intro b hb hn;refine(h'.old b (eC hb h.size) ?_).trans (h.old b hb hn);intro l p hp e;rcases h.newβ l p hp with h1|h1|⟨l',p',h1,h2⟩
  .exact hn l p h1 e
  .omega
  .exact hn l' p' h1 (h2.trans e)
 .intro b hb;rcases h'.newI b hb with h1|h1|⟨l,p,h1,h2⟩
  .exact h.newI b h1
  .exact .inr (.inl (cC h.size h1))
  .rcases h.newβ l p h1 with h3|h3|⟨l',p',h3,h4⟩
   .exact .inr (.inr ⟨l,p,h3,h2⟩)
   .exact .inr (.inl (h2▸h3))
   .exact .inr (.inr ⟨l',p',h3,h4.trans h2⟩)
 .intro l p hp;rcases h'.newβ l p hp with h1|h1|⟨l',p',h1,h2⟩
  .exact h.newβ l p h1
  .exact .inr (.inl (cC h.size h1))
  .rcases h.newβ l' p' h1 with h3|h3|⟨l'',p'',h3,h4⟩
   .exact .inr (.inr ⟨l',p',h3,h2⟩)
   .exact .inr (.inl (h2▸h3))
   .exact .inr (.inr ⟨l'',p'',h3,h4.trans h2⟩)
def mC.mono {b base tot:Nat}{blk:bp}(h:mC ν x b base tot blk)(hl:Le x x')(hb:x'.w.heap[b]? =x.w.heap[b]?):mC ν x' b base tot blk:=by
 cases blk with
 |buf k es=>
  obtain⟨hk,ht,c,T,fr,h1,h2,h3,h4⟩:=h;exact⟨hk,ht,c,T,fr,hb.trans h1,h2,h3,fun i hi=>⟨(h4 i hi).1,fun j hj=>⟨((h4 i hi).2 j hj).1,((h4 i hi).2 j hj).2.mono hl⟩⟩⟩
 |iter s pos=>exact⟨hb.trans h.1,h.2⟩
 |row s=>
  obtain⟨h0,c,h1,h2⟩:=h;exact⟨h0,c,hb.trans h1,h2⟩
 |bld o n u=>
  obtain⟨h0,v,h1,h2⟩:=h;refine⟨h0,v,hb.trans h1, ?_⟩;cases o with
  |none=>exact h2
  |some l=>
   obtain⟨g,t,h3,h4,h5⟩:=h2;exact⟨g,t,h3,h4,hl.β _ _ h5⟩
structure fh (w w':World):Prop where
 os:w'.os=w.os
 tape:w'.tape=w.tape
 output:w'.output=w.output
 size:w.heap.size<=w'.heap.size
 old:∀b,b<w.heap.size->w'.heap[b]? =w.heap[b]?
def fh.refl (w:World):fh w w:=⟨rfl,rfl,rfl,aF _,fun _ _=>rfl⟩
def fk (w:World)(o:Obj)(b:Nat)(hb:b<w.heap.size):(w.alloc o).heap[b]? =w.heap[b]? :=by
 simp only[World.alloc,Array.getElem?_push];rw[aj ae]
def dh (w:World)(o:Obj):(w.alloc o).heap[w.heap.size]? =some o:=by show(w.heap.push o)[w.heap.size]? =some o;simp
def fh.alloc (w:World)(o:Obj):fh w (w.alloc o):=⟨rfl,rfl,rfl,aJ,fun b hb=>fk w o b hb⟩
def fh.trans {w w' w'':World}(h:fh w w')(h':fh w' w''):fh w w'':=
 ⟨h'.os.trans h.os,h'.tape.trans h.tape,h'.output.trans h.output,cC h.size h'.size,fun b hb=>(h'.old b (eC hb h.size)).trans (h.old b hb)⟩
def fh.drew (w:World):fh w w.drew:=⟨rfl,rfl,rfl,aF _,fun _ _=>rfl⟩
def Step.grow {w':World}(hw:fh x.w w')(himm:∀b,x.I b->b<x.w.heap.size):Step x ⟨w',x.I,x.β⟩:=
 ⟨hw.os,hw.tape,hw.output,hw.size,fun _ h=>h,fun b hb=>hw.old b (himm b hb),fun _ _ h=>h,fun b hb _=>hw.old b hb,fun _ h=>.inl h,fun _ _ h=>.inl h⟩
def eR.grow {f:Nat->Option bp}{w':World}(h:eR ν x f)(hw:fh x.w w'):eR ν ⟨w',x.I,x.β⟩ f:=
 ⟨fun l blk b base tot h1 h2=>⟨(h.own l blk b base tot h1 h2).1,(h.own l blk b base tot h1 h2).2.mono (Step.grow hw h.imm).le (hw.old b (h.dS l b base tot h2))⟩,
  h.inj,fun b hb=>eC (h.imm b hb) hw.size,fun l b base tot hb=>eC (h.dS l b base tot hb) hw.size,oC (Step.grow hw h.imm).le h.gd⟩
def dN (β:Nat->Option (Nat×Nat×Nat))(L:Nat)(p:Nat×Nat×Nat):Nat->Option (Nat×Nat×Nat):=fun l=>if l=L then some p else β l
def j9 (f:Nat->Option bp)(L:Nat)(b:Option bp):Nat->Option bp:=fun l=>if l=L then b else f l
def wN {w':World}{L n base tot:Nat}(hw:fh x.w w')(hn:x.w.heap.size<=n)(hL:x.β L=none)(himm:∀b,x.I b->b<x.w.heap.size):
  Step x ⟨w',x.I,dN x.β L (n,base,tot)⟩:=by
 refine⟨hw.os,hw.tape,hw.output,hw.size,fun _ h=>h,fun b hb=>hw.old b (himm b hb),fun l p hp=>?_,fun b hb _=>hw.old b hb,fun _ h=>.inl h,fun l p hp=>?_⟩
 .grind [dN]
 grind [dN]
def NB {f:Nat->Option bp}{w':World}{L n base tot:Nat}{blk:bp}(h:eR ν x f)(hw:fh x.w w')(hn:x.w.heap.size<=n)(hnw:n<w'.heap.size)(hL:x.β L=none)
  (hb:mC ν ⟨w',x.I,dN x.β L (n,base,tot)⟩ n base tot blk):eR ν ⟨w',x.I,dN x.β L (n,base,tot)⟩ (j9 f L (some blk)):=by
 have hle:=(wN (base:=base) (tot:=tot) hw hn hL h.imm).le;refine⟨fun l blk' b base' tot' h1 h2=>?_,fun l l' b base' tot' base'' tot'' h1 h1' h2 h2'=>?_,fun b hb=>eC (h.imm b hb) hw.size,fun l b base' tot' h2=>?_,oC hle h.gd⟩
 .by_cases e:l=L
  .subst e;simp only[dN,aP,aL,dn]at h2;simp only[j9,aP,aL]at h1;obtain⟨rfl,rfl,rfl⟩:=h2;subst h1;exact⟨fun hI=>by have:=h.imm _ hI;omega,hb⟩
  .simp only[dN,e,aM]at h2;simp only[j9,e,aM]at h1;obtain⟨a1,a2⟩:=h.own l blk' b base' tot' h1 h2;exact⟨a1,a2.mono hle (hw.old b (h.dS l b base' tot' h2))⟩
 .by_cases e:l=L<;>by_cases e':l'=L
  .exact e.trans e'.symm
  .simp only[dN,e,aP,aL,dn]at h2;simp only[dN,e',aM]at h2';have:=h.dS l' b base'' tot'' h2';obtain⟨h2,_,_⟩:=h2;omega
  .simp only[dN,e',aP,aL,dn]at h2';simp only[dN,e,aM]at h2;have:=h.dS l b base' tot' h2;obtain⟨h2',_,_⟩:=h2';omega
  .simp only[dN,e,aM]at h2;simp only[dN,e',aM]at h2';simp only[j9,e,aM]at h1;simp only[j9,e',aM]at h1';exact h.inj l l' b base' tot' base'' tot'' h1 h1' h2 h2'
 .by_cases e:l=L
  .simp only[dN,e,aP,aL,dn]at h2;obtain⟨h2,_,_⟩:=h2;show b<w'.heap.size;omega
  .simp only[dN,e,aM]at h2;exact eC (h.dS l b base' tot' h2) hw.size
variable {P:Program} {w:World}
def mF {t:TypeId}(h:P.cellsOf t≠0):∃i,P.info? t=some i/\i.size=P.cellsOf t:=by
 unfold Program.cellsOf at h⊢;cases hi:P.info? t with
 |none=>simp[hi]at h
 |some i=>exact⟨i,rfl,aJ⟩
def de {t:TypeId}(h:P.cellsOf t≠0):(sizeOf t).run P w=.ok (P.cellsOf t) w:=by
 obtain⟨i,hi,hs⟩:=mF h;simp[sizeOf,typeInfo,hi,hs]
def qX {t:TypeId}(h:(P.underlying t).isNone=false):(isAgg t).run P w=.ok (bM P t) w:=by
 cases hu:P.underlying t with
 |none=>simp[hu]at h
 |some d=>unfold isAgg bM;rw[Sem.run_bind,run_underlying hu w];simp only[hu,Result.andThen];cases d<;>rfl
theorem Addr.tX (b o n:Nat):(⟨b,o,none⟩:Addr).add n=⟨b,o+n,none⟩:=by unfold Addr.add;split<;>simp_all
end
end
section
variable [cP]
section
variable {ν:List (Nat×Nat)} {x:X} {f:Nat->Option bp} {P:Program}
mutual
theorem kQ:∀(v:Value) (d:D),eG v=some d->RD ν x v d
 | .bool b,d,h=>by simp[eG]at h;subst h;exact .bool b
 | .int k n,d,h=>by simp[eG]at h;subst h;exact .int k n
 | .string ⟨⟨s⟩⟩,d,h=>by
  simp only[eG]at h;split at h
  .rename_i hs;simp only[aL]at h;subst h;exact .str s (by simpa[maxLen,ByteArray.size]using hs)
  .cases h
 | .pointer none,d,h=>by simp[eG]at h;subst h;exact .nilp
 | .slice none 0 0,d,h=>by simp[eG]at h;subst h;exact .au
 | .nilFunc,d,h=>by simp[eG]at h;subst h;exact .nilf
 | .agg ⟨cs⟩,d,h=>by
  simp only[eG]at h;split at h
  .rename_i hone;cases hc:pB cs with
   |none=>simp[hc]at h
   |some ds=>
    simp[hc]at h;subst h;obtain⟨hl,hr⟩:=qh cs ds hc;refine .agg ⟨cs⟩ ds (by simpa using hl) (fun i hi=>?_) (fun i hi=>by simpa using hr i hi);have:=og cs hone i ae;simpa using this
  .cases h
 | .float _ _,d,h=>by simp[eG]at h
 | .complex _ _ _,d,h=>by simp[eG]at h
 | .pointer (some _),d,h=>by simp[eG]at h
 | .slice (some _) _ _,d,h=>by simp[eG]at h
 | .slice none (_+1) _,d,h=>by simp[eG]at h
 | .slice none 0 (_+1),d,h=>by simp[eG]at h
 | .map _,d,h=>by simp[eG]at h
 | .chan _,d,h=>by simp[eG]at h
 | .func _ _ _,d,h=>by simp[eG]at h
 | .iface _ _,d,h=>by simp[eG]at h
 | .nilIface,d,h=>by simp[eG]at h
 | .tuple _,d,h=>by simp[eG]at h
theorem qh:∀(vs:List Value) (ds:List D),pB vs=some ds->vs.length=ds.length/\∀i,i<ds.length->RD ν x (vs.getD i undef) (ds.getD i .any)
 |[],ds,h=>by simp[pB]at h;subst h;simp
 |v::r,ds,h=>by
  simp only[pB]at h;split at h
  .rename_i d ds' h1 h2;simp only[aL]at h;subst h;have a:=kQ v d h1;obtain⟨b1,b2⟩:=qh r ds' h2;refine⟨by simp[b1],fun i hi=>?_⟩;cases i with
   |zero=>simpa using a
   |succ i=>simpa using b2 i (by simpa using hi)
  .cases h
theorem og:∀(vs:List Value),rD vs=true->∀i,i<vs.length->(vs.getD i undef).oneCell'=true
 |[],_,i,hi=>by simp at hi
 |v::r,h,i,hi=>by
  simp only[rD,bt]at h;cases i with
  |zero=>simp;cases v<;>simp_all[Value.oneCell']
  |succ i=>simpa using og r h.2 i (by simpa using hi)
end
def xa (ν:List (Nat×Nat))(x:X)(f:Nat->Option bp)(L:Nat)(d:D)(r:Result Next):Prop:=
 ∃v x',(r=.ok (.value v) x'.w\/r=.ok .skip x'.w/\v=undef)/\Step x x'/\RD ν x' v d/\eR ν x' f/\∀l,l≠L->x'.β l=x.β l
def ba {L:Nat}{d:D}{v:Value}{r:Result Next}(hs:eR ν x f)(hr:r=.ok (.value v) x.w)(hd:RD ν x v d):xa ν x f L d r:=
 ⟨v,x,.inl hr,.refl x,hd,hs,fun _ _=>rfl⟩
def tn (C:CC)(defs:List (Option Nat))(J:Src->bE)(ev:Operand->Value)(x:X)(os:List Operand):Prop:=
 ∀o,o∈os->∀s,C.src defs o=some s->(J s).ok=true->RD C.ν x (ev o) (J s).d
def RD.ig {v:Value}{b:Bool}(h:RD ν x v (.bool b)):v=.bool b:=by cases h;rfl
def RD.c9 {v:Value}{k:IntKind}{n:Int}(h:RD ν x v (.int k n)):v=.int k n:=by cases h;rfl
def RD.gI {v:Value}{s:List UInt8}(h:RD ν x v (.str s)):v=.string ⟨⟨s⟩⟩/\s.length<=maxLen:=by cases h;exact⟨rfl,‹_›⟩
def RD.pick {b:Bool}{u v:Value}{d e:D}(h1:b=true->RD ν x u d)(h2:b=false->RD ν x v e):RD ν x (if b then u else v) (D.pick b d e):=by
 cases b
 .have:=h2 rfl;simp only[fX,aM];cases d<;>cases e<;>simp only[D.pick,cond_false]<;>exact this
 .have:=h1 rfl;simp only[aP];cases d<;>cases e<;>simp only[D.pick,cond_true]<;>exact this
def BP {op:BinOp}{t:TypeId}{k k':IntKind}{a b:Int}(w:World)(hb:iT op (.int k a) (.int k' b)):
  ∃v,(binOp op t (.int k a) (.int k' b)).run P w=.ok v w/\RD ν x v (jE op (.int k a) (.int k' b)):=by
 cases op<;>simp only[iT]at hb<;>simp only[binOp,jE,ne_eq]
 case shl=>exact⟨_,by simp[Op.shift,show ¬b<0 by omega],.int _ _⟩
 case shr=>exact⟨_,by simp[Op.shift,show ¬b<0 by omega],.int _ _⟩
 case quo=>obtain⟨rfl,hb⟩:=hb;exact⟨_,by simp[Op.intDiv,hb],.int _ _⟩
 case rem=>obtain⟨rfl,hb⟩:=hb;exact⟨_,by simp[Op.intDiv,hb],.int _ _⟩
 case and=>subst hb;exact⟨_,by simp[Op.intBits],.int _ _⟩
 case or=>subst hb;exact⟨_,by simp[Op.intBits],.int _ _⟩
 case xor=>subst hb;exact⟨_,by simp[Op.intBits],.int _ _⟩
 case andNot=>subst hb;exact⟨_,by simp[Op.intBits],.int _ _⟩
 case add=>subst hb;exact⟨_,by simp[Op.intArith],.int _ _⟩
 case sub=>subst hb;exact⟨_,by simp[Op.intArith],.int _ _⟩
 case mul=>subst hb;exact⟨_,by simp[Op.intArith],.int _ _⟩
 case eql=>subst hb;exact⟨_,by simp[Op.intCmp],.bool _⟩
 case neq=>subst hb;exact⟨_,by simp[Op.intCmp],.bool _⟩
 case lss=>subst hb;exact⟨_,by simp[Op.intCmp],.bool _⟩
 case leq=>subst hb;exact⟨_,by simp[Op.intCmp],.bool _⟩
 case gtr=>subst hb;exact⟨_,by simp[Op.intCmp],.bool _⟩
 case geq=>subst hb;exact⟨_,by simp[Op.intCmp],.bool _⟩
def ze (a b:List UInt8):(⟨⟨a⟩⟩:ByteArray)++⟨⟨b⟩⟩=⟨⟨a++b⟩⟩:=by
 have h:((⟨⟨a⟩⟩:ByteArray)++⟨⟨b⟩⟩).data=(⟨a++b⟩:Array UInt8):=by
  rw[ByteArray.data_append];simp
 exact ar ByteArray.mk h
def BR {op:BinOp}{t:TypeId}{a b:List UInt8}(w:World)(hb:iT op (.str a) (.str b)):
  ∃v,(binOp op t (.string ⟨⟨a⟩⟩) (.string ⟨⟨b⟩⟩)).run P w=.ok v w/\RD ν x v (jE op (.str a) (.str b)):=by
 have hs:∀l:List UInt8,(⟨⟨l⟩⟩:ByteArray).size=l.length:=fun _=>rfl
 cases op<;>simp only[iT]at hb<;>simp only[binOp,jE]
 case add=>
  refine⟨.string ⟨⟨a++b⟩⟩, ?_,.str _ (by simp[maxLen];omega)⟩;have:¬(((⟨⟨a⟩⟩:ByteArray).size+(⟨⟨b⟩⟩:ByteArray).size:Nat):Int)>IntKind.i64.max:=by
   rw[hs,hs];simp only[IntKind.max,IntKind.signed,IntKind.bits,aP];omega
  simp only[Op.stringOp,this,aM,Sem.run_pure,ze]
 all_goals
  refine⟨_,by simp only[Op.stringOp,Sem.run_pure];rfl, ?_⟩;simp only[ByteArray.toList_eq];exact .bool _
def j1 (op:BinOp)(t:TypeId)(p q:Operand){u v:Value}(h:(∀cs,u≠.agg cs)/\u≠.nilIface)(w:World):(eqGuard op t p q u v).run P w=.ok () w:=by
 obtain⟨h1,h2⟩:=h;unfold eqGuard;cases op<;>simp<;>(split<;>first|rfl|simp_all)
def dY {α:Type}(l:List α)(o n:Nat)(d:α)(j:Nat)(hj:j<n):((l.drop o).take n).getD j d=l.getD (o+j) d:=by
 grind
def hE {α:Type}(l:List α)(o n:Nat)(h:o+n<=l.length):((l.drop o).take n).length=n:=by
 simp;omega
theorem bJ (cs:Array Value)(i:Nat)(d:Value):cs.toList.getD i d=cs.getD i d:=by
 simp[List.getD,Array.getD];split<;>simp_all
def m5 {t:TypeId}{cs:Array Value}{ds:List D}{off n:Nat}{ag:Bool}(w:World)(hv:RD ν x (.agg cs) (.agg ds))(ht:P.cellsOf t≠0)(hu:(P.underlying t).isNone=false)
  (hn:n=P.cellsOf t) (hag:ag=bM P t) (hle:off+n<=ds.length) (h1:ag=false->n=1):
  ∃v,(part t cs off).run P w=.ok v w/\RD ν x v (cut ds off n ag):=by
 cases hv with
 |agg _ _ hl hone h=>
  unfold part;rw[Sem.run_bind,qX hu];subst hag;cases hb:bM P t
  .have hn1:=h1 (by rw[hb]);have hlt:off<cs.size:=ae;refine⟨cs.getD off undef, ?_, ?_⟩
   .simp[Result.andThen,Array.getElem?_eq_getElem hlt,Array.getD,hlt]
   .simp only[cut,cond_false];exact h off ae
  .refine⟨.agg (cs.extract off (off+n)), ?_, ?_⟩
   .simp[Result.andThen,de ht,hn]
   .simp only[cut,cond_true];refine .agg _ _ ?_ ?_ ?_
    .simp;omega
    .intro i hi;simp at hi;have:=hone (off+i) ae;rw[<-this];congr 1;simp[Array.getD,show off+i<cs.size by omega,show i<min (off+n) cs.size-off by omega]
    .intro i hi;simp at hi;rw[dY _ _ _ _ _ ae];have:=h (off+i) ae;have e:(cs.extract off (off+n)).getD i undef=cs.getD (off+i) undef:=by
      simp[Array.getD,show off+i<cs.size by omega,show i<min (off+n) cs.size-off by omega]
     rw[e];exact this
end
end
section
variable [cP]
section
variable {x:X} {f:Nat->Option bp} {C:CC} {defs:List (Option Nat)} {J:Src->bE} {ev:Operand->Value} {Y:Ctx} {m:List (Nat×bp)} {L:Nat}
def fU {os':List Operand}(hρ:tn C defs J ev x os'):∀(os:List Operand) (ss:List Src),(∀o∈os,o∈os')->C.ri defs os=some ss->uj J ss->
  os.length=ss.length/\(gV J ss).length=os.length/\∀i,i<(gV J ss).length->RD C.ν x ((os.map ev).getD i undef) ((gV J ss).getD i .any)
 |[],ss,_,h,_=>by simp[CC.ri]at h;subst h;simp[gV]
 |o::r,ss,hm,h,hk=>by
  simp only[CC.ri]at h;split at h
  .rename_i a l h1 h2;simp only[aL]at h;subst h;simp only[uj]at hk;obtain⟨b1,b2,b3⟩:=fU hρ r l (fun o ho=>hm o (.tail _ ho)) h2 hk.2;refine⟨by simp[b1],by simp[gV,b2],fun i hi=>?_⟩;cases i with
   |zero=>simpa[gV]using hρ o (hm o (.head _)) a h1 hk.1
   |succ i=>simpa[gV]using b3 i (by simpa[gV]using hi)
  .cases h
def vD (off:Nat):∀(new:List Value) (st:Nat) (acc:Array Value),off+st+new.length<=acc.size->
  ((new.zipIdx st).foldl (fun cs (c,j)=>cs.setIfInBounds (off+j) c) acc).size=acc.size/\
  ∀q,((new.zipIdx st).foldl (fun cs (c,j)=>cs.setIfInBounds (off+j) c) acc)[q]? =if off+st<=q/\q<off+st+new.length then new[q-(off+st)]? else acc[q]?
 |[],st,acc,_=>⟨aJ,fun q=>cX⟩
 |c::r,st,acc,hb=>by
  simp only[aH]at hb;obtain⟨h1,h2⟩:=vD off r (st+1) (acc.setIfInBounds (off+st) c) cX;refine⟨by simpa[List.zipIdx_cons]using h1,fun q=>?_⟩;rw[List.zipIdx_cons,List.foldl_cons,h2 q]
  grind
def oO {os':List Operand}(hρ:tn C defs J ev x os')(place:Nat->Option (Nat×Nat))(len:Nat):∀(ps:List (Nat×Operand)) (ss:List (Nat×Nat×Src)),
  (∀p∈ps,p.2∈os')->C.parts defs place ps=some ss->xX J len ss->∀(cs:Array Value) (ds:List D),cs.size=len->RD C.ν x (.agg cs) (.agg ds)->
  ∃cs',Instr.fill place cs (ps.map fun(i,o)=>(i,ev o))=some cs'/\RD C.ν x (.agg cs') (.agg (vz J ds ss))
 |[],ss,_,h,_,cs,ds,_,hr=>by simp[CC.parts]at h;subst h;exact⟨cs,by simp[Instr.fill],by simpa[vz]using hr⟩
 |(i,o)::r,ss,hm,h,hk,cs,ds,hlen,hr=>by
  simp only[CC.parts]at h;split at h
  .rename_i off n s l h1 h2 h3;split at h
   .cases h
   rename_i hn0;simp only[aL]at h;subst h;simp only[xX]at hk;obtain⟨k1,k2,k3,k4⟩:=hk;have hn:0<n:=ae;have hv:=hρ o (hm _ (.head _)) s h2 k1;obtain⟨c1,c2⟩:=hv.cells ae;have hsz:(ev o).cells.size=n:=ae;cases hr with
   |agg _ _ hl hone hh=>
   let cs1:Array Value:=((ev o).cells.toList.zipIdx 0).foldl (fun cs (c,j)=>cs.setIfInBounds (off+j) c) cs
   have harr:(ev o).cells.zipIdx.foldl (fun cs (c,j)=>cs.setIfInBounds (off+j) c) cs=cs1:=by
    rw[<-Array.foldl_toList];simp[cs1]
   have hcs1:=harr;obtain⟨hsz1,hgq⟩:=vD off (ev o).cells.toList 0 cs cX;have hget:∀q,q<cs.size->cs1.getD q undef=if q<off then cs.getD q undef else if q<off+n then(ev o).cells.getD (q-off) undef else cs.getD q undef:=by
    intro q hq;have:=hgq q;rw[<-bJ,<-bJ cs,<-bJ (ev o).cells];simp only[List.getD,Array.getElem?_toList];rw[show cs1[q]? =_ from this];simp only[Array.length_toList,hsz,Nat.add_zero];by_cases q1:q<off
    .rw[aw q1,aj ae]
    .rw[aj q1];by_cases q2:q<off+n
     .rw[aw q2,aw ae];simp
     .rw[aj q2,aj ae]
   have hsz1:cs1.size=cs.size:=hsz1;have hdlen:(over ds off (J s).d.cells).length=ds.length:=by simp[over];omega
   have hdget:∀q,q<ds.length->(over ds off (J s).d.cells).getD q .any=if q<off then ds.getD q .any else if q<off+n then(J s).d.cells.getD (q-off) .any else ds.getD q .any:=by
    intro q hq;simp only[over,List.getD,List.getElem?_append,fW];by_cases q1:q<off
    .rw[aw ae,aw q1];simp[List.getElem?_take,q1]
    .rw[aj ae,aj q1,show q-min off ds.length=q-off by omega];by_cases q2:q<off+n
     .rw[aw q2,aw ae]
     .rw[aj q2,aj ae];simp only[List.getElem?_drop];congr 3;omega
   have hr1:RD C.ν x (.agg cs1) (.agg (over ds off (J s).d.cells)):=by
    refine .agg _ _ ae (fun q hq=>?_) (fun q hq=>?_)
    .rw[hdlen]at hq;rw[hget q ae];split
     .exact hone q hq
     .split
      .exact(c2 (q-off) ae).1
      .exact hone q hq
    .rw[hdlen]at hq;rw[hget q ae,hdget q hq];split
     .exact hh q hq
     .split
      .exact(c2 (q-off) ae).2
      .exact hh q hq
   obtain⟨cs',g1,g2⟩:=oO hρ place len r l (fun p hp=>hm p (.tail _ hp)) h3 k4 cs1 _ ae hr1;refine⟨cs', ?_,by simpa[vz]using g2⟩;simp only[List.map_cons,Instr.fill,h1];rw[aj (by simp[hsz];omega),hcs1];exact g1
  .cases h
end
section
variable {ν:List (Nat×Nat)} {x:X} {P:Program}
def gZ:∀(ks:List CK) (ds:List D),gp ks ds->ds.length=ks.length
 |[],[],_=>rfl
 |[],_::_,h=>by simp[gp]at h
 |_::_,[],h=>by simp[gp]at h
 |c::r,d::ds,h=>by have:=gZ r ds (by simp[gp]at h;exact h.2);simp;omega
def iW:∀(a b:List CK) (ds:List D),gp (a++b) ds->gp a (ds.take a.length)/\gp b (ds.drop a.length)
 |[],b,ds,h=>by simpa[gp]using h
 |c::r,b,[],h=>by simp[gp]at h
 |c::r,b,d::ds,h=>by
  simp only[eV,gp]at h;obtain⟨h1,h2⟩:=iW r b ds h.2
  grind [gp]
def qD:∀(n:Nat) (ds es:List D),ds.length=es.length->gJ ds es=(gJ (ds.take n) (es.take n)&&gJ (ds.drop n) (es.drop n))
 |0,ds,es,_=>by simp[gJ]
 |n+1,[],[],_=>by simp[gJ]
 |n+1,[],_::_,h=>by simp at h
 |n+1,_::_,[],h=>by simp at h
 |n+1,d::ds,e::es,h=>by
  simp only[gJ,List.take_succ_cons,List.drop_succ_cons];rw[qD n ds es (by simpa using h),Bool.and_assoc]
def AV {c:CK}{d:D}(h:c.fits d):d.cells=[d]/\d.isAgg=false:=by
 cases c<;>cases d<;>simp_all[CK.fits,D.cells,D.isAgg]
def j2 {c:CK}{d:D}(h:gp [c] d.cells)(ha:d.isAgg=false):c.fits d:=by
 cases d<;>simp_all[D.cells,D.isAgg,gp]
def pC {ds:List D}{off n:Nat}{ag:Bool}{ks:List CK}(h:gp ks ((ds.drop off).take n))(hn:ag=false->n=1)(hle:off+n<=ds.length):
  (cut ds off n ag).cells=(ds.drop off).take n/\(cut ds off n ag).isAgg=ag:=by
 cases ag
 .have:=hn rfl;subst this;have hlt:off<ds.length:=ae;have e:(ds.drop off).take 1=[ds.getD off .any]:=by
   rw[jn hlt];simp[List.getD,hlt,List.take]
  rw[e]at h⊢;cases ks with
  |nil=>simp[gp]at h
  |cons c r=>
   simp only[gp]at h;exact AV h.1
 .exact⟨rfl,rfl⟩
def Cu (ν:List (Nat×Nat))(x:X)(P:Program)(n:Nat)(t:TypeId)(ks:List CK):Prop:=
 ∀u v d e (w:World),RD ν x u d->RD ν x v e->d.isAgg=bM P t->e.isAgg=bM P t->gp ks d.cells->gp ks e.cells->
  (Op.equalIn n t u v).run P w=.ok (gJ d.cells e.cells) w
def vJ {n:Nat}{t:TypeId}{ks:List CK}(h:fu P n t=some ks)(ha:bM P t=false):ks.length=1:=by
 cases n with
 |zero=>simp[fu]at h
 |succ n=>
  grind [fu,bM]
def rM (n depth:Nat)(ih:∀t ks,fu P depth t=some ks->Cu ν x P n t ks)(xs ys:Array Value)(ds es:List D)(h1:RD ν x (.agg xs) (.agg ds))(h2:RD ν x (.agg ys) (.agg es))(w:World):
  ∀(fs:List Field) (off:Nat) (ks:List CK),j7 P (fun t=>fu P depth t) off fs=some ks->off<=ds.length->off<=es.length->gp ks (ds.drop off)->gp ks (es.drop off)->
  (Op.eqFields n xs ys fs).run P w=.ok (gJ (ds.drop off) (es.drop off)) w
 |[],off,ks,hk,_,_,f1,f2=>by
  simp[j7]at hk;subst hk;have a:=gZ _ _ f1;have b:=gZ _ _ f2;have a':ds.drop off=[]:=kC a;have b':es.drop off=[]:=kC b;rw[a',b'];simp[Op.eqFields,gJ]
 |f::fs,off,ks,hk,l1,l2,f1,f2=>by
  simp only[j7]at hk;split at hk
  .cases hk
  .rename_i hne;have hname:f.name≠ "_" :=fun e=>hne (.inl e)
   have hoff:f.offset=off:=by
    rcases Nat.decEq f.offset off with h|h
    .exact absurd (.inr h) hne
    .exact h
   split at hk
   .rename_i a b ha hb;split at hk
    .rename_i hlen;obtain⟨hlen,hnz,hund⟩:=hlen;simp only[aL]at hk;subst hk;obtain⟨fa1,fb1⟩:=iW a b _ f1;obtain⟨fa2,fb2⟩:=iW a b _ f2;have la:=gZ _ _ f1;have lb:=gZ _ _ f2;simp only[pr,bA]at la lb;have hag:bM P f.type=false->P.cellsOf f.type=1:=fun e=>by rw[<-hlen];exact vJ ha e
     obtain⟨u,r1,r2⟩:=m5 (P:=P) (off:=off) (n:=P.cellsOf f.type) (ag:=bM P f.type) w h1 ae hund rfl rfl ae hag;obtain⟨v,s1,s2⟩:=m5 (P:=P) (off:=off) (n:=P.cellsOf f.type) (ag:=bM P f.type) w h2 ae hund rfl rfl ae hag;rw[hlen]at fa1 fa2 fb1 fb2;obtain⟨c1,c2⟩:=pC (ag:=bM P f.type) fa1 hag ae;obtain⟨d1,d2⟩:=pC (ag:=bM P f.type) fa2 hag ae;have he:=ih f.type a ha u v _ _ w r2 s2 c2 d2 (by rw[c1];exact fa1) (by rw[d1];exact fa2);rw[List.drop_drop]at fb1 fb2;have hrest:=rM n depth ih xs ys ds es h1 h2 w fs (off+P.cellsOf f.type) b hb ae ae fb1 fb2;rw[qD (P.cellsOf f.type) (ds.drop off) (es.drop off) cX];simp only[Op.eqFields,hname,ne_eq,not_false_eq_true,aP,Sem.run_bind,hoff,r1,s1,he,Result.andThen_ok,Sem.run_ite,hrest];rw[c1,d1,List.drop_drop,List.drop_drop];cases gJ ((ds.drop off).take (P.cellsOf f.type)) ((es.drop off).take (P.cellsOf f.type))<;>simp
    .cases hk
   .cases hk
def tx (n:Nat)(e:TypeId)(l:List CK)(ih:Cu ν x P n e l)(hc:l.length=P.cellsOf e)(hnz:l.length≠0)(hund:(P.underlying e).isNone=false)(hag:bM P e=false->P.cellsOf e=1)
  (xs ys:Array Value) (ds es:List D) (h1:RD ν x (.agg xs) (.agg ds)) (h2:RD ν x (.agg ys) (.agg es)) (w:World):
  ∀(len j:Nat),j*P.cellsOf e<=ds.length->j*P.cellsOf e<=es.length->gp (List.replicate len l).flatten (ds.drop (j*P.cellsOf e))->gp (List.replicate len l).flatten (es.drop (j*P.cellsOf e))->
  (Op.eqItems n e (P.cellsOf e) xs ys (List.range' j len)).run P w=.ok (gJ (ds.drop (j*P.cellsOf e)) (es.drop (j*P.cellsOf e))) w
 |0,j,_,_,f1,f2=>by
  have a:=gZ _ _ f1;have b:=gZ _ _ f2;have a':ds.drop (j*P.cellsOf e)=[]:=kC (by simpa using a);have b':es.drop (j*P.cellsOf e)=[]:=kC (by simpa using b);rw[a',b'];simp[Op.eqItems,gJ]
 |len+1,j,l1,l2,f1,f2=>by
  simp only[List.replicate_succ,List.flatten_cons]at f1 f2;obtain⟨fa1,fb1⟩:=iW _ _ _ f1;obtain⟨fa2,fb2⟩:=iW _ _ _ f2;have la:=gZ _ _ f1;have lb:=gZ _ _ f2;simp only[pr,bA]at la lb;have hj:(j+1)*P.cellsOf e=j*P.cellsOf e+P.cellsOf e:=Nat.succ_mul _ _;obtain⟨u,r1,r2⟩:=m5 (P:=P) (off:=j*P.cellsOf e) (n:=P.cellsOf e) (ag:=bM P e) w h1 ae hund rfl rfl ae hag;obtain⟨v,s1,s2⟩:=m5 (P:=P) (off:=j*P.cellsOf e) (n:=P.cellsOf e) (ag:=bM P e) w h2 ae hund rfl rfl ae hag;rw[hc]at fa1 fa2 fb1 fb2;obtain⟨c1,c2⟩:=pC (ag:=bM P e) fa1 hag ae;obtain⟨d1,d2⟩:=pC (ag:=bM P e) fa2 hag ae;have he:=ih u v _ _ w r2 s2 c2 d2 (by rw[c1];exact fa1) (by rw[d1];exact fa2);rw[List.drop_drop,<-hj]at fb1 fb2;have hrest:=tx n e l ih hc hnz hund hag xs ys ds es h1 h2 w len (j+1) ae ae fb1 fb2;rw[qD (P.cellsOf e) (ds.drop (j*P.cellsOf e)) (es.drop (j*P.cellsOf e)) cX];simp only[List.range'_succ,Op.eqItems,Sem.run_bind,r1,s1,he,Result.andThen_ok,Sem.run_ite,hrest];rw[c1,d1,List.drop_drop,List.drop_drop,<-hj];cases gJ ((ds.drop (j*P.cellsOf e)).take (P.cellsOf e)) ((es.drop (j*P.cellsOf e)).take (P.cellsOf e))<;>simp
def ow:∀(depth:Nat) (t:TypeId) (ks:List CK),fu P depth t=some ks->∀n,depth<=n->Cu ν x P n t ks
 |0,t,ks,h,_,_=>by simp[fu]at h
 |depth+1,t,ks,h,n,hn=>by
  obtain⟨n,rfl⟩:∃k,n=k+1:=⟨n-1,ae⟩
  intro u v d e w r1 r2 a1 a2 f1 f2;simp only[fu]at h;split at h
  .rename_i hu;simp only[aL]at h;subst h;have hag:bM P t=false:=by simp[bM,hu]
   rw[hag]at a1 a2;have g1:=j2 f1 a1;have g2:=j2 f2 a2;cases d<;>simp only[CK.fits]at g1;cases e<;>simp only[CK.fits]at g2;rw[r1.ig,r2.ig,run_equalIn_bool w n t _ _ hu];simp[D.cells,gJ,Pz]
  .rename_i k hu;simp only[aL]at h;subst h;have hag:bM P t=false:=by simp[bM,hu]
   rw[hag]at a1 a2;have g1:=j2 f1 a1;have g2:=j2 f2 a2;cases d<;>simp only[CK.fits]at g1;cases e<;>simp only[CK.fits]at g2;subst g1;subst g2;rw[r1.c9,r2.c9,run_equalIn_int w n t _ _ _ _ hu];simp[D.cells,gJ,Pz]
  .rename_i hu;simp only[aL]at h;subst h;have hag:bM P t=false:=by simp[bM,hu]
   rw[hag]at a1 a2;have g1:=j2 f1 a1;have g2:=j2 f2 a2;cases d<;>simp only[CK.fits]at g1;cases e<;>simp only[CK.fits]at g2;rw[r1.gI.1,r2.gI.1,run_equalIn_string w n t _ _ hu];simp[D.cells,gJ,Pz,ByteArray.toList_eq]
  .rename_i fs hu;split at h
   .cases h
   .rename_i hst;have hag:bM P t=true:=by simp[bM,hu]
    rw[hag]at a1 a2;cases d<;>simp only[D.isAgg,fX]at a1;cases e<;>simp only[D.isAgg,fX]at a2;have hf:P.fieldsOf t=fs:=by simp[Program.fieldsOf,hu]
    cases r1 with
    |agg xs _ p1 p2 p3=>
     cases r2 with
     |agg ys _ q1 q2 q3=>
      rw[run_equalIn_struct w n t xs ys (by rw[hf];exact hu) (by simpa using hst),hf];have:=rM (ν:=ν) (x:=x) n depth (fun t ks hk=>ow depth t ks hk n ae) xs ys _ _ (.agg xs _ p1 p2 p3) (.agg ys _ q1 q2 q3) w fs.toList 0 ks h aJ aJ (by simpa[D.cells]using f1) (by simpa[D.cells]using f2);simpa[D.cells]using this
  .rename_i len e' hu;split at h
   .rename_i l hl;split at h
    .rename_i hc;obtain⟨hc,hnz,hund⟩:=hc;simp only[aL]at h;subst h;have hag:bM P t=true:=by simp[bM,hu]
     rw[hag]at a1 a2;cases d<;>simp only[D.isAgg,fX]at a1;cases e<;>simp only[D.isAgg,fX]at a2;obtain⟨i,hi,_⟩:=mF (P:=P) (t:=e') ae;cases r1 with
     |agg xs _ p1 p2 p3=>
      cases r2 with
      |agg ys _ q1 q2 q3=>
       rw[run_equalIn_array w n xs ys hu hi,List.range_eq_range'];have:=tx (ν:=ν) (x:=x) n e' l (ow depth e' l hl n ae) hc hnz hund (fun e=>by rw[<-hc];exact vJ hl e) xs ys _ _ (.agg xs _ p1 p2 p3) (.agg ys _ q1 q2 q3) w len 0 aJ aJ (by simpa[D.cells]using f1) (by simpa[D.cells]using f2);simpa[D.cells]using this
    .cases h
   .cases h
  .cases h
end
end
section
variable [cP]
section
variable {x:X} {f:Nat->Option bp} {C:CC} {defs:List (Option Nat)} {J:Src->bE} {ev:Operand->Value} {Y:Ctx} {m:List (Nat×bp)} {L:Nat}
def y5 {t:TypeId}{z:List D}(h:po C.P t=some (.agg z)):∃i cs,C.P.info? t=some i/\i.zero=some (.agg cs)/\RD C.ν x (.agg cs) (.agg z):=by
 unfold po at h;cases hi:C.P.info? t with
 |none=>simp[hi]at h
 |some i=>
  cases hz:i.zero with
  |none=>simp[hi,hz]at h
  |some v=>
   simp only[hi,hz,Option.bind_some]at h;have hr:RD C.ν x v (.agg z):=kQ v _ h;cases v with
   |agg cs=>exact⟨i,cs,rfl,hz,hr⟩
   |_=>cases hr
def ng {t:TypeId}{z:D}(h:po C.P t=some z):∃i v,C.P.info? t=some i/\i.zero=some v/\RD C.ν x v z:=by
 unfold po at h;cases hi:C.P.info? t with
 |none=>simp[hi]at h
 |some i=>
  cases hz:i.zero with
  |none=>simp[hi,hz]at h
  |some v=>
   grind [kQ]
def tO {P:Program}(w:World):∀(fs:List Field),(∀f∈fs,(P.info? f.type).isSome=true)->
  (fs.mapM (fun f=>(do pure (f.offset,<-sizeOf f.type):Sem (Nat×Nat)))).run P w=.ok (fs.map fun f=>(f.offset,P.cellsOf f.type)) w
 |[],_=>aJ
 |f::r,h=>by
  have hf:=h f aJ;cases hi:P.info? f.type with
  |none=>simp[hi]at hf
  |some i=>
   have hr:=tO w r (fun g hg=>h g (by simp[hg]));simp only[List.mapM_cons,Sem.run_bind,run_sizeOf w hi,Result.andThen_ok,Sem.run_pure,hr];simp
def CG {op:BinOp}{d e:D}(h:iT op d e):(∃k a k' b,d=.int k a/\e=.int k' b)\/(∃a b,d=.str a/\e=.str b):=by
 cases d<;>cases e<;>first|exact .inl ⟨_,_,_,_,rfl,rfl⟩|exact .inr ⟨_,_,rfl,rfl⟩|(simp only[iT]at h)
def mP {op:BinOp}{t u:TypeId}{p q:Operand}{o:Oper}{v:Value}{w:World}{P:Program}(ho:o.op=.binOp op t p q u)(hg:(eqGuard op t p q (ev p) (ev q)).run P w=.ok () w)
  (hr:(binOp op t (ev p) (ev q)).run P w=.ok v w):(execOp ev o).run P w=.ok (.value v) w:=by
 simp[execOp,ho,hg,hr]
def zd (op:BinOp)(hop:op=.eql\/op=.neq)(t:TypeId)(xs ys:Array Value)(b:Bool)(w:World)(P:Program)(h:(Op.equalIn 10000 t (.agg xs) (.agg ys)).run P w=.ok b w):
  (binOp op t (.agg xs) (.agg ys)).run P w=.ok (.bool (if op=.neq then !b else b)) w:=by
 rcases hop with rfl|rfl
 .rw[run_eql_struct,h];rfl
 .rw[run_neq_struct,h];rfl
def Qy {a:Option Addr}{len cap k:Nat}{es:List D}{l h:Nat}(hv:RD C.ν x (.slice a len cap) (.sl k es))(h1:l<=h)(h2:h<=es.length):
  RD C.ν x (.slice (if cap=l then a else a.map (·.add (l*k))) (h-l) (cap-l)) (.sl k ((es.take h).drop l)):=by
 cases hv with
 |sl _ b off _ _ _ _ c hlen ha hcap hm hk hn hc hone hh=>
  have hl':((es.take h).drop l).length=h-l:=cX;have hg:∀i,i<h-l->((es.take h).drop l).getD i .any=es.getD (l+i) .any:=by
   intro i hi;simp[List.getD,List.getElem?_drop,List.getElem?_take,show l+i<h by omega]
  refine .sl _ b (off+l*k) (h-l) (cap-l) k _ (fun i j=>c (l+i) j) hl'.symm ?_ ae ae (fun i hi=>?_) (fun i hi=>?_) (fun i j hi hj=>?_) (fun i j hi hj=>hone _ _ ae hj) (fun i j hi hj=>?_)
  .grind [Addr.tX]
  .rw[hg i hi];exact hk _ ae
  .rw[hg i hi];exact hn _ ae
  .have:=hc (l+i) j ae hj;rw[<-this];congr 2;rw[Nat.add_mul];omega
  .rw[hg i hi];exact hh _ _ ae hj
def Qw {a:Option Addr}{len cap k:Nat}{es:List D}{h m:Nat}(hv:RD C.ν x (.slice a len cap) (.sl k es))(h1:h<=m)(h2:m<=es.length):
  RD C.ν x (.slice (if m=0 then a else a.map (·.add (0*k))) h m) (.sl k (es.take h)):=by
 cases hv with
 |sl _ b off _ _ _ _ c hlen ha hcap hm hk hn hc hone hh=>
  have hl':(es.take h).length=h:=cX;have hg:∀i,i<h->(es.take h).getD i .any=es.getD i .any:=by
   intro i hi;simp[List.getD,List.getElem?_take,hi]
  refine .sl _ b off h m k _ (fun i j=>c i j) hl'.symm ?_ h1 ae (fun i hi=>?_) (fun i hi=>?_) (fun i j hi hj=>hc i j ae hj) (fun i j hi hj=>hone _ _ ae hj) (fun i j hi hj=>?_)
  .by_cases he:h=0
   .left;exact kC ae
   .right;rw[aj ae];rcases ha with rfl|⟨rfl,hI⟩
    .simp at h2;omega
    .exact⟨by simp[Addr.add],hI⟩
  .rw[hg i hi];exact hk _ ae
  .rw[hg i hi];exact hn _ ae
  .rw[hg i hi];exact hh _ _ ae hj
def Na {v:Value}{L' k i n:Nat}(hv:RD C.ν x v (.own L' k i n)):
  ∃a cap,v=.slice a n cap/\n<=cap/\∀h m,h<=m->m<=n->RD C.ν x (.slice (if m=0 then a else a.map (·.add (0*k))) h m) (.own L' k i h):=by
 cases hv with
 |own _ _ _ _ b base tot cap a hβ ha hcap hm ht=>
  refine⟨some a,cap,rfl,hcap,fun h m h1 h2=>?_⟩;have e:(if m=0 then some a else(some a).map (·.add (0*k)))=some a:=by simp[Addr.add]
  rw[e];exact .own L' k i h b base tot m a hβ (fun hp=>ha ae) h1 ae ae
 |own0 _ _ _ a=>
  refine⟨a,0,rfl,aF _,fun h m h1 h2=>?_⟩;obtain rfl:m=0:=ae;obtain rfl:h=0:=ae;exact .own0 _ _ _ _
def qC {vh vm:Value}{kh km:IntKind}{h m:Int}{len cap:Nat}(e1:vh=.int kh h)(e2:vm=.int km m)(h0:0<=h)(h1:h<=m)(h2:m<=cap):
  (Instr.sliceBounds true len cap none (some vh) (some vm)).run C.P x.w=.ok (0,h.toNat,m.toNat) x.w:=by
 subst e1;subst e2;simp[Instr.sliceBounds,run_sliceBound x.w km m cap .slice3Acap ae h2,run_sliceBound x.w kh h m.toNat .slice3B h0 ae]
def Nb {v:Value}{L' k i n:Nat}(hv:RD C.ν x v (.own L' k i n)):
  ∃a cap,v=.slice a n cap/\n<=cap/\∀l h,l<=h->h<=n->RD C.ν x (.slice (if cap=l then a else a.map (·.add (l*k))) (h-l) (cap-l)) (.own L' k (i+l) (h-l)):=by
 cases hv with
 |own _ _ _ _ b base tot cap a hβ ha hcap hm ht=>
  refine⟨some a,cap,rfl,hcap,fun l h h1 h2=>?_⟩;have e:(if cap=l then some a else(some a).map (·.add (l*k)))=some (if cap=l then a else a.add (l*k)):=by split<;>rfl
  rw[e];refine .own L' k (i+l) (h-l) b base tot (cap-l) _ hβ (fun hp=>?_) ae ae ae
  grind [Addr.tX]
 |own0 _ _ _ a=>
  refine⟨a,0,rfl,aF _,fun l h h1 h2=>?_⟩;obtain rfl:h=0:=ae;obtain rfl:l=0:=ae;exact .own0 _ _ _ _
def xA (s:List UInt8)(l h:Nat):(⟨⟨s⟩⟩:ByteArray).extract l h=⟨⟨(s.take h).drop l⟩⟩:=by
 rw[Lib.extract_eq,List.drop_take]
def wg {lo:Option Operand}(h:C.opt defs lo=some none):lo=none:=by
 cases lo with
 |none=>rfl
 |some o=>simp[CC.opt]at h
def wh {lo:Option Operand}{s:Src}(h:C.opt defs lo=some (some s)):∃o,lo=some o/\C.src defs o=some s:=by
 cases lo with
 |none=>simp[CC.opt]at h
 |some o=>simp only[CC.opt,df,aL]at h;obtain⟨a,h1,rfl⟩:=h;exact⟨o,rfl,h1⟩
def nt {os':List Operand}(hρ:tn C defs J ev x os'){lo hi:Option Operand}(hml:∀o,lo=some o->o∈os')(hmh:∀o,hi=some o->o∈os'){l h:Option Src}(hl:C.opt defs lo=some l)(hh:C.opt defs hi=some h)(k1:Ij J l)(k2:Ij J h)(Jr:Bool)(len cap:Nat)
  (hcap:Jr=false->len=cap) (hle:len<=cap) (b2:nr (dO J h) len) (b1:nr (dO J l) (dS (dO J h) len)):
  (Instr.sliceBounds Jr len cap (lo.map ev) (hi.map ev) none).run C.P x.w=.ok (dS (dO J l) 0,dS (dO J h) len,cap) x.w/\dS (dO J l) 0<=dS (dO J h) len/\dS (dO J h) len<=len:=by
 have hh':∃code,(match hi.map ev with|some v=>Instr.sliceBound v cap code|none=>pure len:Sem Nat).run C.P x.w=.ok (dS (dO J h) len) x.w/\dS (dO J h) len<=len/\code=(if Jr then BoundsCode.sliceAcap else .sliceAlen):=by
  cases h with
  |none=>
   obtain rfl:=wg hh;exact⟨_,by simp[dO,dS],by simp[dO,dS],rfl⟩
  |some s=>
   obtain⟨o,rfl,h1⟩:=wh hh;have hv:=hρ o (hmh o rfl) s  h1 k2;simp only[dO]at b2;cases hd:(J s).d<;>simp only[hd,nr]at b2;rename_i kk n;rw[hd]at hv;refine⟨_, ?_, ?_,rfl⟩
   .simp only[Option.map_some,dO,dS,hd];rw[hv.c9,run_sliceBound x.w kk n cap _ b2.1 ae]
   .simp only[dO,dS,hd];omega
 obtain⟨code,g1,g2,rfl⟩:=hh';generalize dS (dO J h) len=B at*
 have hl':(match lo.map ev with|some v=>Instr.sliceBound v B .sliceB|none=>pure 0:Sem Nat).run C.P x.w=.ok (dS (dO J l) 0) x.w/\dS (dO J l) 0<=B:=by
  cases l with
  |none=>
   obtain rfl:=wg hl;exact⟨by simp[dO,dS],by simp[dO,dS]⟩
  |some s=>
   obtain⟨o,rfl,h1⟩:=wh hl;have hv:=hρ o (hml o rfl) s  h1 k1;simp only[dO]at b1;cases hd:(J s).d<;>simp only[hd,nr]at b1;rename_i kk n;rw[hd]at hv;refine⟨?_, ?_⟩
   .simp only[Option.map_some,dO,dS,hd];rw[hv.c9,run_sliceBound x.w kk n _ _ b1.1 b1.2]
   .simp only[dO,dS,hd];omega
 obtain⟨f1,f2⟩:=hl';refine⟨?_,f2,g2⟩;cases lo with
 |none=>
  simp only[Option.map_none,Sem.run_pure,Result.ok.injEq,bQ]at f1;cases hi with
  |none=>
   simp only[Option.map_none,Sem.run_pure,Result.ok.injEq,bQ]at g1;rw[<-f1,<-g1];simp[Instr.sliceBounds]
  |some v=>
   simp only[Option.map_some]at g1;rw[<-f1];simp[Instr.sliceBounds,g1]
 |some u=>
  have f1':(Instr.sliceBound (ev u) B .sliceB).run C.P x.w=.ok (dS (dO J l) 0) x.w:=f1;clear f1;generalize dS (dO J l) 0=A at*
  cases hi with
  |none=>
   simp only[Option.map_none,Sem.run_pure,Result.ok.injEq,bQ]at g1;subst g1;simp only[Instr.sliceBounds,Option.map_some,Option.map_none,Sem.run_bind,Sem.run_pure,Result.andThen_ok,Option.isSome_none,fX,aM,f1']
  |some v=>
   have g1':(Instr.sliceBound (ev v) cap (if Jr then BoundsCode.sliceAcap else .sliceAlen)).run C.P x.w=.ok B x.w:=g1;simp only[Instr.sliceBounds,Option.map_some,Option.map_none,Sem.run_bind,Sem.run_pure,Result.andThen_ok,Option.isSome_none,fX,aM,g1',f1']
def zB {P:Program}{t:TypeId}{ks:List CK}{d:Nat}(ha:bM P t=false)(h1:∀k,P.underlying t=some (.int k)->False)(h2:P.underlying t=some .string->False)(h:fu P (d+1) t=some ks):P.underlying t=some .bool:=by
 grind [bM,fu]
def uf {P:Program}{t:TypeId}{d:Nat}(h:P.underlying t=some .bool):fu P (d+1) t=some [.b]:=by
 unfold fu;simp[h]
def I3 {P:Program}(w:World){t:TypeId}{ps rs:Array TypeId}{vr:Bool}(h:P.underlying t=some (.func ps rs vr)):(binOp .eql t .nilFunc .nilFunc).run P w=.ok (.bool true) w/\
  ∀f a c,(binOp .eql t (.func f a c) .nilFunc).run P w=.ok (.bool false) w:=by
 have h1:∀d:Nat,(Op.equalIn (d+1) t .nilFunc .nilFunc).run P w=.ok true w:=fun d=>by simp[Op.equalIn,run_underlying h]
 have h2:∀(d:Nat) f a c,(Op.equalIn (d+1) t (.func f a c) .nilFunc).run P w=.ok false w:=fun d f a c=>by simp[Op.equalIn,run_underlying h]
 constructor
 .simp only[binOp];simp[Op.equal,Op.maxDepth,h1 9999]
 .intro f a c;simp only[binOp];simp[Op.equal,Op.maxDepth,h2 9999]
def Ec {ν:List (Nat×Nat)}{x:X}(s:List UInt8):∀(es:List MapEntry) (ds:List D) (i:Nat),MS ds->2*es.length=ds.length->(∀j,j<ds.length->RD ν x (QW es j) (ds.getD j .any))->
  ∃r,Instr.findNow .string (.string ⟨⟨s⟩⟩) es i=some r/\((∃j v,r=some (j,v)/\RD ν x v (xr s ds))\/(r=none/\xr s ds=.nilf))
 |[],[],_,_,_,_=>⟨none,rfl,.inr ⟨rfl,rfl⟩⟩
 |e::es,.str a::f::r,i,ho,hl,h=>by
  have h0:=h 0 aJ;have h1:=h 1 aJ;simp only[QW,fY,List.getD_cons_succ,Nat.zero_div,List.getElem?_cons_zero]at h0 h1;have hk:e.key=.string ⟨⟨a⟩⟩:=by
   have h2:RD ν x e.key (.str a):=h0;exact h2.gI.1
  have h1':RD ν x e.val f:=h1;simp only[Instr.findNow,hk,Instr.sameNow,xr];by_cases ha:a=s
  .subst ha;rw[((MapKept.bytes_beq _ _).2 rfl:((⟨⟨a⟩⟩:ByteArray)==⟨⟨a⟩⟩)=true),beq_self_eq_true,cond_true];exact⟨_,rfl,.inl ⟨_,_,rfl,h1'⟩⟩
  .have e1:((⟨⟨s⟩⟩:ByteArray)==⟨⟨a⟩⟩)=false:=by
    cases hb:((⟨⟨s⟩⟩:ByteArray)==⟨⟨a⟩⟩)with
    |false=>rfl
    |true=>
     have hh:=(MapKept.bytes_beq _ _).1 hb;injection hh with hh
     injection hh with hh
     exact absurd hh.symm ha
   have e2:(a==s)=false:=beq_eq_false_iff_ne.2 ha;rw[e1,e2];simp only[cond_false];refine Ec s es r (i+1) ho (by simp only[aH]at hl;omega) fun j hj=>?_
   have:=h (j+2) (by simp only[aH];omega);have e3:QW (e::es) (j+2)=QW es j:=by
    unfold QW;rw[show(j+2) /2=j/2+1 by omega,List.getElem?_cons_succ,show(j+2)%2=j%2 by omega]
   rw[e3]at this;simpa using this
 |_::_,[],_,_,hl,_=>by simp at hl
 |[],_::_,_,_,hl,_=>by simp at hl
 |_::es,[_],_,ho,hl,_=>by simp at hl;omega
def M6 {o:Oper}{i:aC}(hcst:∀d,J (.c d)=⟨true,d⟩)(hsm:∀fid n,dH C.ν fid=some n->n<1000000)(hc:C.op defs o=some i)(hp:i.pure=true)(hρ:tn C defs J ev x o.op.operands.toList)(hob:i.dD Y J m)(hs:eR C.ν x f):
  xa C.ν x f L (i.val Y J m L) ((execOp ev o).run C.P x.w):=by
 cases ho:o.op with
 |move p=>
  simp only[CC.op,ho,df]at hc;obtain⟨s,h1,rfl⟩:=hc;exact ba hs (by simp[execOp,ho]) (hρ p (by simp[ho,Op.operands,Call.operands]) s h1 hob)
 |assign p=>
  simp only[CC.op,ho,df]at hc;obtain⟨s,h1,rfl⟩:=hc;exact ba hs (by simp[execOp,ho]) (hρ p (by simp[ho,Op.operands,Call.operands]) s h1 hob)
 |pick c a b=>
  simp only[CC.op,ho]at hc;split at hc
  .rename_i c' a' b' h1 h2 h3;simp only[aL]at hc;subst hc;obtain⟨k1,k2⟩:=hob;have hcv:=hρ c (by simp[ho,Op.operands,Call.operands]) c' h1 k1;cases hd:(J c').d<;>simp only[hd]at k2;rename_i t;rw[hd]at hcv;simp only[aC.val,hd];refine ba hs ?_ (RD.pick (fun ht=>hρ a (by simp[ho,Op.operands,Call.operands]) a' h2 (k2.1 ht)) (fun ht=>hρ b (by simp[ho,Op.operands,Call.operands]) b' h3 (k2.2 ht)));simp[execOp,ho,hcv.ig,asBool]
  .cases hc
 |build t ps=>
  simp only[CC.op,ho]at hc;split at hc
  .rename_i z fs hz hu;split at hc;rotate_left
   .cases hc
   rename_i hplaces;simp only[df]at hc;obtain⟨ss,h1,rfl⟩:=hc;obtain⟨ti,cs,hi,hzv,hr⟩:=y5 (x:=x) hz;have hsz:cs.size=z.length:=by cases hr with|agg _ _ hl _ _=>exact hl
   obtain⟨cs',g1,g2⟩:=oO hρ _ z.length ps.toList ss (fun p hp=>by simp only[ho,Op.operands,eW];exact⟨p,hp,rfl⟩) h1 hob cs z hsz hr;refine ba hs ?_ g2;have hpl:=tO (P:=C.P) x.w fs.toList (fun f hf=>(List.all_eq_true.1 hplaces) f hf);have hpl':(fs.mapM (fun f:Field=>(do pure (f.offset,<-sizeOf f.type):Sem (Nat×Nat)))).run C.P x.w=.ok (fs.map fun f:Field=>(f.offset,C.P.cellsOf f.type)) x.w:=by
    rw[Array.mapM_eq_mapM_toList,Sem.run_map,hpl];simp[Result.andThen,List.map_toArray];apply Array.ext';simp
   have hg:Instr.fill (fun i:Nat=>(fs.map fun f:Field=>(f.offset,C.P.cellsOf f.type))[i]?) cs (ps.map fun(i,o)=>(i,ev o)).toList=some cs':=by
    have e:(fun i:Nat=>(fs.map fun f:Field=>(f.offset,C.P.cellsOf f.type))[i]?)=(fun i=>(fs[i]?).map fun f:Field=>(f.offset,C.P.cellsOf f.type)):=by
     funext q;simp
    rw[e,Array.toList_map];exact g1
   simp only[execOp,ho,Instr.build,Sem.run_bind,zeroValue,run_typeInfo x.w hi,Result.andThen_ok,hzv,Sem.run_pure,run_underlying hu,hpl',Value.cells,hg]
  .rename_i z n e hz hu;split at hc
   .cases hc
   rename_i hce;simp only[df]at hc;obtain⟨ss,h1,rfl⟩:=hc;obtain⟨ti,cs,hi,hzv,hr⟩:=y5 (x:=x) hz;have hsz:cs.size=z.length:=by cases hr with|agg _ _ hl _ _=>exact hl
   obtain⟨cs',g1,g2⟩:=oO hρ _ z.length ps.toList ss (fun p hp=>by simp only[ho,Op.operands,eW];exact⟨p,hp,rfl⟩) h1 hob cs z hsz hr;refine ba hs ?_ g2;have hg:Instr.fill (fun i=>some (i*C.P.cellsOf e,C.P.cellsOf e)) cs (ps.map fun(i,o)=>(i,ev o)).toList=some cs':=by
    rw[Array.toList_map];exact g1
   simp only[execOp,ho,Instr.build,Sem.run_bind,zeroValue,run_typeInfo x.w hi,Result.andThen_ok,hzv,Sem.run_pure,run_underlying hu,de hce,Value.cells,hg]
  .cases hc
 |nilCheck p=>
  simp only[CC.op,ho,df]at hc;obtain⟨s,h1,rfl⟩:=hc;obtain⟨k1,k2⟩:=hob;have hv:=hρ p (by simp[ho,Op.operands,Call.operands]) s h1 k1;refine ba hs ?_ hv;cases hd:(J s).d<;>simp only[hd]at k2<;>rw[hd]at hv<;>generalize he:ev p=vp at hv<;>cases hv<;>simp[execOp,ho,he]
 |binOp op t p q u=>
  simp only[CC.op,ho]at hc;split at hc
  .rename_i a b h1 h2;have hbin:∀(i':aC),i'=.bin op a b->i'.dD Y J m->xa C.ν x f L (i'.val Y J m L) ((execOp ev o).run C.P x.w):=by
    rintro _ rfl ⟨k1,k2,k3⟩;have hv:=hρ p (by simp[ho,Op.operands,Call.operands]) a h1 k1;have hw:=hρ q (by simp[ho,Op.operands,Call.operands]) b h2 k2;rcases CG k3 with⟨kk,n,kk',n',e1,e2⟩|⟨s,s',e1,e2⟩
    .rw[e1]at hv k3;rw[e2]at hw k3;obtain⟨v,r1,r2⟩:=BP (ν:=C.ν) (x:=x) (P:=C.P) (t:=t) x.w k3;refine ba hs (mP ho (j1 _ _ _ _ (by rw[hv.c9];exact⟨aJ,aJ⟩) _) (by rw[hv.c9,hw.c9];exact r1)) ?_;simp only[aC.val,e1,e2];exact r2
    .rw[e1]at hv k3;rw[e2]at hw k3;obtain⟨v,r1,r2⟩:=BR (ν:=C.ν) (x:=x) (P:=C.P) (t:=t) x.w k3;refine ba hs (mP ho (j1 _ _ _ _ (by rw[hv.gI.1];exact⟨aJ,aJ⟩) _) (by rw[hv.gI.1,hw.gI.1];exact r1)) ?_;simp only[aC.val,e1,e2];exact r2
   split at hc
   .simp only[aL]at hc;exact hc▸hbin _ rfl (hc▸hob)
   .simp only[aL]at hc;exact hc▸hbin _ rfl (hc▸hob)
   .rename_i hu1 hu2;split at hc
    .cases hc
    .rename_i hge;have hge':C.P.eqGuardType C.P.depth t=false:=by simpa using hge
     have heq:∀(neg:Bool) (ks:List CK),fu C.P 30 t=some ks->op=(if neg then .neq else .eql)->i=.eqA neg (bM C.P t) ks a b->xa C.ν x f L (i.val Y J m L) ((execOp ev o).run C.P x.w):=by
      rintro neg ks hks hop rfl;obtain⟨k1,k2,a1,a2,f1,f2⟩:=hob;have hv:=hρ p (by simp[ho,Op.operands,Call.operands]) a h1 k1;have hw:=hρ q (by simp[ho,Op.operands,Call.operands]) b h2 k2;have hrun:=ow (ν:=C.ν) (x:=x) (P:=C.P) 30 t ks hks 10000 ae (ev p) (ev q) _ _ x.w hv hw a1 a2 f1 f2;cases hag:bM C.P t
      .rw[hag]at a1 a2

       have hub:C.P.underlying t=some .bool:=zB (d:=29) hag hu1 hu2 hks;rw[uf (d:=29) hub,aL]at hks;subst hks;have g1:=j2 f1 a1;have g2:=j2 f2 a2;cases e1:(J a).d<;>simp only[e1,CK.fits]at g1;cases e2:(J b).d<;>simp only[e2,CK.fits]at g2;rename_i b1 b2;rw[e1]at hv;rw[e2]at hw;refine ba hs (v:=.bool (if neg then !(b1==b2)else b1==b2)) (mP ho (j1 _ _ _ _ (by rw[hv.ig];exact⟨aJ,aJ⟩) _) ?_) ?_
       .rw[hv.ig,hw.ig,hop];cases neg
        .simpa using run_eql_bool x.w t b1 b2 hub
        .simpa using run_neq_bool x.w t b1 b2 hub
       .simp only[aC.val,e1,e2,D.cells,gJ,Pz,kE];cases neg<;>exact .bool _
      .rw[hag]at a1 a2;cases e1:(J a).d<;>simp only[e1,D.isAgg,fX]at a1;cases e2:(J b).d<;>simp only[e2,D.isAgg,fX]at a2;rw[e1]at hv;rw[e2]at hw;rw[e1,e2]at hrun;generalize hep:ev p=vp at*
       generalize heq':ev q=vq at*
       cases hv with
       |agg xs _ p1 p2 p3=>
        cases hw with
        |agg ys _ q1 q2 q3=>
         refine ba hs (mP (v:=.bool (if op=.neq then !(gJ (D.agg _).cells (D.agg _).cells)else gJ (D.agg _).cells (D.agg _).cells)) ho (by rw[hep,heq'];exact run_eqGuard_agg x.w _ _ _ _ _ _ hge') (by rw[hep,heq'];exact zd op (by cases neg<;>simp[hop]) t xs ys _ x.w C.P hrun)) ?_;simp only[aC.val,e1,e2];cases neg<;>simp only[hop,aP,aM,fX,cond_true,cond_false,reduceCtorEq]<;>exact .bool _
     split at hc
     .rename_i ks hks;simp only[aL]at hc;exact heq false ks hks rfl hc.symm
     .rename_i ks hks;simp only[aL]at hc;exact heq true ks hks rfl hc.symm
     .split at hc
      .rename_i hf;simp only[aL]at hc;subst hc;obtain⟨k1,k2⟩:=hob;have hv:=hρ p (by simp[ho,Op.operands,Call.operands]) a h1 k1;have hq:ev q=.nilFunc:=by
        have:=hρ q (by simp[ho,Op.operands,Call.operands]) (.c .nilf) h2 (by rw[hcst]);rw[hcst]at this;generalize ev q=vq at this;cases this;rfl
       cases hd:(J a).d<;>simp only[hd]at k2<;>rw[hd]at hv<;>generalize hep:ev p=vp at hv<;>cases hv<;>simp only[aC.val,hd];all_goals first
        |exact ba hs (mP ho (j1 _ _ _ _ (by rw[hep];exact⟨aJ,aJ⟩) _) (by rw[hep,hq];first|exact(I3 _ hf).1|exact(I3 _ hf).2 _ _ _)) (.bool _)
        |(exfalso;omega)
      .simp only[aL]at hc;subst hc;simp[aC.pure]at hp
      .cases hc
     .cases hc
  .cases hc
 |unOp op t p=>
  simp only[CC.op,ho,df]at hc;obtain⟨s,h1,rfl⟩:=hc;obtain⟨k1,k2⟩:=hob;have hv:=hρ p (by simp[ho,Op.operands,Call.operands]) s h1 k1;cases op<;>cases hd:(J s).d<;>simp only[hd]at k2<;>rw[hd]at hv<;>simp only[aC.val,hd]
  .exact ba hs (by simp[execOp,ho,hv.c9,Op.unary,Op.intArith]) (.int _ _)
  .exact ba hs (by simp[execOp,ho,hv.ig,Op.unary]) (.bool _)
 |convert s d p=>
  simp only[CC.op,ho]at hc;split at hc
  .rename_i ks k a hu1 hu2 h1;simp only[aL]at hc;subst hc;obtain⟨k1,k2⟩:=hob;have hv:=hρ p (by simp[ho,Op.operands,Call.operands]) a h1 k1;cases hd:(J a).d<;>simp only[hd]at k2;rw[hd]at hv;simp only[aC.val,hd];exact ba hs (by simp[execOp,ho,hv.c9,convert,run_underlying hu1,run_underlying hu2,Conv.intToInt]) (.int _ _)
  .rename_i ks a hu1 hu2 h1;simp only[aL]at hc;subst hc;obtain⟨k1,k2⟩:=hob;have hv:=hρ p (by simp[ho,Op.operands,Call.operands]) a h1 k1;cases hd:(J a).d<;>simp only[hd]at k2;rename_i n;rw[hd]at hv;simp only[aC.val,hd];refine ba hs (v:=.string (Utf8.encode n)) (by simp[execOp,ho,hv.c9,convert,run_underlying hu1,run_underlying hu2,Conv.intToString]) ?_;have h4:=encode_size_le n;have e:Utf8.encode n=⟨⟨KL n⟩⟩:=rfl;rw[e];refine .str _ ?_;have:(KL n).length=(Utf8.encode n).size:=rfl;simp only[maxLen];omega
  .split at hc
   .simp only[aL]at hc;subst hc;simp[aC.pure]at hp
   .cases hc
  .split at hc
   .simp only[aL]at hc;subst hc;simp[aC.pure]at hp
   .cases hc
  .cases hc
 |makeFunc fn first caps=>
  cases fn with
  |func fid=>
   simp only[CC.op,ho]at hc;split at hc
   .rename_i n l h1 h2;split at hc
    .rename_i hfe;simp only[aL]at hc;subst hc;obtain⟨e1,e2,e3⟩:=fU hρ caps.toList l (fun o' ho'=>by simp only[ho,Op.operands,Array.toList_append,List.mem_append];exact .inr ho') h2 hob;have hf0:first=#[]:=by simpa using hfe
     refine ba hs (v:=.func (.func fid) #[] (caps.map ev)) (by simp[execOp,ho,Instr.makeFunc,hf0]) ?_;refine .fn fid n _ _ h1 (by simp[e2]) (fun i hi=>?_);have:=e3 i hi;rw[<-bJ,Array.toList_map];exact this
    .split at hc
     .rename_i hle;simp only[df]at hc;obtain⟨l1,hl1,rfl⟩:=hc;obtain⟨e1,e2,e3⟩:=fU hρ first.toList l1 (fun o' ho'=>by simp only[ho,Op.operands,Array.toList_append,List.mem_append];exact .inl ho') hl1 hob
      obtain⟨_,q2,_⟩:=fU hρ caps.toList l (fun o' ho'=>by simp only[ho,Op.operands,Array.toList_append,List.mem_append];exact .inr ho') h2 (by rw[List.isEmpty_iff.1 hle];trivial);have hf0:caps=#[]:=by
       rw[List.isEmpty_iff.1 hle]at q2;exact Array.eq_empty_of_size_eq_zero (by simpa[gV]using q2.symm)
      refine ba hs (v:=.func (.func fid) (first.map ev) #[]) (by simp[execOp,ho,Instr.makeFunc,hf0]) ?_;refine .dS fid n _ _ h1 (by simp[e2]) (fun i hi=>?_);have:=e3 i hi;rw[<-bJ,Array.toList_map];exact this
     .cases hc
   .cases hc
  |_=>simp[CC.op,ho]at hc
 |lookup t p q ok=>
  cases ok with
  |true=>simp[CC.op,ho]at hc
  |false=>
   simp only[CC.op,ho]at hc;split at hc
   .rename_i a b kt et h1 h2 hu;split at hc
    .rename_i hk hz;simp only[aL]at hc;subst hc;obtain⟨k1,k2,k3⟩:=hob;have hv:=hρ p (by simp[ho,Op.operands,Call.operands]) a h1 k1;have hw:=hρ q (by simp[ho,Op.operands,Call.operands]) b h2 k2;cases hd:(J a).d<;>simp only[hd]at k3;cases hd2:(J b).d<;>simp only[hd2]at k3;obtain⟨rfl,k4⟩:=k3;rename_i es s;rw[hd]at hv;rw[hd2]at hw;obtain⟨e1,e2⟩:=hw.gI;simp only[aC.val,hd,hd2];generalize hep:ev p=vp at hv;cases hv with
     |fn _ _ _ _ hν=>exact absurd (hsm _ _ hν) ae
     |dS _ _ _ _ hν=>exact absurd (hsm _ _ hν) ae
     |mp r' ents cl _ hI hh hl h=>
      obtain⟨r,f1,f2⟩:=Ec (ν:=C.ν) (x:=x) s ents.toList es 0 k4 (by simpa using hl) h;obtain⟨ti,zv,hi,hzv,hr⟩:=ng (x:=x) hz;rcases f2 with⟨j,v,rfl,f3⟩|⟨rfl,f3⟩
      .refine ba hs (v:=v) ?_ f3;simp[execOp,ho,hep,e1,Instr.lookup,run_underlying hu,MapKept.run_getObj_map hh,MapKept.run_checkKey hk (show MapKept.IsKey .string (.string ⟨⟨s⟩⟩)from trivial),MapKept.run_findKey hk f1,Result.andThen]
      .rw[f3];refine ba hs (v:=zv) ?_ hr;simp[execOp,ho,hep,e1,Instr.lookup,run_underlying hu,MapKept.run_getObj_map hh,MapKept.run_checkKey hk (show MapKept.IsKey .string (.string ⟨⟨s⟩⟩)from trivial),MapKept.run_findKey hk f1,Result.andThen,zeroValue,run_typeInfo x.w hi,hzv]
    .cases hc
   .cases hc
 |slice t p lo hi mx=>
  simp only[CC.op,ho]at hc;split at hc
  .rename_i a l h hu h1 hl hh;simp only[aL]at hc;subst hc;obtain⟨k1,k2,k3,k4⟩:=hob;have hv:=hρ p (by simp[ho,Op.operands,Call.operands]) a h1 k1;cases hd:(J a).d<;>simp only[hd]at k4;rename_i s;rw[hd]at hv;obtain⟨e1,e2⟩:=hv.gI;obtain⟨b1,b2,b3⟩:=nt hρ (by rintro _ rfl;simp[ho,Op.operands]) (by rintro _ rfl;simp[ho,Op.operands]) hl hh k2 k3 false s.length s.length (fun _=>rfl) (aF _) k4.1 k4.2;simp only[aC.val,hd];have hsz:(⟨⟨s⟩⟩:ByteArray).size=s.length:=rfl;refine ba hs (v:=.string ⟨⟨(s.take (dS (dO J h) s.length)).drop (dS (dO J l) 0)⟩⟩) ?_ (.str _ cX);simp[execOp,ho,e1,Instr.sliceAt,Instr.slice,run_underlying hu,hsz,b1,xA]
  .rename_i e a l h hu h1 hl hh;split at hc
   .cases hc
   rename_i hce;simp only[aL]at hc;subst hc;obtain⟨k1,k2,k3,k4⟩:=hob;have hv:=hρ p (by simp[ho,Op.operands,Call.operands]) a h1 k1;cases hd:(J a).d<;>simp only[hd]at k4
   ·
    rw[hd]at hv;obtain⟨b1,b2,b3⟩:=nt hρ (by rintro _ rfl;simp[ho,Op.operands]) (by rintro _ rfl;simp[ho,Op.operands]) hl hh k2 k3 true 0 0 (fun e=>by simp at e) (aF _) k4.1 (by
     have:dS (dO J h) 0=0:=by
      have:=k4.1;cases hdh:dO J h with
      |none=>rfl
      |some d=>rw[hdh]at this;cases d<;>simp_all[nr,dS]
     rw[this];exact k4.2)
    simp only[aC.val,hd];have e0:ev p=.slice none 0 0:=by generalize ev p=vp at hv;cases hv;rfl
    refine ba hs (v:=.slice none 0 0) ?_ .au;have z1:dS (dO J l) 0=0:=ae;have z2:dS (dO J h) 0=0:=ae;rw[z1,z2]at b1;simp[execOp,ho,e0,Instr.sliceAt,Instr.slice,run_underlying hu,b1,de hce]
   .rename_i k es;rw[hd]at hv;simp only[aC.val,hd];generalize hep:ev p=vp at hv;have hv2:=hv;cases hv with
    |sl aa b off len cap _ _ c hlen ha hcap hm hk hn hc' hone hh'=>
     subst hlen;obtain⟨b1,b2,b3⟩:=nt hρ (by rintro _ rfl;simp[ho,Op.operands]) (by rintro _ rfl;simp[ho,Op.operands]) hl hh k2 k3 true es.length cap (fun e=>by simp at e) hcap k4.2.1 k4.2.2;refine ba hs (v:=.slice (if cap=dS (dO J l) 0 then aa else aa.map (·.add (dS (dO J l) 0*C.P.cellsOf e))) (dS (dO J h) es.length-dS (dO J l) 0) (cap-dS (dO J l) 0)) ?_ ?_
     .simp[execOp,ho,hep,Instr.sliceAt,Instr.slice,run_underlying hu,b1,de hce]
     .rw[<-k4.1];exact Qy hv2 b2 b3
   .rename_i L' k i n;rw[hd]at hv;simp only[aC.val,hd];obtain⟨k5,k6,k7⟩:=k4;obtain⟨aa,cap,he,hle0,hr⟩:=Nb hv;obtain⟨b1,b2,b3⟩:=nt hρ (by rintro _ rfl;simp[ho,Op.operands]) (by rintro _ rfl;simp[ho,Op.operands]) hl hh k2 k3 true n cap (fun e=>by simp at e) hle0 k6 k7;refine ba hs ?_ (hr _ _ b2 b3);simp only[execOp,ho,he,Instr.sliceAt,Instr.slice,run_underlying hu,Sem.run_bind,Result.andThen_ok,Option.map_none,b1,de hce,Sem.run_pure,k5]
  .rename_i e a h mo hu h1 hl hh;obtain rfl:=wg hl;obtain⟨oh,rfl,hh1⟩:=wh hh;split at hc;rotate_left
   .cases hc
   rename_i ms hms;split at hc
   .cases hc
   rename_i hce;simp only[aL]at hc;subst hc;obtain⟨k1,k2,k3,k4⟩:=hob;have hv:=hρ p (by simp[ho,Op.operands,Call.operands]) a h1 k1;have hvh:=hρ oh (by simp[ho,Op.operands]) h hh1 k2;have hvm:=hρ mo (by simp[ho,Op.operands]) ms hms k3;cases hdh:(J h).d<;>simp only[hdh]at k4;cases hdm:(J ms).d<;>simp only[hdm]at k4;rename_i kh nh km nm;rw[hdh]at hvh;rw[hdm]at hvm;obtain⟨p1,p2,p3⟩:=k4;cases hd:(J a).d<;>simp only[hd]at p3
   ·
    rw[hd]at hv;simp only[aC.val,hd,hdh];have e0:ev p=.slice none 0 0:=by generalize ev p=vp at hv;cases hv;rfl
    have b1:=qC (C:=C) (x:=x) (len:=0) (cap:=0) hvh.c9 hvm.c9 p1 p2 ae;refine ba hs (v:=.slice none 0 0) ?_ .au;have z1:nh.toNat=0:=ae;have z2:nm.toNat=0:=ae;rw[z1,z2]at b1;simp[execOp,ho,e0,Instr.sliceAt,Instr.slice,run_underlying hu,b1,de hce]
   .rename_i k es;rw[hd]at hv;simp only[aC.val,hd,hdh];generalize hep:ev p=vp at hv;have hv2:=hv;cases hv with
    |sl aa b off len cap _ _ c hlen ha hcap hm hk hn hc' hone hh'=>
     subst hlen;have b1:=qC (C:=C) (x:=x) (len:=es.length) (cap:=cap) hvh.c9 hvm.c9 p1 p2 ae;refine ba hs (v:=.slice (if nm.toNat=0 then aa else aa.map (·.add (0*C.P.cellsOf e))) nh.toNat nm.toNat) ?_ ?_
     .simp[execOp,ho,hep,Instr.sliceAt,Instr.slice,run_underlying hu,b1,de hce]
     .rw[<-p3.1];exact Qw hv2 ae ae
   .rename_i L' k i n;rw[hd]at hv;simp only[aC.val,hd,hdh];obtain⟨k5,k6⟩:=p3;obtain⟨aa,cap,he,hle0,hr⟩:=Na hv;have b1:=qC (C:=C) (x:=x) (len:=n) (cap:=cap) hvh.c9 hvm.c9 p1 p2 ae;refine ba hs ?_ (hr nh.toNat nm.toNat ae ae);simp only[execOp,ho,he,Instr.sliceAt,Instr.slice,run_underlying hu,Sem.run_bind,Result.andThen_ok,Option.map_none,Option.map_some,b1,de hce,Sem.run_pure,k5,Nat.sub_zero]
  .cases hc
 |fieldAddr t p fi=>
  simp only[CC.op,ho]at hc;split at hc
  .rename_i fs a hu h1;split at hc
   .rename_i fl hfl;split at hc
    .cases hc
    rename_i hce;simp only[aL]at hc;subst hc;obtain⟨k1,k2⟩:=hob;have hv:=hρ p (by simp[ho,Op.operands,Call.operands]) a h1 k1;have hrun:∀(b c:Nat),ev p=.pointer (some ⟨b,c,none⟩)->(execOp ev o).run C.P x.w=.ok (.value (.pointer (some ⟨b,c+fl.offset,none⟩))) x.w:=by
     intro b c he;simp[execOp,ho,he,Instr.fieldAt,run_underlying hu,hfl,Instr.sureAddr,fieldPlace,de hce,hce,Addr.tX]
    cases hd:(J a).d<;>simp only[hd]at k2
    .rename_i k es i o';rw[hd]at hv;simp only[aC.val,hd];generalize hep:ev p=vp at hv;cases hv with
     |ref b off _ _ _ at_ _ c hI hat hk hn hc' h1' hh'=>
      exact ba hs (hrun _ _ hep) (.ref b off k i (o'+fl.offset) _ es c hI ae hk hn hc' h1' hh')
    .rename_i l k i o';rw[hd]at hv;simp only[aC.val,hd];generalize hep:ev p=vp at hv;cases hv with
     |ptr _ _ _ _ b base tot at_ hβ hat=>
      exact ba hs (hrun _ _ hep) (.ptr l k i (o'+fl.offset) b base tot _ hβ ae)
   .cases hc
  .cases hc
 |field t p fi=>
  simp only[CC.op,ho]at hc;split at hc
  .rename_i fs a hu h1;split at hc
   .rename_i fl hfl;split at hc
    .cases hc
    rename_i hce;simp only[aL]at hc;subst hc;obtain⟨k1,k2⟩:=hob;have hv:=hρ p (by simp[ho,Op.operands,Call.operands]) a h1 k1;cases hd:(J a).d<;>simp only[hd]at k2;rename_i ds;rw[hd]at hv;generalize hep:ev p=vp at hv;have hv2:=hv;cases hv with
    |agg cs _ _ _ _=>
     obtain⟨v,r1,r2⟩:=m5 (P:=C.P) (t:=fl.type) (off:=fl.offset) (n:=C.P.cellsOf fl.type) (ag:=bM C.P fl.type) x.w hv2 (fun e=>hce (.inl e)) (by cases hn:(C.P.underlying fl.type).isNone with|false=>rfl|true=>exact absurd (.inr hn) hce) rfl rfl k2.1 k2.2;refine ba hs (v:=v) ?_ (by simp only[aC.val,hd,D.cells];exact r2);simp[execOp,ho,hep,Instr.field,run_underlying hu,hfl,asAgg,r1]
   .cases hc
  .cases hc
 |indexAddr t p q=>
  simp only[CC.op,ho]at hc;split at hc
  .rename_i e a b hu h1 h2;split at hc
   .cases hc
   rename_i hce;simp only[aL]at hc;subst hc;obtain⟨k1,k2,k3⟩:=hob;have hv:=hρ p (by simp[ho,Op.operands,Call.operands]) a h1 k1;have hw:=hρ q (by simp[ho,Op.operands,Call.operands]) b h2 k2;cases hd2:(J b).d<;>cases hd:(J a).d<;>simp only[hd,hd2]at k3
   .rename_i kk n k es;rw[hd]at hv;rw[hd2]at hw;obtain⟨k4,k5,k6⟩:=k3;simp only[aC.val,hd,hd2];generalize hep:ev p=vp at hv;cases hv with
    |sl aa b' off len cap _ _ c hlen ha hcap hm hk hn hc' hone hh'=>
     rcases ha with rfl|⟨rfl,hI⟩
     .simp at k6;omega
     .refine ba hs (v:=.pointer (some ⟨b',off+n.toNat*C.P.cellsOf e,none⟩)) ?_ ?_
      .simp[execOp,ho,hep,hw.c9,Instr.indexAt,asIntOf,run_underlying hu,hlen,k5,k6,de hce,Addr.tX]
      .subst hlen;exact .ref b' off k n.toNat 0 _ es c hI (by rw[k4];omega) hk hn hc' hone hh'
   .rename_i kk n L' k i len;rw[hd]at hv;rw[hd2]at hw;obtain⟨k4,k5,k6⟩:=k3;simp only[aC.val,hd,hd2];generalize hep:ev p=vp at hv;cases hv with
    |own _ _ _ _ b' base tot cap aa hβ ha hcap hm ht=>
     have ha':=ha ae;subst ha';refine ba hs (v:=.pointer (some ⟨b',base+i*k+n.toNat*C.P.cellsOf e,none⟩)) ?_ ?_
     .simp[execOp,ho,hep,hw.c9,Instr.indexAt,asIntOf,run_underlying hu,k5,k6,de hce,Addr.tX]
     .exact .ptr L' k (i+n.toNat) 0 b' base tot _ hβ (by rw[Nat.add_mul,k4];omega)
    |own0=>omega
  .rename_i len e a b hu h1 h2;split at hc
   .cases hc
   rename_i hce;simp only[aL]at hc;subst hc;obtain⟨k1,k2,k3⟩:=hob;have hv:=hρ p (by simp[ho,Op.operands,Call.operands]) a h1 k1;have hw:=hρ q (by simp[ho,Op.operands,Call.operands]) b h2 k2;have hrun:∀(b c:Nat) (kk:IntKind) (n:Int),ev p=.pointer (some ⟨b,c,none⟩)->ev q=.int kk n->0<=n->n<len->(execOp ev o).run C.P x.w=.ok (.value (.pointer (some ⟨b,c+n.toNat*C.P.cellsOf e,none⟩))) x.w:=by
    intro b c kk n he he' g1 g2;simp[execOp,ho,he,he',Instr.indexAt,asIntOf,run_underlying hu,Instr.sureAddr,g1,g2,de hce,Addr.tX]
   cases hd2:(J b).d<;>cases hd:(J a).d<;>simp only[hd,hd2]at k3
   .rename_i kk n k es i o';rw[hd]at hv;rw[hd2]at hw;simp only[aC.val,hd,hd2];generalize hep:ev p=vp at hv;cases hv with
    |ref b' off _ _ _ at_ _ c hI hat hk hn hc' h1' hh'=>
     exact ba hs (hrun _ _ _ _ hep hw.c9 k3.1 k3.2) (.ref b' off k i (o'+n.toNat*C.P.cellsOf e) _ es c hI ae hk hn hc' h1' hh')
   .rename_i kk n L' k i o';rw[hd]at hv;rw[hd2]at hw;simp only[aC.val,hd,hd2];generalize hep:ev p=vp at hv;cases hv with
    |ptr _ _ _ _ b' base tot at_ hβ hat=>
     exact ba hs (hrun _ _ _ _ hep hw.c9 k3.1 k3.2) (.ptr L' k i (o'+n.toNat*C.P.cellsOf e) b' base tot _ hβ ae)
  .cases hc
 |index t p q=>
  simp only[CC.op,ho]at hc;split at hc
  .rename_i a b hu h1 h2;simp only[aL]at hc;subst hc;obtain⟨k1,k2,k3⟩:=hob;have hv:=hρ p (by simp[ho,Op.operands,Call.operands]) a h1 k1;have hw:=hρ q (by simp[ho,Op.operands,Call.operands]) b h2 k2;cases hd2:(J b).d<;>cases hd:(J a).d<;>simp only[hd,hd2]at k3;rename_i kk n s;rw[hd]at hv;rw[hd2]at hw;obtain⟨e1,e2⟩:=hv.gI;simp only[aC.val,hd,hd2];have hsz:(⟨⟨s⟩⟩:ByteArray).size=s.length:=rfl;have hlt:n.toNat<s.length:=ae;refine ba hs (v:=.int .u8 (s.getD n.toNat 0).toNat) ?_ (.int _ _);simp only[execOp,ho,e1,hw.c9,Sem.run_bind,run_index_string x.w t _ kk n hu,hsz];rw[dif_pos k3];simp only[Result.andThen_ok,Sem.run_pure];congr 4;show(((⟨s⟩:Array UInt8)[n.toNat]'hlt)).toNat=_;simp[List.getD,hlt]
  .rename_i len e a b hu h1 h2;split at hc
   .cases hc
   rename_i hce;simp only[aL]at hc;subst hc;obtain⟨k1,k2,k0,k3⟩:=hob;have hv:=hρ p (by simp[ho,Op.operands,Call.operands]) a h1 k1;have hw:=hρ q (by simp[ho,Op.operands,Call.operands]) b h2 k2;cases hd2:(J b).d<;>cases hd:(J a).d<;>simp only[hd,hd2]at k3;rename_i kk n ds;rw[hd]at hv;rw[hd2]at hw;generalize hep:ev p=vp at hv;have hv2:=hv;cases hv with
   |agg cs _ _ _ _=>
    have hb:n.toNat*C.P.cellsOf e+C.P.cellsOf e<=ds.length:=by
     rw[k3.2.2,<-Nat.succ_mul];exact eu _ ae
    obtain⟨v,r1,r2⟩:=m5 (P:=C.P) (t:=e) (off:=n.toNat*C.P.cellsOf e) (n:=C.P.cellsOf e) (ag:=bM C.P e) x.w hv2 (fun e=>hce (.inl e)) (by cases hn:(C.P.underlying e).isNone with|false=>rfl|true=>exact absurd (.inr hn) hce) rfl rfl hb k0;refine ba hs (v:=v) ?_ (by simp only[aC.val,hd,hd2,D.cells];exact r2);simp[execOp,ho,hep,hw.c9,Instr.index,asIntOf,run_underlying hu,k3.1,k3.2.1,de (fun e=>hce (.inl e)),r1]
  .cases hc
 |extract p n=>
  simp only[CC.op,ho,df]at hc;obtain⟨s,h1,rfl⟩:=hc;obtain⟨k1,k2⟩:=hob;have hv:=hρ p (by simp[ho,Op.operands,Call.operands]) s h1 k1;cases hd:(J s).d<;>simp only[hd]at k2;rw[hd]at hv;generalize hep:ev p=vp at hv;cases hv with
  |tup cs _ hl hh=>
   have hlt:n<cs.size:=ae;refine ba hs (v:=cs.getD n undef) ?_ (by simp only[aC.val,hd];exact hh n k2);simp[execOp,ho,hep,Instr.extract,Array.getElem?_eq_getElem hlt,Array.getD,hlt]
 |call c=>
  obtain⟨callee,args,argTypes⟩:=c;cases callee with
  |builtin bu=>
   cases bu with
   |len=>
    simp only[CC.op,ho]at hc;split at hc
    .rename_i p t hargs htys;have hargs':args=#[p]:=by apply Array.ext';simpa using hargs
     have htys':argTypes=#[t]:=by apply Array.ext';simpa using htys
     subst hargs';subst htys';split at hc
     .rename_i a h1 hu;simp only[aL]at hc;subst hc;obtain⟨k1,k2⟩:=hob;have hv:=hρ p (by simp[ho,Op.operands,Call.operands]) a h1 k1;have hrun:∀s,ev p=.string s->(execOp ev o).run C.P x.w=.ok (.value (.int .i64 s.size)) x.w:=by
       intro s he;simp[execOp,ho,resolve,invoke,builtin,Builtin.len_,he,run_underlying hu,goInt]
      cases hd:(J a).d<;>simp only[hd]at k2
      .rw[hd]at hv;simp only[aC.val,hd];exact ba hs (hrun _ hv.gI.1) (.int _ _)
     .rename_i a e h1 hu;simp only[aL]at hc;subst hc;obtain⟨k1,k2⟩:=hob;have hv:=hρ p (by simp[ho,Op.operands,Call.operands]) a h1 k1;have hrun:∀b n cc,ev p=.slice b n cc->(execOp ev o).run C.P x.w=.ok (.value (.int .i64 n)) x.w:=by
       intro b n cc he;simp[execOp,ho,resolve,invoke,builtin,Builtin.len_,he,run_underlying hu,goInt]
      cases hd:(J a).d<;>simp only[hd]at k2
      .rw[hd]at hv;simp only[aC.val,hd];generalize hep:ev p=vp at hv;cases hv;exact ba hs (hrun _ _ _ hep) (.int _ _)
      .rw[hd]at hv;simp only[aC.val,hd];generalize hep:ev p=vp at hv;cases hv with
       |sl aa b off len cap _ _ cf hlen ha hcap hm hk hn hc' hone hh'=>
        subst hlen;exact ba hs (hrun _ _ _ hep) (.int _ _)
      .rw[hd]at hv;simp only[aC.val,hd];generalize hep:ev p=vp at hv;cases hv with
       |own _ _ _ _ b base tot cap aa hβ ha hcap hm ht=>
        exact ba hs (hrun _ _ _ hep) (.int _ _)
       |own0=>exact ba hs (hrun _ _ _ hep) (.int _ _)
     .cases hc
    .cases hc
   |min=>
    simp only[CC.op,ho]at hc;split at hc
    .rename_i p q hargs;have hargs':args=#[p,q]:=by apply Array.ext';simpa using hargs
     subst hargs';split at hc
     .rename_i a b h1 h2;simp only[aL]at hc;subst hc;obtain⟨k1,k2,k3⟩:=hob;have hv:=hρ p (by simp[ho,Op.operands,Call.operands]) a h1 k1;have hw:=hρ q (by simp[ho,Op.operands,Call.operands]) b h2 k2;cases hd:(J a).d<;>cases he:(J b).d<;>simp only[hd,he]at k3;rw[hd]at hv;rw[he]at hw;simp only[aC.val,hd,he];refine ba hs ?_ (.int _ _);simp[execOp,ho,resolve,invoke,builtin,Builtin.min_,Builtin.min2,hv.c9,hw.c9]
     .cases hc
    .cases hc
   |append=>simp only[CC.op,ho]at hc;(repeat' split at hc)<;>simp_all[aC.pure]<;>(subst hc;simp_all[aC.pure])
   |_=>simp[CC.op,ho]at hc
  |value f=>
   cases f with
   |func fid=>simp only[CC.op,ho]at hc;(repeat' split at hc)<;>simp_all[aC.pure]<;>(subst hc;simp_all[aC.pure])
   |tmp t=>simp only[CC.op,ho]at hc;(repeat' split at hc)<;>simp_all[aC.pure]<;>(subst hc;simp_all[aC.pure])
   |_=>simp[CC.op,ho]at hc
  |invoke r n=>simp[CC.op,ho]at hc
 |alloc t=>simp only[CC.op,ho]at hc;(repeat' split at hc)<;>simp_all[aC.pure]<;>(subst hc;simp_all[aC.pure])
 |box t p=>simp only[CC.op,ho]at hc;(repeat' split at hc)<;>simp_all[aC.pure]<;>(subst hc;simp_all[aC.pure])
 |buildSlice t n ps=>simp only[CC.op,ho]at hc;(repeat' split at hc)<;>simp_all[aC.pure]<;>(subst hc;simp_all[aC.pure])
 |load t p=>simp only[CC.op,ho]at hc;(repeat' split at hc)<;>simp_all[aC.pure]<;>(subst hc;simp_all[aC.pure])
 |store t p q=>simp only[CC.op,ho]at hc;(repeat' split at hc)<;>simp_all[aC.pure]<;>(subst hc;simp_all[aC.pure])
 |makeSlice t a b=>simp only[CC.op,ho]at hc;(repeat' split at hc)<;>simp_all[aC.pure]<;>(subst hc;simp_all[aC.pure])
 |range t p=>simp only[CC.op,ho]at hc;(repeat' split at hc)<;>simp_all[aC.pure]<;>(subst hc;simp_all[aC.pure])
 |next it b=>
  cases b
  .simp[CC.op,ho]at hc
  .simp only[CC.op,ho,df]at hc;obtain⟨s,h1,rfl⟩:=hc;simp[aC.pure]at hp
 |_=>simp[CC.op,ho]at hc
end
end
abbrev ch (Y:Ctx)(n:Nat)(ds:List D)(d:D):Prop:=Y.pre n ds/\Y.val n ds=d
end Go.Abs
