/- A part of the proofs. -/
import Derived.Attr
import Derived.ChangeKeysEq
import Derived.Deep.AppendSrc
import Derived.KernelRfl
import Derived.WalkKit
import GoSem.Dispatch
import GoSem.Step
set_option linter.all false
set_option maxRecDepth 4000
namespace Go.Abs
def bA:=@List.length_cons
def bK:=@List.length_nil
def dA:=@decide_eq_false_iff_not
def bL:=@decide_eq_true_eq
def aZ:=@Option.some.injEq
def ai:=@if_neg
def aw:=@if_pos
def bm:=@Bool.and_eq_true
def cK:=@List.length_append
def pG:=@Bool.not_eq_false'
def eB:=@Bool.not_eq_true'
def aE:=@Nat.le_refl
def bg:=@Option.some.inj
def aK:=@List.length_map
def aL:=@if_false
def aN:=@if_true
def bl:=@List.drop_zero
def cv:=@decide_eq_true
def aO:=@Nat.zero_add
def iM:=@Bool.or_eq_false_iff
def gU:=@Bool.and_eq_false_iff
def cW:=@Option.map_eq_some_iff
def cE:=@decide_eq_false
def en:=@Bool.or_eq_true
def iq:=@List.take_of_length_le
def fo:=@List.length_take
def me:=@List.append_assoc
def bo:=@List.mem_singleton
def gV:=@Bool.false_eq_true
def ea:=@Prod.mk.injEq
def iN:=@Nat.mul_le_mul_right
def eK:=@Nat.le_trans
def jq:=@Nat.lt_of_lt_of_le
def wx:=@List.nil_append
def iO:=@List.eq_nil_of_length_eq_zero
def jP:=@List.drop_eq_getElem_cons
def qq:=@List.cons_append
def dx:=@List.mem_cons
def bC:=@true_and
def bz:=@and_true
def bX:=@false_and
def bY:=@and_false
def bZ:=@and_self
def fq:=@Eq.trans
def bS:=@congrArg
def mf:=@List.drop_eq_nil_of_le
def Ke:=@List.append_nil
def wy:=@List.length_drop
def dX:=@List.not_mem_nil
def C5:=@UInt8.toNat_inj
def gW:=@List.getD_cons_zero
def jQ:=@Bool.true_and
def eZ:=@Bool.and_true
def ec:=@List.mem_map
def sE:=@List.cons.injEq
def Kf:=@List.mem_of_mem_take
def wz:=@decide_eq_decide
def cQ:=@Nat.lt_or_ge
def ae {p:Prop}(h:p:=by omega):p:=h
def nI {p:Prop}(h:p:=by simp only[List.length_cons,List.length_nil];omega):p:=h
def b7 {p:Prop}(h:p:=by decide):p:=h
def zzbk {p:Prop}(h:p:=by kernel_rfl):p:=h
def bh {p:Prop}(h:p:=by simp):p:=h
def eF {p:Prop}(h:p:=by dsimp only;omega):p:=h
def eo {p:Prop}(h:p:=by simp;omega):p:=h
def cz {p:Prop}(h:p:=by exact rfl):p:=h
inductive D where
 |any
 |bool (b:Bool)
 |int (k:IntKind) (n:Int)
 |str (s:List UInt8)
 |agg (cs:List D)
 |tup (ds:List D)
 |aB
 |sl (k:Nat) (es:List D)
 |ref (k:Nat) (es:List D) (i o:Nat)
 |ptr (l k i o:Nat)
 |own (l k i n:Nat)
 |nilp
 |fn (f:Nat) (caps:List D)
 |nilf
 |it (l:Nat)
 deriving Inhabited
inductive Src where
 |s (n:Nat)
 |l (p:Nat)
 |c (d:D)
 deriving Inhabited
inductive Sh where
 |a
 |sl (k:Nat) (cs:List Sh)
 |pt (cs:List Sh)
 |kp (cs:List Sh)
 deriving Inhabited
inductive CK where
 |b|i (k:IntKind)|s
 deriving Inhabited
inductive aG where
 |mv (x:Src)
 |pick (c a b:Src)
 |box (k:Nat) (x:Src)
 |build (z:List D) (parts:List (Nat×Nat×Src))
 |bsl (k:Nat) (z:D) (n:Nat) (parts:List (Nat×Src))
 |ld (n:Nat) (ag:Bool) (p:Src)
 |st (n:Nat) (p v:Src)
 |nilck (x:Src)
 |bin (op:BinOp) (x y:Src)
 |eqA (neg ag:Bool) (ks:List CK) (x y:Src)
 |un (op:UnOp) (x:Src)
 |cvi (k:IntKind) (x:Src)
 |mn (x y:Src)
 |s2b (x:Src)
 |b2s (x:Src)
 |i2s (x:Src)
 |mkf (f:Nat) (caps:List Src)
 |mks (k:Nat) (z:D) (ln cp:Src)
 |slS (x:Src) (lo hi:Option Src)
 |slA (k:Nat) (x:Src) (lo hi:Option Src)
 |slX (k:Nat) (x hi mx:Src)
 |fa (off:Nat) (p:Src)
 |fld (off n:Nat) (ag:Bool) (x:Src)
 |ia (k:Nat) (x i:Src)
 |iaP (n k:Nat) (x i:Src)
 |ixS (x i:Src)
 |ixA (n k:Nat) (ag:Bool) (x i:Src)
 |ext (x:Src) (i:Nat)
 |len (x:Src)
 |lenS (x:Src)
 |app (k:Nat) (x y:Src)
 |call (f:Nat) (args:List Src) (sh:List (List Sh))
 |callv (f:Src) (args:List Src) (sh:List (List Sh))
 |callM (f:Nat) (args:List Src)
 |callvM (f:Src) (args:List Src)
 |ldI (n:Nat) (ag:Bool) (p:Src)
 |ldU (n:Nat) (ag:Bool) (p:Src)
 |callF (f:Nat) (r:Src) (args:List Src) (sh:List (List Sh))
 |appN (k:Nat) (y:Src)
 |bslI (k:Nat) (z:D) (n:Nat) (parts:List (Nat×Src))
 |rng (x:Src)
 |bH (x:Src)
 |mkB
 |lkp (x k:Src)
 |isF (x:Src)
 |isNl (x:Src) (neg:Bool)
 |mkI (n:Nat) (x:Src)
 |isI (x:Src)
 |tas (n:Nat) (z:D) (x:Src)
 |invk (x:Src)
 |zal
 |zst (p v:Src)
 |callL (f:Nat) (args:List Src) (chk:List (Nat×Nat×Bool×Src))
 deriving Inhabited
structure GI where
 i:aG
 g:Option (Nat×Bool)
 deriving Inhabited
inductive AC where
 |reg (draw:Bool) (ins:List GI) (cm:List (Nat×Nat))
 |seq (a b:AC)
 |cond (c:Src) (a b:AC)
 |block (id:Nat) (a:AC)
 |loop (a:AC)
 |exit (id:Nat)
 |ret
 |skip
 deriving Inhabited
structure By where
 s:Nat
 mem:Option (Nat×Bool)
 deriving Inhabited
structure aJ where
 np:Nat
 ns:Nat
 res:List By
 rsh:List (List Sh)
 body:AC
 deriving Inhabited
@[go_sem] def D.cells:D->List D
 | .agg cs=>cs
 | .any=>[]
 | .tup _=>[]
 |d=>[d]
@[go_sem] def D.isBool:D->Bool
 | .bool _=>true
 |_=>false
@[go_sem] def D.isAgg:D->Bool
 | .agg _=>true
 |_=>false
mutual
@[go_sem] def D.bc:D->Bool
 | .agg cs=>aV cs
 | .tup cs=>aV cs
 | .fn _ cs=>aV cs
 | .ptr .. =>false
 | .own .. =>false
 | .it _=>false
 |_=>true
@[go_sem] def aV:List D->Bool
 |[]=>true
 |d::r=>d.bc&&aV r
end
mutual
@[go_sem] def D.ee:D->Bool
 | .agg cs=>lg cs
 | .tup cs=>lg cs
 | .fn n cs=>!(Nat.ble 2000000 n)&&lg cs
 | .ptr .. =>false
 | .own .. =>false
 | .it _=>false
 | .sl .. =>false
 | .ref .. =>false
 |_=>true
@[go_sem] def lg:List D->Bool
 |[]=>true
 |d::r=>d.ee&&lg r
end
inductive bM where
 |buf (k:Nat) (es:List D)
 |iter (s:List UInt8) (pos:Nat)
 |row (s:List UInt8)
 |bld (o:Option Nat) (n:Nat) (u:Bool)
 deriving Inhabited
structure St where
 nx:Nat
 m:List (Nat×bM)
@[go_sem] def look:List (Nat×bM)->Nat->Option bM
 |[],_=>none
 |(a,b)::r,l=>if a=l then some b else look r l
@[go_sem] def cS:List (Nat×bM)->Nat->bM->List (Nat×bM)
 |[],l,b=>[(l,b)]
 |(a,x)::r,l,b=>if a=l then(a,b)::r else(a,x)::cS r l b
@[go_sem] def ct:List (Nat×bM)->Nat->List (Nat×bM)
 |[],_=>[]
 |(a,x)::r,l=>if a=l then ct r l else(a,x)::ct r l
structure b8 where
 ok:Bool
 d:D
@[go_sem] def b8.un:b8:=⟨true,.any⟩
@[go_sem] def Src.ev (env vs:List b8):Src->b8
 | .s n=>env.getD n .un
 | .l p=>vs.getD p .un
 | .c d=>⟨true,d⟩
structure Ctx where
 pre:Nat->List D->Prop
 val:Nat->List D->D
 tr:Nat->List D->St->(D->St->Prop)->Prop
 fp:Nat->D->List D->Prop
 fv:Nat->D->List D->D
 fs:Nat->D->List D->D
 lo:Nat
@[go_sem] def aW (m:List (Nat×bM))(l:Nat):List D:=match look m l with
 |some (.buf _ es)=>es
 |_=>[]
@[go_sem] def eg (m:List (Nat×bM))(l k n:Nat):Prop:=match look m l with
 |some (.buf k' es)=>k=k'/\n<=es.length
 |_=>False
@[go_sem] def nw (m:List (Nat×bM)):D->List D
 | .sl _ es=>es
 | .own l _ i n=>((aW m l).drop i).take n
 | .str s=>s.map fun b=>.int .u8 b.toNat
 |_=>[]
@[go_sem] def yq (m:List (Nat×bM))(k:Nat):D->Prop
 | .sl k' _=>k'=k
 | .own l k' i n=>k'=k/\eg m l k (i+n)
 | .str _=>k=1
 | .aB=>True
 |_=>False
mutual
@[go_sem] def lj (m:List (Nat×bM)):Sh->D->D
 | .a,d=>match d with
  | .aB=>.sl 0 []
  |d=>d
 | .sl k cs,d=>match d with
  | .aB=>.sl k []
  | .own l k' i c=>.sl k' ((((aW m l).drop i).take c).map (iH m cs))
  |d=>d
 | .pt cs,d=>match d with
  | .ptr l k i o=>.ref k ((aW m l).map (iH m cs)) i o
  |d=>d
 | .kp cs,d=>match d with
  | .own l k' i c=>.sl k' ((((aW m l).drop i).take c).map (iH m cs))
  |d=>d
@[go_sem] def iH (m:List (Nat×bM)):List Sh->D->D
 |[],d=>d
 |s::r,d=>match d with
  | .agg cs=>.agg (mB m (s::r) cs)
  |d=>lj m s d
@[go_sem] def mB (m:List (Nat×bM)):List Sh->List D->List D
 |[],ds=>ds
 |s::r,ds=>match ds with
  |[]=>[]
  |d::ds=>lj m s d::mB m r ds
end
mutual
@[go_sem] def iT (m:List (Nat×bM)):Sh->D->Prop
 | .a,d=>d.bc=true
 | .sl _ cs,d=>match d with
  | .own l k' i c=>eg m l k' (i+c)/\∀e∈((aW m l).drop i).take c,gD m cs e
  |d=>d.bc=true
 | .pt cs,d=>match d with
  | .ptr l k _ _=>eg m l k 0/\∀e∈aW m l,gD m cs e
  |d=>d.bc=true
 | .kp cs,d=>match d with
  | .own l k' i c=>eg m l k' (i+c)/\∀e∈((aW m l).drop i).take c,gD m cs e
  |d=>d.bc=true
@[go_sem] def gD (m:List (Nat×bM)):List Sh->D->Prop
 |[],d=>d.bc=true
 |s::r,d=>match d with
  | .agg cs=>kE m (s::r) cs
  |d=>iT m s d
@[go_sem] def kE (m:List (Nat×bM)):List Sh->List D->Prop
 |[],ds=>aV ds=true
 |s::r,ds=>match ds with
  |[]=>True
  |d::ds=>iT m s d/\kE m r ds
end
@[go_sem] def jC (op:BinOp):D->D->D
 | .int k a,.int _ b=>match op with
  | .add=>.int k (k.wrap (a+b))
  | .sub=>.int k (k.wrap (a-b))
  | .mul=>.int k (k.wrap (a*b))
  | .quo=>.int k (k.wrap (a.tdiv b))
  | .rem=>.int k (a.tmod b)
  | .eql=>.bool (a==b)| .neq=>.bool (a !=b)| .lss=>.bool (decide (a<b))| .leq=>.bool (decide (a<=b))| .gtr=>.bool (decide (b<a))| .geq=>.bool (decide (b<=a))
  | .shl=>.int k (k.wrap (a*2^(min b.toNat k.bits)))
  | .shr=>.int k (a.fdiv (2^(min b.toNat k.bits)))
  | .and=>.int k (k.wrap (((BitVec.ofInt k.bits a)&&&(BitVec.ofInt k.bits b)).toNat))
  | .or=>.int k (k.wrap (((BitVec.ofInt k.bits a) |||(BitVec.ofInt k.bits b)).toNat))
  | .xor=>.int k (k.wrap (((BitVec.ofInt k.bits a)^^^(BitVec.ofInt k.bits b)).toNat))
  | .andNot=>.int k (k.wrap (((BitVec.ofInt k.bits a)&&& ~~~(BitVec.ofInt k.bits b)).toNat))
 | .str a,.str b=>match op with
  | .add=>.str (a++b)
  | .eql=>.bool (a==b)| .neq=>.bool (!(a==b))| .lss=>.bool (Op.bytesLess a b)| .geq=>.bool (!(Op.bytesLess a b))
  | .leq=>.bool (Op.bytesLess a b ||a==b)| .gtr=>.bool (!(Op.bytesLess a b ||a==b))
  |_=>.any
 |_,_=>.any
@[go_sem] def iZ (op:BinOp):D->D->Prop
 | .int k a,.int k' b=>match op with
  | .quo=>k=k'/\b≠0
  | .rem=>k=k'/\b≠0
  | .shl=>0<=b
  | .shr=>0<=b
  |_=>k=k'
 | .str a,.str b=>match op with
  | .add=>a.length+b.length<=9223372036854775807
  | .eql=>True| .neq=>True| .lss=>True| .geq=>True| .leq=>True| .gtr=>True
  |_=>False
 |_,_=>False
@[go_sem] def D.pick (b:Bool):D->D->D
 | .bool x,.bool y=>.bool (bif b then x else y)
 |x,y=>bif b then x else y
@[go_sem] def cut (cs:List D)(o n:Nat)(ag:Bool):D:=bif ag then .agg ((cs.drop o).take n)else cs.getD o .any
@[go_sem] def nA (e:D)(k n o:Nat)(ag:Bool):D:=bif (n==k)&&(e.isAgg==ag)then e else cut e.cells o n ag
@[go_sem] def tS (m:List (Nat×bM))(n:Nat)(ag:Bool):D->D
 | .ptr l k i o=>nA ((aW m l).getD i .any) k n o ag
 | .ref k es i o=>nA (es.getD i .any) k n o ag
 | .fn _ es=>nA (es.getD 0 .any) 1 n 0 ag
 |_=>.any
@[go_sem] def wO (m:List (Nat×bM))(n:Nat):D->Prop
 | .ptr l k i o=>eg m l k (i+1)/\o+n<=k
 | .ref k es i o=>i<es.length/\o+n<=k
 | .fn q es=>q=3000000/\n=1/\es.length=1/\(es.getD 0 .any).cells=[es.getD 0 .any]
 |_=>False
mutual
@[go_sem] def N4:D->D->Bool
 | .bool a,.bool b=>a==b
 | .int _ a,.int _ b=>a==b
 | .str a,.str b=>a==b
 |_,_=>false
@[go_sem] def ij:List D->List D->Bool
 |[],[]=>true
 |a::r,b::s=>N4 a b&&ij r s
 |_,_=>false
end
@[go_sem] def CK.fits:CK->D->Prop
 | .b,.bool _=>True
 | .i k,.int k' _=>k'=k
 | .s,.str _=>True
 |_,_=>False
@[go_sem] def ff:List CK->List D->Prop
 |[],[]=>True
 |c::r,d::s=>c.fits d/\ff r s
 |_,_=>False
@[go_sem] def over (cs:List D)(o:Nat)(new:List D):List D:=cs.take o++(new++cs.drop (o+new.length))
@[go_sem] def vW (e:D)(k n o:Nat)(v:D):D:=bif (n==k)&&(v.isAgg ||!e.isAgg)then v else .agg (over e.cells o v.cells)
@[go_sem] def uI (J:Src->b8)(cs:List D):List (Nat×Nat×Src)->List D
 |[]=>cs
 |(o,_,s)::r=>uI J (over cs o (J s).d.cells) r
@[go_sem] def xg (J:Src->b8)(len:Nat):List (Nat×Nat×Src)->Prop
 |[]=>True
 |(o,n,s)::r=>(J s).ok=true/\(J s).d.cells.length=n/\o+n<=len/\xg J len r
@[go_sem] def jZ (J:Src->b8)(es:List D):List (Nat×Src)->List D
 |[]=>es
 |(i,s)::r=>jZ J (es.set i (J s).d) r
@[go_sem] def n7 (J:Src->b8)(k n:Nat):List (Nat×Src)->Prop
 |[]=>True
 |(i,s)::r=>i<n/\(J s).ok=true/\(J s).d.cells.length=k/\n7 J k n r
@[go_sem] def D.nat:D->Nat
 | .int _ n=>n.toNat
 |_=>0
@[go_sem] def dW (o:Option D)(dflt:Nat):Nat:=match o with
 |some (.int _ n)=>n.toNat
 |_=>dflt
@[go_sem] def mP (o:Option D)(hi:Nat):Prop:=match o with
 |none=>True
 |some (.int _ n)=>0<=n/\n<=hi
 |_=>False
@[go_sem] def Hc (J:Src->b8):Option Src->Prop
 |none=>True
 |some s=>(J s).ok=true
@[go_sem] def dO (J:Src->b8):Option Src->Option D
 |none=>none
 |some s=>some (J s).d
@[go_sem] def sU (J:Src->b8):List Src->Prop
 |[]=>True
 |s::r=>(J s).ok=true/\sU J r
@[go_sem] def gL (J:Src->b8):List Src->List D
 |[]=>[]
 |s::r=>(J s).d::gL J r
@[go_sem] def D.u8:D->UInt8
 | .int _ n=>UInt8.ofNat n.toNat
 |_=>0
@[go_sem] def D.Gb:D->Prop
 | .int k n=>k=.u8/\0<=n/\n<256
 |_=>False
def rH (s:List UInt8)(pos:Nat):Nat×Nat:=Utf8.decode ⟨⟨s⟩⟩ pos
def JJ (n:Int):List UInt8:=(Utf8.encode n).data.toList
@[go_sem] def fU (m:List (Nat×bM)):List (List Sh)->List D->List D
 |_,[]=>[]
 |[],d::r=>iH m [.a] d::fU m [] r
 |s::ss,d::r=>iH m s d::fU m ss r
@[go_sem] def iU (m:List (Nat×bM)):List (List Sh)->List D->Prop
 |_,[]=>True
 |[],d::r=>gD m [.a] d/\iU m [] r
 |s::ss,d::r=>gD m s d/\iU m ss r
@[go_sem] def IB (s:List UInt8):List D->D
 | .str a::f::r=>bif a==s then f else IB s r
 |_=>.nilf
@[go_sem] def Og:List D->Prop
 |[]=>True
 | .str _::_::r=>Og r
 |_=>False
@[go_sem] def aG.val (Y:Ctx)(J:Src->b8)(m:List (Nat×bM))(L:Nat):aG->D
 | .mv x=>(J x).d
 | .pick c a b=>match(J c).d with| .bool t=>D.pick t (J a).d (J b).d|_=>.any
 | .box k _=>.ptr L k 0 0
 | .build z ps=>.agg (uI J z ps)
 | .bsl k _ n _=>.own L k 0 n
 | .ld n ag p=>tS m n ag (J p).d
 | .st _ _ _=>.any
 | .nilck x=>(J x).d
 | .bin op x y=>jC op (J x).d (J y).d
 | .eqA neg _ _ x y=>.bool (bif neg then !(ij (J x).d.cells (J y).d.cells)else ij (J x).d.cells (J y).d.cells)
 | .un op x=>match op,(J x).d with
  | .not,.bool b=>.bool (!b)
  | .neg,.int k n=>.int k (k.wrap (0-n))
  |_,_=>.any
 | .cvi k x=>match(J x).d with| .int _ n=>.int k (k.wrap n)|_=>.any
 | .mn x y=>match(J x).d,(J y).d with| .int k a,.int _ b=>.int k (if b<a then b else a)|_,_=>.any
 | .s2b x=>match(J x).d with| .str s=>.own L 1 0 s.length|_=>.any
 | .b2s x=>.str ((nw m (J x).d).map D.u8)
 | .i2s x=>match(J x).d with| .int _ n=>.str (JJ n)|_=>.any
 | .mkf f caps=>.fn f (gL J caps)
 | .mks k _ ln _=>.own L k 0 (J ln).d.nat
 | .slS x lo hi=>match(J x).d with
  | .str s=>.str ((s.take (dW (dO J hi) s.length)).drop (dW (dO J lo) 0))
  |_=>.any
 | .slA _ x lo hi=>match(J x).d with
  | .sl k es=>.sl k ((es.take (dW (dO J hi) es.length)).drop (dW (dO J lo) 0))
  | .own l k i n=>.own l k (i+dW (dO J lo) 0) (dW (dO J hi) n-dW (dO J lo) 0)
  | .aB=>.aB
  |_=>.any
 | .slX _ x hi _=>match(J x).d,(J hi).d with
  | .sl k es,.int _ h=>.sl k (es.take h.toNat)
  | .own l k i _,.int _ h=>.own l k i h.toNat
  | .aB,_=>.aB
  |_,_=>.any
 | .fa off p=>match(J p).d with
  | .ptr l k i o=>.ptr l k i (o+off)
  | .ref k es i o=>.ref k es i (o+off)
  |_=>.any
 | .fld off n ag x=>cut (J x).d.cells off n ag
 | .ia _ x i=>match(J x).d,(J i).d with
  | .sl k es,.int _ n=>.ref k es n.toNat 0
  | .own l k j _,.int _ n=>.ptr l k (j+n.toNat) 0
  |_,_=>.any
 | .iaP _ k x i=>match(J x).d,(J i).d with
  | .ptr l k' j o,.int _ n=>.ptr l k' j (o+n.toNat*k)
  | .ref k' es j o,.int _ n=>.ref k' es j (o+n.toNat*k)
  |_,_=>.any
 | .ixS x i=>match(J x).d,(J i).d with
  | .str s,.int _ n=>.int .u8 (s.getD n.toNat 0).toNat
  |_,_=>.any
 | .ixA _ k ag x i=>match(J i).d with
  | .int _ n=>cut (J x).d.cells (n.toNat*k) k ag
  |_=>.any
 | .ext x i=>match(J x).d with| .tup ds=>ds.getD i .any|_=>.any
 | .len x=>match(J x).d with
  | .sl _ es=>.int .i64 es.length
  | .own _ _ _ n=>.int .i64 n
  | .aB=>.int .i64 0
  |_=>.any
 | .lenS x=>match(J x).d with
  | .str s=>.int .i64 s.length
  |_=>.any
 | .app k x y=>match(J x).d with
  | .own _ _ _ n=>.own L k 0 (n+(nw m (J y).d).length)
  |_=>.own L k 0 (nw m (J y).d).length
 | .call f args sh=>Y.val f (fU m sh (gL J args))
 | .callv f args sh=>match(J f).d with
  | .fn n caps=>Y.val n (fU m sh (gL J args++caps))
  |_=>.any
 | .callM _ _=>.any
 | .callvM _ _=>.any
 | .callL .. =>.any
 | .ldU n ag p=>tS m n ag (J p).d
 | .ldI n ag p=>match(J p).d with
  | .ref k es i o=>nA (es.getD i .any) k n o ag
  | .fn _ es=>nA (es.getD 0 .any) 1 n 0 ag
  |_=>.any
 | .appN k y=>.own L k 0 (nw m (J y).d).length
 | .bslI k z n ps=>.sl k (jZ J (List.replicate n z) ps)
 | .callF f r args sh=>match(J r).d with
  | .ptr l _ _ _=>Y.fv f ((aW m l).getD 0 .any) (fU [] sh (gL J args))
  |_=>.any
 | .rng _=>.it L
 | .mkB=>.ptr L 2 0 0
 | .lkp x k=>match(J x).d,(J k).d with| .fn _ es,.str s=>IB s es|_,_=>.any
 | .isF x=>match(J x).d with| .nilf=>.bool true|_=>.bool false
 | .isNl .. =>.any
 | .mkI n x=>.fn (n+4000000) [(J x).d]
 | .isI x=>match(J x).d with| .fn n _=>.bool (n==4600000)|_=>.any
 | .tas n z x=>match(J x).d with| .fn k cs=>bif k==n+4000000 then .tup [cs.getD 0 .any,.bool true]else .tup [z,.bool false]|_=>.any
 | .invk x=>match(J x).d with| .fn k cs=>Y.val (k-4000000) (fU m [] cs)|_=>.any
 | .zal=>.fn 4700000 []
 | .zst _ _=>.any
 | .bH x=>match(J x).d with
  | .it l=>match look m l with
   |some (.iter s pos)=>bif decide (pos<s.length)then .tup [.bool true,.int .i64 pos,.int .i32 (rH s pos).1]else .tup [.bool false]
   |_=>.any
  |_=>.any
@[go_sem] def nY (args:List D)(r:D):Bool:=aV args ||r.ee
@[go_sem] def aG.dF (Y:Ctx)(J:Src->b8)(m:List (Nat×bM)):aG->Prop
 | .mv x=>(J x).ok=true
 | .pick c a b=>(J c).ok=true/\match(J c).d with
  | .bool t=>(t=true->(J a).ok=true)/\(t=false->(J b).ok=true)
  |_=>False
 | .box k x=>(J x).ok=true/\(J x).d.cells.length=k
 | .build z ps=>xg J z.length ps
 | .bsl k z n ps=>z.cells.length=k/\n7 J k n ps
 | .ld n _ p=>(J p).ok=true/\wO m n (J p).d
 | .st n p v=>(J p).ok=true/\(J v).ok=true/\(J v).d.cells.length=n/\match(J p).d with
  | .ptr l k i o=>eg m l k (i+1)/\o+n<=k
  |_=>False
 | .nilck x=>(J x).ok=true/\match(J x).d with| .ptr .. =>True| .ref .. =>True|_=>False
 | .bin op x y=>(J x).ok=true/\(J y).ok=true/\iZ op (J x).d (J y).d
 | .eqA _ ag ks x y=>(J x).ok=true/\(J y).ok=true/\(J x).d.isAgg=ag/\(J y).d.isAgg=ag/\ff ks (J x).d.cells/\ff ks (J y).d.cells
 | .un op x=>(J x).ok=true/\match op,(J x).d with
  | .not,.bool _=>True
  | .neg,.int _ _=>True
  |_,_=>False
 | .cvi _ x=>(J x).ok=true/\match(J x).d with| .int _ _=>True|_=>False
 | .mn x y=>(J x).ok=true/\(J y).ok=true/\match(J x).d,(J y).d with| .int _ _,.int _ _=>True|_,_=>False
 | .s2b x=>(J x).ok=true/\match(J x).d with| .str _=>True|_=>False
 | .b2s x=>(J x).ok=true/\(match(J x).d with| .str _=>False|_=>True)/\yq m 1 (J x).d/\∀e∈nw m (J x).d,e.Gb
 | .i2s x=>(J x).ok=true/\match(J x).d with| .int _ _=>True|_=>False
 | .mkf _ caps=>sU J caps
 | .mks k z ln cp=>(J ln).ok=true/\(J cp).ok=true/\z.cells.length=k/\match(J ln).d,(J cp).d with
  | .int _ n,.int _ c=>0<=n/\n<=c/\c<=1073741824
  |_,_=>False
 | .slS x lo hi=>(J x).ok=true/\Hc J lo/\Hc J hi/\match(J x).d with
  | .str s=>mP (dO J hi) s.length/\mP (dO J lo) (dW (dO J hi) s.length)
  |_=>False
 | .slA k x lo hi=>(J x).ok=true/\Hc J lo/\Hc J hi/\match(J x).d with
  | .sl k' es=>k'=k/\mP (dO J hi) es.length/\mP (dO J lo) (dW (dO J hi) es.length)
  | .own _ k' _ n=>k'=k/\mP (dO J hi) n/\mP (dO J lo) (dW (dO J hi) n)
  | .aB=>mP (dO J hi) 0/\mP (dO J lo) 0
  |_=>False
 | .slX k x hi mx=>(J x).ok=true/\(J hi).ok=true/\(J mx).ok=true/\match(J hi).d,(J mx).d with
  | .int _ h,.int _ m=>0<=h/\h<=m/\(match(J x).d with
    | .sl k' es=>k'=k/\m<=es.length
    | .own _ k' _ n=>k'=k/\m<=n
    | .aB=>m=0
    |_=>False)
  |_,_=>False
 | .fa off p=>(J p).ok=true/\match(J p).d with| .ptr .. =>True| .ref .. =>True|_=>False
 | .fld off n ag x=>(J x).ok=true/\match(J x).d with| .agg cs=>off+n<=cs.length/\(ag=false->n=1)|_=>False
 | .ia k x i=>(J x).ok=true/\(J i).ok=true/\match(J x).d,(J i).d with
  | .sl k' es,.int _ n=>k'=k/\0<=n/\n<es.length
  | .own _ k' _ c,.int _ n=>k'=k/\0<=n/\n<c
  |_,_=>False
 | .iaP n k x i=>(J x).ok=true/\(J i).ok=true/\match(J x).d,(J i).d with
  | .ptr ..,.int _ c=>0<=c/\c<n
  | .ref ..,.int _ c=>0<=c/\c<n
  |_,_=>False
 | .ixS x i=>(J x).ok=true/\(J i).ok=true/\match(J x).d,(J i).d with
  | .str s,.int _ n=>0<=n/\n<s.length
  |_,_=>False
 | .ixA n k ag x i=>(J x).ok=true/\(J i).ok=true/\(ag=false->k=1)/\match(J x).d,(J i).d with
  | .agg cs,.int _ c=>0<=c/\c<n/\cs.length=n*k
  |_,_=>False
 | .ext x i=>(J x).ok=true/\match(J x).d with| .tup ds=>i<ds.length|_=>False
 | .len x=>(J x).ok=true/\match(J x).d with| .sl _ _=>True| .own .. =>True| .aB=>True|_=>False
 | .lenS x=>(J x).ok=true/\match(J x).d with| .str _=>True|_=>False
 | .app k x y=>(J x).ok=true/\(J y).ok=true/\yq m k (J y).d/\match(J x).d with
  | .own l k' i n=>k'=k/\eg m l k (i+n)/\n+(nw m (J y).d).length<=1073741824
  | .aB=>(nw m (J y).d).length<=1073741824
  |_=>False
 | .call f args sh=>sU J args/\iU m sh (gL J args)/\Y.pre f (fU m sh (gL J args))/\nY (gL J args) (Y.val f (fU m sh (gL J args)))=true
 | .callv f args sh=>(J f).ok=true/\sU J args/\match(J f).d with
  | .fn n caps=>n<1000000/\iU m sh (gL J args++caps)/\Y.pre n (fU m sh (gL J args++caps))/\nY (gL J args++caps) (Y.val n (fU m sh (gL J args++caps)))=true
  |_=>False
 | .callM _ args=>sU J args
 | .callvM _ args=>sU J args
 | .callL _ args _=>sU J args
 | .ldU n _ p=>(J p).ok=true/\match(J p).d with
  | .ptr l k i o=>(eg m l k (i+1)/\o+n<=k)/\aV (aW m l)=false
  | .ref k es i o=>i<es.length/\o+n<=k
  |_=>False
 | .ldI n _ p=>(J p).ok=true/\match(J p).d with
  | .ref k es i o=>i<es.length/\o+n<=k
  | .fn q es=>q=3000000/\n=1/\es.length=1/\(es.getD 0 .any).cells=[es.getD 0 .any]
  |_=>False
 | .appN k y=>(J y).ok=true/\yq m k (J y).d/\(nw m (J y).d).length<=1073741824
 | .bslI k z n ps=>z.cells.length=k/\n7 J k n ps/\aV (jZ J (List.replicate n z) ps)=true
 | .callF f r args sh=>(J r).ok=true/\sU J args/\aV (gL J args)=true/\match(J r).d with
  | .ptr l k i o=>i=0/\o=0/\eg m l k 1/\(aW m l).length=1/\((aW m l).getD 0 .any).bc=true/\Y.fp f ((aW m l).getD 0 .any) (fU [] sh (gL J args))
  |_=>False
 | .rng x=>(J x).ok=true/\match(J x).d with| .str _=>True|_=>False
 | .mkB=>True
 | .lkp x k=>(J x).ok=true/\(J k).ok=true/\match(J x).d,(J k).d with
  | .fn n es,.str _=>n=2000000/\Og es
  |_,_=>False
 | .isNl .. =>True
 | .mkI _ x=>(J x).ok=true
 | .isI x=>(J x).ok=true/\match(J x).d with| .fn n _=>4000000<=n/\n<=4600000|_=>False
 | .tas n z x=>(J x).ok=true/\match(J x).d with| .fn k _=>4000000<=k/\k<=4600000|_=>False
 | .invk x=>(J x).ok=true/\match(J x).d with| .fn k cs=>(4000000<=k/\k<4600000)/\aV cs=true/\Y.pre (k-4000000) (fU m [] cs)|_=>False
 | .zal=>True
 | .zst p v=>(J p).ok=true/\(J v).ok=true/\match(J p).d,(J v).d with| .fn k _,.agg []=>k=4700000|_,_=>False
 | .isF x=>(J x).ok=true/\match(J x).d with| .nilf=>True| .fn n _=>n<2000000|_=>False
 | .bH x=>(J x).ok=true/\match(J x).d with
  | .it l=>match look m l with
   |some (.iter _ _)=>True
   |_=>False
  |_=>False
@[go_sem] def Src.DF:Src->Bool
 | .s _=>true
 |_=>false
@[go_sem] def aG.yi (draw:Bool)(J:Src->b8):aG->Prop
 | .len x=>bif draw&& !x.DF then True else(J x).ok=true->match(J x).d with
  | .sl _ es=>es.length<=9223372036854775807
  | .own _ _ _ n=>n<=9223372036854775807
  |_=>True
 | .lenS x=>bif draw&& !x.DF then True else(J x).ok=true->match(J x).d with
  | .str s=>s.length<=9223372036854775807
  |_=>True
 |_=>True
@[go_sem] def aG.cC (Y:Ctx)(J:Src->b8)(m:List (Nat×bM))(L:Nat):aG->List (Nat×bM)
 | .box k x=>cS m L (.buf k [(J x).d])
 | .bsl k z n ps=>cS m L (.buf k (jZ J (List.replicate n z) ps))
 | .mks k z ln _=>cS m L (.buf k (List.replicate (J ln).d.nat z))
 | .s2b x=>match(J x).d with
  | .str s=>cS m L (.buf 1 (s.map fun b=>.int .u8 b.toNat))
  |_=>m
 | .st n p v=>match(J p).d with
  | .ptr l k i o=>cS m l (.buf k ((aW m l).set i (vW ((aW m l).getD i .any) k n o (J v).d)))
  |_=>m
 | .app k x y=>match(J x).d with
  | .own l k' i n=>cS (ct m l) L (.buf k ((((aW m l).drop i).take n)++nw m (J y).d))
  |_=>cS m L (.buf k (nw m (J y).d))
 | .appN k y=>cS m L (.buf k (nw m (J y).d))
 | .callF f r args sh=>match(J r).d with
  | .ptr l k _ _=>cS m l (.buf k [Y.fs f ((aW m l).getD 0 .any) (fU [] sh (gL J args))])
  |_=>m
 | .rng x=>match(J x).d with
  | .str s=>cS m L (.iter s 0)
  |_=>m
 | .mkB=>cS m L (.bld none 0 false)
 | .bH x=>match(J x).d with
  | .it l=>match look m l with
   |some (.iter s pos)=>bif decide (pos<s.length)then cS m l (.iter s (pos+(rH s pos).2))else m
   |_=>m
  |_=>m
 |_=>m
@[go_sem] def cZ:D->List Nat
 | .ptr l _ _ _=>[l]
 | .own l _ _ _=>[l]
 | .it l=>[l]
 |_=>[]
@[go_sem] def aG.kV (J:Src->b8):aG->Option (List Nat)
 | .ld _ _ p=>some (cZ (J p).d)
 | .ldU _ _ p=>some (cZ (J p).d)
 | .st _ p _=>some (cZ (J p).d)
 | .b2s x=>some (cZ (J x).d)
 | .app _ x y=>some (cZ (J x).d++cZ (J y).d)
 | .bH x=>some (cZ (J x).d)
 | .call _ args _=>bif aV (gL J args)then some []else none
 | .callv f args _=>match(J f).d with
  | .fn _ caps=>bif aV (gL J args++caps)then some []else none
  |_=>none
 | .callM _ _=>none
 | .callvM _ _=>none
 | .callL .. =>none
 | .isNl .. =>none
 | .callF _ r _ _=>some (cZ (J r).d)
 | .appN _ y=>some (cZ (J y).d)
 |_=>some []
@[go_sem] def aG.wr (J:Src->b8)(L:Nat):aG->List Nat
 | .box .. =>[L]
 | .bsl .. =>[L]
 | .mks .. =>[L]
 | .s2b _=>[L]
 | .rng _=>[L]
 | .mkB=>[L]
 | .st _ p _=>cZ (J p).d
 | .app _ x _=>L::cZ (J x).d
 | .bH x=>cZ (J x).d
 | .callF _ r _ _=>cZ (J r).d
 | .appN .. =>[L]
 |_=>[]
@[go_sem] def aG.calm:aG->Bool
 | .st .. =>false
 | .app .. =>false
 | .bH .. =>false
 | .callM .. =>false
 | .callvM .. =>false
 | .callL .. =>false
 | .isNl .. =>false
 | .callF .. =>false
 |_=>true
@[go_sem] def flag (vs:List b8):Option (Nat×Bool)->Bool
 |none=>true
 |some (j,w)=>(vs.getD j .un).ok&&match(vs.getD j .un).d with
  | .bool b=>b==w
  |_=>false
@[go_sem] def Ha (vs:List b8)(i:aG):Option (Nat×Bool)->Prop
 |none=>True
 |some (j,_)=>i.calm=true/\((vs.getD j .un).ok=true->(vs.getD j .un).d.isBool=true)
@[go_sem] def aG.mr (draw:Bool)(g:Option (Nat×Bool))(i:aG):Bool:=!draw&&(!i.calm&&g.isSome)
@[go_sem] def tj (vs:List b8):Option (Nat×Bool)->Prop
 |none=>True
 |some (j,_)=>(vs.getD j .un).ok=true->(vs.getD j .un).d.isBool=true
@[go_sem] def MM (d:D)(b:Bool):Prop:=match d with
 | .aB=>b=true
 | .sl _ es=>b=true->es=[]
 | .own _ _ _ n=>b=true->n=0
 |_=>True
@[go_sem] def MU:D->Prop
 | .aB=>True
 | .sl .. =>True
 | .own .. =>True
 |_=>False
@[go_sem] def FR (n:Nat):Nat:=if n<1000000 then n else n-1000000
@[go_sem] def FQ (n:Nat)(Z5 caps:List D):List D:=if n<1000000 then Z5++caps else caps++Z5
def dZ (Y:Ctx)(draw:Bool):List GI->(env vs:List b8)->St->(List b8->St->Prop)->Prop
 |[],_,vs,st,K=>K vs {st with nx:=st.nx+vs.length}
 |⟨.callM f args,g⟩::r,env,vs,st,K=>
  tj vs g/\(flag vs g=true->sU (Src.ev env vs) args/\
   Y.tr f (gL (Src.ev env vs) args) {st with nx:=st.nx+vs.length} fun d st'=>st.nx+vs.length<=st'.nx/\dZ Y draw r env (vs++[⟨true,d⟩]) {st' with nx:=st'.nx-vs.length} K)/\
   (flag vs g=false->dZ Y draw r env (vs++[⟨false,.any⟩]) st K)
 |⟨.callvM f args,g⟩::r,env,vs,st,K=>
  tj vs g/\(flag vs g=true->(Src.ev env vs f).ok=true/\sU (Src.ev env vs) args/\match(Src.ev env vs f).d with
   | .fn n caps=>n<2000000/\Y.tr (FR n) (FQ n (gL (Src.ev env vs) args) caps) {st with nx:=st.nx+vs.length} fun d st'=>st.nx+vs.length<=st'.nx/\dZ Y draw r env (vs++[⟨true,d⟩]) {st' with nx:=st'.nx-vs.length} K
   |_=>False)/\
   (flag vs g=false->dZ Y draw r env (vs++[⟨false,.any⟩]) st K)
 |⟨.callL f args chk,g⟩::r,env,vs,st,K=>
  g=none/\sU (Src.ev env vs) args/\
   Y.tr f (gL (Src.ev env vs) args) {st with nx:=st.nx+vs.length} fun d st'=>(∀c∈chk,(vs.getD c.1 .un).ok=true->wO st'.m c.2.1 (Src.ev env (vs.take c.1) c.2.2.2).d/\tS st'.m c.2.1 c.2.2.1 (Src.ev env (vs.take c.1) c.2.2.2).d=(vs.getD c.1 .un).d)/\
    st.nx+vs.length<=st'.nx/\dZ Y draw r env (vs++[⟨true,d⟩]) {st' with nx:=st'.nx-vs.length} K
 |⟨.isNl x ng,g⟩::r,env,vs,st,K=>
  tj vs g/\(flag vs g=true->(Src.ev env vs x).ok=true/\MU (Src.ev env vs x).d/\∀b,MM (Src.ev env vs x).d b->dZ Y draw r env (vs++[⟨true,.bool (bif ng then !b else b)⟩]) st K)/\
   (flag vs g=false->dZ Y draw r env (vs++[⟨false,.any⟩]) st K)
 |⟨i,g⟩::r,env,vs,st,K=>
  if i.mr draw g=true then
   tj vs g/\(flag vs g=true->i.dF Y (Src.ev env vs) st.m/\
     dZ Y draw r env (vs++[⟨true,i.val Y (Src.ev env vs) st.m (st.nx+vs.length)⟩]) {st with m:=i.cC Y (Src.ev env vs) st.m (st.nx+vs.length)} K)/\
    (flag vs g=false->dZ Y draw r env (vs++[⟨false,.any⟩]) st K)
  else
  Ha vs i g/\(flag vs g=true->i.dF Y (Src.ev env vs) st.m)/\
   ((flag vs g=true->i.yi draw (Src.ev env vs))->∃d,(flag vs g=true->i.val Y (Src.ev env vs) st.m (st.nx+vs.length)=d)/\
     dZ Y draw r env (vs++[⟨flag vs g,d⟩]) {st with m:=i.cC Y (Src.ev env vs) st.m (st.nx+vs.length)} K)
mutual
@[go_sem] def er (l k:Nat)(es:List D):D->D
 | .own l' k' i n=>if l'=l/\k'=k/\i+n<=es.length then .sl k ((es.drop i).take n)else .own l' k' i n
 | .ptr l' k' i o=>if l'=l/\k'=k then .ref k es i o else .ptr l' k' i o
 | .agg cs=>.agg (eD l k es cs)
 | .tup cs=>.tup (eD l k es cs)
 | .fn f cs=>.fn f (eD l k es cs)
 | .any=>.any
 | .bool b=>.bool b
 | .int k n=>.int k n
 | .str s=>.str s
 | .aB=>.aB
 | .sl k es=>.sl k es
 | .ref k es i o=>.ref k es i o
 | .nilp=>.nilp
 | .nilf=>.nilf
 | .it l=>.it l
@[go_sem] def eD (l k:Nat)(es:List D):List D->List D
 |[]=>[]
 |d::r=>er l k es d::eD l k es r
end
@[go_sem] def gY (l k:Nat)(es:List D):bM->bM
 | .buf k' es'=>.buf k' (eD l k es es')
 |b=>b
@[go_sem] def gy (l k:Nat)(es:List D):List (Nat×bM)->List (Nat×bM)
 |[]=>[]
 |(a,b)::r=>(a,gY l k es b)::gy l k es r
@[go_sem] def gp (l k:Nat)(es:List D):List b8->List b8
 |[]=>[]
 |⟨ok,d⟩::r=>⟨ok,er l k es d⟩::gp l k es r
@[go_sem] def G9 (l:Nat)(s:List b8×List (Nat×bM)):List b8×List (Nat×bM):=match look s.2 l with
 |some (.buf k es)=>bif aV es then(gp l k es s.1,gy l k es (ct s.2 l))else s
 |_=>s
@[go_sem] def frzs:List Nat->List b8×List (Nat×bM)->List b8×List (Nat×bM)
 |[],s=>s
 |l::r,s=>frzs r (G9 l s)
inductive Ex where
 |normal|exit (id:Nat)|ret
@[go_sem] def fT (env vs:List b8):List (Nat×Nat)->List b8
 |[]=>env
 |(s,p)::r=>fT (env.set s (vs.getD p .un)) vs r
@[go_sem] def fH (lo:Nat)(σ:List (Nat×Nat))(l:Nat):Option Nat:=match σ with
 |[]=>bif Nat.blt l lo then some l else none
 |(a,b)::r=>bif Nat.beq a l then some b else fH lo r l
@[go_sem] def rr (lo:Nat)(σ:List (Nat×Nat))(l:Nat)(f:Nat->D):Option D:=match fH lo σ l with
 |some l'=>some (f l')
 |none=>none
mutual
@[go_sem] def kv (lo:Nat)(σ:List (Nat×Nat)):D->Option D
 | .own l k i n=>rr lo σ l fun l=>.own l k i n
 | .ptr l k i o=>rr lo σ l fun l=>.ptr l k i o
 | .it l=>rr lo σ l fun l=>.it l
 | .agg cs=>match iA lo σ cs with
  |some cs=>some (.agg cs)
  |none=>none
 | .tup cs=>match iA lo σ cs with
  |some cs=>some (.tup cs)
  |none=>none
 | .fn f cs=>match iA lo σ cs with
  |some cs=>some (.fn f cs)
  |none=>none
 | .any=>some .any
 | .bool b=>some (.bool b)
 | .int k n=>some (.int k n)
 | .str s=>some (.str s)
 | .aB=>some .aB
 | .sl k es=>some (.sl k es)
 | .ref k es i o=>some (.ref k es i o)
 | .nilp=>some .nilp
 | .nilf=>some .nilf
@[go_sem] def iA (lo:Nat)(σ:List (Nat×Nat)):List D->Option (List D)
 |[]=>some []
 |d::r=>match kv lo σ d,iA lo σ r with
  |some d,some r=>some (d::r)
  |_,_=>none
end
mutual
def pw:D->D->Prop
 | .aB,d'=>d'=.aB\/∃l k i,d'=.own l k i 0
 | .agg a,d'=>∃b,d'=.agg b/\BE a b
 |d,d'=>d'=d/\d.bc=true
def BE:List D->List D->Prop
 |[],b=>b=[]
 |d::r,b=>∃d' r',b=d'::r'/\pw d d'/\BE r r'
end
def KK (lo:Nat)(σ:List (Nat×Nat))(d d':D):Prop:=d'=d/\d.bc=true\/kv lo σ d=some d'\/pw d d'
def mK (lo:Nat)(σ:List (Nat×Nat)):bM->bM->Prop
 | .buf k es,.buf k' es'=>k'=k/\(es'=es/\aV es=true\/iA lo σ es=some es'\/BE es es')
 | .iter s p,.iter s' p'=>s'=s/\p'=p
 | .row s,.row s'=>s'=s
 | .bld o n u,.bld o' n' u'=>(match o with
  |none=>o'=none
  |some l=>∃l',fH lo σ l=some l'/\o'=some l')/\n'=n/\u'=u
 |_,_=>False
def aH (lo:Nat)(σ:List (Nat×Nat)):List b8->List b8->Prop
 |[],[]=>True
 |a::r,b::s=>(b.ok=a.ok/\KK lo σ a.d b.d\/b=.un)/\aH lo σ r s
 |_,_=>False
def aD (lo c:Nat)(σ:List (Nat×Nat))(m:List (Nat×bM)):List (Nat×bM)->Prop
 |[]=>True
 |(l',b')::r=>((∃l b,fH lo σ l=some l'/\look m l=some b/\mK lo σ b b')\/(Nat.ble lo l'=true/\Nat.blt l' c=true/\σ.all (fun p=>!Nat.beq p.2 l')=true/\∃k,b'=.buf k []))/\aD lo c σ m r
def eU (lo c:Nat):List (Nat×Nat)->Bool
 |[]=>Nat.ble lo c
 |(a,b)::r=>(Nat.ble lo b&&(Nat.blt b c&&(r.all (fun p=>!Nat.beq p.1 a&& !Nat.beq p.2 b)&&eU lo c r)))
@[go_sem] def Oe:List b8->List b8->Prop
 |[],[]=>True
 |a::r,b::s=>(b=a\/b=.un)/\Oe r s
 |_,_=>False
@[go_sem] def JR (m:List (Nat×bM)):List (Nat×bM)->Prop
 |[]=>True
 |(l,b)::r=>look m l=some b/\JR m r
inductive tG:D->D->Prop
 |refl (d:D):tG d d
 |nil (k:Nat):tG .aB (.sl k [])
 |agg (a b:List D) (hl:b.length=a.length) (h:∀i,tG (a.getD i .any) (b.getD i .any)):tG (.agg a) (.agg b)
 |sl (k:Nat) (a b:List D) (hl:b.length=a.length) (h:∀i,tG (a.getD i .any) (b.getD i .any)):tG (.sl k a) (.sl k b)
def mg (a b:List D):Prop:=b.length=a.length/\∀i,tG (a.getD i .any) (b.getD i .any)
def Pd:bM->bM->Prop
 | .buf k es,.buf k' es'=>k'=k/\mg es es'
 |b,b'=>b'=b
def MA:List b8->List b8->Prop
 |[],[]=>True
 |a::r,b::s=>(b.ok=a.ok/\tG a.d b.d)/\MA r s
 |_,_=>False
def kl (m:List (Nat×bM)):List (Nat×bM)->Prop
 |[]=>True
 |(l,b')::r=>(∃b,look m l=some b/\Pd b b')/\kl m r
inductive aP (lo:Nat):List b8->St->List b8->St->Prop
 |refl (env:List b8) (st:St):aP lo env st env st
 |G9 (l:Nat) (env:List b8) (st:St):aP lo env st (G9 l (env,st.m)).1 ⟨st.nx,(G9 l (env,st.m)).2⟩
 |ren (σ:List (Nat×Nat)) (c:Nat) (env env':List b8) (nx:Nat) (m m':List (Nat×bM)) (h:eU lo c σ=true) (he:aH lo σ env env') (hm:aD lo c σ m m'):aP lo env ⟨nx,m⟩ env' ⟨c,m'⟩
 |wk (env env':List b8) (nx:Nat) (m m':List (Nat×bM)) (he:Oe env env') (hm:JR m m'):aP lo env ⟨nx,m⟩ env' ⟨nx,m'⟩
 |nz (env env':List b8) (nx:Nat) (m m':List (Nat×bM)) (he:MA env env') (hm:kl m m'):aP lo env ⟨nx,m⟩ env' ⟨nx,m'⟩
 |trans (env1 env2 env3:List b8) (st1 st2 st3:St) (h:aP lo env1 st1 env2 st2) (h':aP lo env2 st2 env3 st3):aP lo env1 st1 env3 st3
def Gh (lo:Nat)(p:List b8->St->Prop)(env:List b8)(st:St):Prop:=∃env' st',aP lo env st env' st'/\p env' st'
def cr (Y:Ctx):AC->(Ex->List b8->St->Prop)->List b8->St->Prop
 | .reg draw ins cm,Q=>Gh Y.lo fun env st=>dZ Y draw ins env [] st fun vs st'=>Q .normal (fT env vs cm) st'
 | .seq a b,Q=>Gh Y.lo (cr Y a (fun e env st=>match e with
   | .normal=>cr Y b Q env st
   |e=>Q e env st))
 | .cond c a b,Q=>Gh Y.lo fun env st=>(c.ev env []).ok=true/\match(c.ev env []).d with
  | .bool t=>(t=true->cr Y a Q env st)/\(t=false->cr Y b Q env st)
  |_=>False
 | .block id a,Q=>Gh Y.lo (cr Y a (fun e env st=>match e with
   | .exit j=>if j=id then Q .normal env st else Q (.exit j) env st
   |e=>Q e env st))
 | .loop a,Q=>Gh Y.lo fun env st=>∃(I:List b8->St->Prop) (μ:List b8->St->Nat),
   I env st/\∀env st,I env st->
   cr Y a (fun e env' st'=>match e with
    | .normal=>∃env2 st2,aP Y.lo env' st' env2 st2/\I env2 st2/\μ env2 st2<μ env st
    |e=>Q e env' st') env st
 | .exit id,Q=>Gh Y.lo (Q (.exit id))
 | .ret,Q=>Gh Y.lo (Q .ret)
 | .skip,Q=>Gh Y.lo (Q .normal)
def Ctx.at (Y:Ctx)(n:Nat):Ctx:={Y with lo:=n}
@[go_sem] def AO (m:List (Nat×bM))(env:List b8)(r:By):D:=match r.mem with
 |none=>(env.getD r.s .un).d
 |some (n,ag)=>tS m n ag (env.getD r.s .un).d
@[go_sem] def oy (m:List (Nat×bM))(env:List b8):List By->Prop
 |[]=>True
 |r::rs=>(env.getD r.s .un).ok=true/\(match r.mem with
   |none=>True
   |some (n,_)=>wO m n (env.getD r.s .un).d)/\oy m env rs
@[go_sem] def nD (m:List (Nat×bM))(env:List b8):List By->List D
 |[]=>[]
 |r::rs=>AO m env r::nD m env rs
@[go_sem] def jM (a:aJ)(env:List b8)(st:St):D:=match a.res with
 |[r]=>AO st.m env r
 |rs=>.tup (nD st.m env rs)
@[go_sem] def LN (a:aJ)(env:List b8)(st:St):D:=match a.res with
 |[r]=>iH st.m (a.rsh.getD 0 []) (AO st.m env r)
 |rs=>.tup (fU st.m a.rsh (nD st.m env rs))
@[go_sem] def DY (a:aJ)(env:List b8)(st:St):Prop:=match a.res with
 |[r]=>gD st.m (a.rsh.getD 0 []) (AO st.m env r)
 |rs=>iU st.m a.rsh (nD st.m env rs)
@[go_sem] def Ex.home:Ex->Prop
 | .exit _=>False
 |_=>True
@[go_sem] def fZ (a:aJ)(ds:List D):List b8:=(ds.map fun d=>⟨true,d⟩)++List.replicate (a.ns-a.np) .un
mutual
def cX:Value->Option D
 | .bool b=>some (.bool b)
 | .int k n=>some (.int k n)
 | .string s=>if s.size<=9223372036854775807 then some (.str s.data.toList)else none
 | .pointer none=>some .nilp
 | .slice none 0 0=>some .aB
 | .nilFunc=>some .nilf
 | .nilIface=>some (.fn 4600000 [])
 | .agg ⟨cs⟩=>if qE cs then(oL cs).map .agg else none
 |_=>none
def oL:List Value->Option (List D)
 |[]=>some []
 |v::r=>match cX v,oL r with
  |some d,some ds=>some (d::ds)
  |_,_=>none
def qE:List Value->Bool
 |[]=>true
 |v::r=>(match v with
  | .agg _=>false
  | .tuple _=>false
  |_=>true)&&qE r
end
def y7 (P:Program):Nat->TypeId->List Sh
 |0,_=>[.a]
 |d+1,t=>match P.underlying t with
  |some (.struct fs)=>(fs.toList.map fun f=>y7 P d f.type).flatten
  |some (.array n e)=>(List.replicate n (y7 P d e)).flatten
  |some (.slice e)=>[.sl (P.cellsOf e) (y7 P d e)]
  |some (.pointer e)=>[.pt (y7 P d e)]
  |_=>[.a]
def Ob:List Sh->List Sh
 |[.sl _ cs]=>[.kp cs]
 |l=>l
def RY (fn:Func):Nat:=100000000+fn.endLine*10000+fn.ntmps
structure CC where
 P:Program
 ν:List (Nat×Nat)
 cC:List Nat
 slots:List Nat
 ntmps:Nat
 vm:Bool
def dr:List (Nat×Nat)->Nat->Option Nat
 |[],_=>none
 |(a,b)::r,l=>if a=l then some b else dr r l
def ifN (P:Program)(ν:List (Nat×Nat))(t:TypeId):Option Nat:=match P.underlying t with
 |some (.interface _)=>none
 |none=>none
 |some _=>match dr ν (1000000000+t)with
  |some q=>if 500000<=q then some (q-500000)else none
  |none=>none
def Md (k:Nat):Option Nat:=if k<1000000000 then none else some (k-1000000000)
def zZ (P:Program)(ν:List (Nat×Nat))(name:String)(t n:Nat):Bool:=match P.underlying t with
 |some (.pointer _)=>false
 |none=>false
 |some _=>match P.info? t with
  |some ti=>(match ti.methods.find? (·.name==name)with
   |some m=>m.path.toList.isEmpty&&(match m.func with
    |some (f,false)=>dr ν f==some n
    |_=>false)
   |none=>false)
  |none=>false
def Ip (P:Program)(ν:List (Nat×Nat))(name:String):Bool:=ν.all fun p=>match Md p.1 with
 |none=>true
 |some t=>zZ P ν name t (p.2-500000)
def tk:List Nat->Nat->Option Nat
 |[],_=>none
 |a::r,t=>if a=t then some 0 else(tk r t).map (· +1)
def posOf (t:Nat):List (Option Nat)->Option Nat
 |[]=>none
 |a::r=>if a=some t then some 0 else(posOf t r).map (· +1)
def CC.src (C:CC)(defs:List (Option Nat)):Operand->Option Src
 | .tmp t=>match posOf t defs with
  |some p=>some (.l p)
  |none=>(tk C.slots t).map .s
 | .const v=>(cX v).map .c
 | .func f=>(dr C.ν f).map fun n=>.c (.fn n [])
 | .global _=>none
def CC.qn (C:CC)(defs:List (Option Nat)):List Operand->Option (List Src)
 |[]=>some []
 |x::r=>match C.src defs x,C.qn defs r with
  |some a,some l=>some (a::l)
  |_,_=>none
def CC.opt (C:CC)(defs:List (Option Nat)):Option Operand->Option (Option Src)
 |none=>some none
 |some x=>(C.src defs x).map some
def cx (P:Program)(t:TypeId):Bool:=match P.underlying t with
 |some (.struct _)=>true
 |some (.array ..)=>true
 |_=>false
def j8 (P:Program)(k:TypeId->Option (List CK)):Nat->List Field->Option (List CK)
 |_,[]=>some []
 |off,f::r=>if f.name= "_" \/f.offset≠off then none else
  match k f.type,j8 P k (off+P.cellsOf f.type) r with
  |some a,some b=>if a.length=P.cellsOf f.type/\a.length≠0/\(P.underlying f.type).isNone=false then some (a++b)else none
  |_,_=>none
def fF (P:Program):Nat->TypeId->Option (List CK)
 |0,_=>none
 |d+1,t=>match P.underlying t with
  |some .bool=>some [.b]
  |some (.int k)=>some [.i k]
  |some .string=>some [.s]
  |some (.struct fs)=>if P.stoodInHeld t then none else j8 P (fun t=>fF P d t) 0 fs.toList
  |some (.array n e)=>match fF P d e with
   |some l=>if l.length=P.cellsOf e/\l.length≠0/\(P.underlying e).isNone=false then some (List.replicate n l).flatten else none
   |none=>none
  |_=>none
def CC.parts (C:CC)(defs:List (Option Nat))(place:Nat->Option (Nat×Nat)):List (Nat×Operand)->Option (List (Nat×Nat×Src))
 |[]=>some []
 |(i,x)::r=>match place i,C.src defs x,C.parts defs place r with
  |some (o,n),some s,some l=>if n=0 then none else some ((o,n,s)::l)
  |_,_,_=>none
def CC.r9 (C:CC)(defs:List (Option Nat)):List (Nat×Operand)->Option (List (Nat×Src))
 |[]=>some []
 |(i,x)::r=>match C.src defs x,C.r9 defs r with
  |some s,some l=>some ((i,s)::l)
  |_,_=>none
def nv (P:Program)(t:TypeId):Option D:=((P.info? t).bind (·.zero)).bind cX
def zVD:D:=.agg [.int .i64 0,.int .i64 0,.int .i64 0,.str [],.str []]
def CC.Ih (C:CC)(t:TypeId):Operand->Option D
 | .global g=>if C.cC.contains (500000000+g)=true/\C.P.cellsOf t=5/\cx C.P t=true/\(C.P.underlying t).isNone=false then some zVD else none
 |_=>none
def mJ (P:Program)(t:TypeId):Bool:=match nv P t with
 |some z=>z.cells.length==P.cellsOf t
 |none=>false
def CC.op (C:CC)(defs:List (Option Nat))(o:Oper):Option aG:=
 match o.op with
 | .move x=>(C.src defs x).map .mv
 | .assign x=>(C.src defs x).map .mv
 | .pick c a b=>match C.src defs c,C.src defs a,C.src defs b with
  |some c,some a,some b=>some (.pick c a b)
  |_,_,_=>none
 | .alloc t=>match nv C.P t with
  |some z=>if C.P.cellsOf t=0 then some .zal else if C.cC.contains (1000000000+t)then(match z with
   | .agg [.nilp,.aB]=>some .mkB
   |_=>none)else some (.box (C.P.cellsOf t) (.c z))
  |none=>none
 | .box t x=>match C.src defs x with
  |some s=>if C.P.cellsOf t=0 then some .zal else some (.box (C.P.cellsOf t) s)
  |none=>none
 | .build t ps=>match nv C.P t,C.P.underlying t with
  |some (.agg z),some (.struct fs)=>if fs.toList.all (fun f=>(C.P.info? f.type).isSome)then(C.parts defs (fun i=>(fs[i]?).map fun f=>(f.offset,C.P.cellsOf f.type)) ps.toList).map (.build z)else none
  |some (.agg z),some (.array _ e)=>if C.P.cellsOf e=0 then none else(C.parts defs (fun i=>some (i*C.P.cellsOf e,C.P.cellsOf e)) ps.toList).map (.build z)
  |_,_=>none
 | .buildSlice t n ps=>match C.P.underlying t with
  |some (.slice e)=>match nv C.P e,C.r9 defs ps.toList with
   |some z,some l=>if C.P.cellsOf e=0\/n*C.P.cellsOf e>16777216 then none else some (.bsl (C.P.cellsOf e) z n l)
   |_,_=>none
  |_=>none
 | .load t a=>match C.Ih t a with
  |some d=>some (.mv (.c d))
  |none=>match C.src defs a with
  |some s=>if C.P.cellsOf t=0\/(C.P.underlying t).isNone\/(cx C.P t=false/\C.P.cellsOf t≠1)then none else some (.ld (C.P.cellsOf t) (cx C.P t) s)
  |none=>none
 | .store t a x=>match C.src defs a,C.src defs x with
  |some a,some x=>if C.P.cellsOf t=0 then(if(C.P.info? t).isSome then some (.zst a x)else none)else some (.st (C.P.cellsOf t) a x)
  |_,_=>none
 | .nilCheck x=>(C.src defs x).map .nilck
 | .binOp op t x y _=>match C.src defs x,C.src defs y with
  |some a,some b=>match C.P.underlying t with
   |some (.int _)=>some (.bin op a b)
   |some .string=>some (.bin op a b)
   |some (.interface _)=>match op,b with
    | .eql,.c (.fn 4600000 [])=>some (.isI a)
    |_,_=>none
   |_=>if C.P.eqGuardType C.P.depth t then none else match fF C.P 30 t,op with
    |some ks,.eql=>some (.eqA false (cx C.P t) ks a b)
    |some ks,.neq=>some (.eqA true (cx C.P t) ks a b)
    |none,.eql=>match C.P.underlying t,b with
     |some (.func ..),.c .nilf=>some (.isF a)
     |some (.slice _),.c .aB=>some (.isNl a false)
     |_,_=>none
    |none,.neq=>match C.P.underlying t,b with
     |some (.slice _),.c .aB=>some (.isNl a true)
     |_,_=>none
    |_,_=>none
  |_,_=>none
 | .unOp op _ x=>(C.src defs x).map (.un op)
 | .convert s d x=>match C.P.underlying s,C.P.underlying d,C.src defs x with
  |some (.int _),some (.int k),some a=>some (.cvi k a)
  |some (.int _),some .string,some a=>some (.i2s a)
  |some .string,some (.slice e),some a=>match C.P.underlying e with
   |some (.int .u8)=>some (.s2b a)
   |_=>none
  |some (.slice e),some .string,some a=>match C.P.underlying e with
   |some (.int .u8)=>some (.b2s a)
   |_=>none
  |_,_,_=>none
 | .makeFunc (.func f) first caps=>match dr C.ν f,C.qn defs caps.toList with
  |some n,some l=>if first.isEmpty then some (.mkf n l)else if l.isEmpty then(C.qn defs first.toList).map (.mkf (n+1000000))else none
  |_,_=>none
 | .makeSlice t l c=>match C.P.underlying t with
  |some (.slice e)=>match nv C.P e,C.src defs l,C.src defs c with
   |some z,some l,some c=>if C.P.cellsOf e=0\/C.P.bytesOf e>65536 then none else some (.mks (C.P.cellsOf e) z l c)
   |_,_,_=>none
  |_=>none
 | .slice t x lo hi mx=>match C.P.underlying t,C.src defs x,C.opt defs lo,C.opt defs hi,mx with
  |some .string,some a,some l,some h,none=>some (.slS a l h)
  |some (.slice e),some a,some l,some h,none=>if C.P.cellsOf e=0 then none else some (.slA (C.P.cellsOf e) a l h)
  |some (.slice e),some a,some none,some (some h),some m=>match C.src defs m with
   |some m=>if C.P.cellsOf e=0 then none else some (.slX (C.P.cellsOf e) a h m)
   |none=>none
  |_,_,_,_,_=>none
 | .fieldAddr t x f=>match C.P.underlying t,C.src defs x with
  |some (.struct fs),some a=>match fs[f]? with
   |some f=>if C.P.cellsOf f.type=0 then none else some (.fa f.offset a)
   |none=>none
  |_,_=>none
 | .field t x f=>match C.P.underlying t,C.src defs x with
  |some (.struct fs),some a=>match fs[f]? with
   |some f=>if C.P.cellsOf f.type=0\/(C.P.underlying f.type).isNone then none else some (.fld f.offset (C.P.cellsOf f.type) (cx C.P f.type) a)
   |none=>none
  |_,_=>none
 | .indexAddr t x i=>match C.P.underlying t,C.src defs x,C.src defs i with
  |some (.slice e),some a,some b=>if C.P.cellsOf e=0 then none else some (.ia (C.P.cellsOf e) a b)
  |some (.array n e),some a,some b=>if C.P.cellsOf e=0 then none else some (.iaP n (C.P.cellsOf e) a b)
  |_,_,_=>none
 | .index t x i=>match C.P.underlying t,C.src defs x,C.src defs i with
  |some .string,some a,some b=>some (.ixS a b)
  |some (.array n e),some a,some b=>if C.P.cellsOf e=0\/(C.P.underlying e).isNone then none else some (.ixA n (C.P.cellsOf e) (cx C.P e) a b)
  |_,_,_=>none
 | .lookup t x y false=>match C.src defs x,C.src defs y,C.P.underlying t with
  |some a,some b,some (.map k e)=>match C.P.underlying k,nv C.P e with
   |some .string,some .nilf=>some (.lkp a b)
   |_,_=>none
  |_,_,_=>none
 | .range t x=>match C.P.underlying t,C.src defs x with
  |some .string,some a=>some (.rng a)
  |_,_=>none
 | .next it true=>(C.src defs it).map .bH
 | .makeInterface t x=>match C.src defs x,ifN C.P C.ν t with
  |some s,some n=>some (.mkI n s)
  |_,_=>none
 | .typeAssert x _ t true=>match C.src defs x,ifN C.P C.ν t,nv C.P t with
  |some s,some n,some z=>if n<500000/\C.ν.all (fun p=>p.1==1000000000+t ||p.2 !=500000+n)=true then some (.tas n z s)else none
  |_,_,_=>none
 | .extract t i=>(C.src defs t).map fun s=>.ext s i
 | .call c=>match c.callee with
  | .builtin .len=>match c.args.toList,c.argTypes.toList with
   |[x],[t]=>match C.src defs x,C.P.underlying t with
    |some a,some .string=>some (.lenS a)
    |some a,some (.slice _)=>some (.len a)
    |_,_=>none
   |_,_=>none
  | .builtin .min=>match c.args.toList with
   |[x,y]=>match C.src defs x,C.src defs y with
    |some a,some b=>some (.mn a b)
    |_,_=>none
   |_=>none
  | .builtin .append=>match c.args.toList,c.argTypes.toList with
   |[x,y],[t,u]=>match C.src defs x,C.src defs y,C.P.underlying t,C.P.underlying u with
    |some a,some b,some (.slice e),some (.slice _)=>if C.P.cellsOf e=0\/C.P.bytesOf e>65536\/C.P.bytesOf e=0\/mJ C.P e=false then none else some (.app (C.P.cellsOf e) a b)
    |some a,some b,some (.slice e),some .string=>if C.P.cellsOf e=0\/C.P.bytesOf e>65536\/C.P.bytesOf e=0\/mJ C.P e=false then none else some (.app (C.P.cellsOf e) a b)
    |_,_,_,_=>none
   |_,_=>none
  | .value (.func f)=>match dr C.ν f,C.qn defs c.args.toList with
   |some n,some l=>if C.cC.contains (2*n)then some (.callM n l)else if C.cC.contains (2*n+1)then(match l with
     |r::rest=>some (.callF n r rest ((c.argTypes.toList.map (y7 C.P 8)).drop 1))
     |[]=>none)else some (.call n l (c.argTypes.toList.map (y7 C.P 8)))
   |_,_=>none
  | .value (.tmp t)=>match C.src defs (.tmp t),C.qn defs c.args.toList with
   |some s,some l=>if C.vm then some (.callvM s l)else some (.callv s l (c.argTypes.toList.map (y7 C.P 8)))
   |_,_=>none
  | .invoke r name=>if c.args.toList.isEmpty&&Ip C.P C.ν name then(C.src defs r).map .invk else none
  |_=>none
 |_=>none
def CC.guard (defs:List (Option Nat)):Option (Nat×Bool)->Option (Option (Nat×Bool))
 |none=>some none
 |some (j,w)=>match defs[j]? with
  |some (some _)=>some (some (j,w))
  |_=>none
def CC.ops (C:CC):(defs:List (Option Nat))->List Oper->Option (List GI)
 |_,[]=>some []
 |defs,o::r=>match C.op defs o,CC.guard defs o.guard,C.ops (defs++[o.dst]) r with
  |some i,some g,some l=>if o.dst.all (fun d=>d<C.ntmps&& !defs.contains (some d))then some (⟨i,g⟩::l)else none
  |_,_,_=>none
def CC.fe (C:CC):Nat->List Oper->List (Nat×Nat)
 |_,[]=>[]
 |p,o::r=>match o.dst.bind (tk C.slots)with
  |some s=>(s,p)::C.fe (p+1) r
  |none=>C.fe (p+1) r
def nn (acc:List Nat):List Edge->Nat
 |[]=>0
 |e::r=>if Region.binds .any e then(2^e.on |||acc.getD e.on 0) |||nn acc r else nn acc r
def jB:List Nat->List Oper->List Nat
 |acc,[]=>acc
 |acc,o::r=>jB (acc++[nn acc o.after.toList]) r
def tmpsOf (ops:List Oper)(o:Oper):List Nat:=
 (o.op.operands.toList.filterMap fun
   | .tmp t=>some t
   |_=>none)++(match o.guard with
   |some (g,_)=>((ops[g]?).bind (·.dst)).toList
   |none=>[])
def oY (ops:List Oper)(bs:List Nat):Bool:=
 (List.range ops.length).all fun j=>(List.range ops.length).all fun p=>match ops[j]?,ops[p]? with
   |some oj,some op=>match op.dst with
    |some t=>p==j ||!(tmpsOf ops oj).contains t ||(bs.getD (max j p) 0).testBit (min j p)
    |none=>true
   |_,_=>false
def aG.pure:aG->Bool
 | .mv _=>true
 | .pick .. =>true
 | .build .. =>true
 | .nilck _=>true
 | .bin .. =>true
 | .eqA .. =>true
 | .un .. =>true
 | .cvi .. =>true
 | .mn .. =>true
 | .i2s _=>true
 | .mkf .. =>true
 | .slS .. =>true
 | .slA .. =>true
 | .slX .. =>true
 | .fa .. =>true
 | .fld .. =>true
 | .ia .. =>true
 | .iaP .. =>true
 | .ixS .. =>true
 | .ixA .. =>true
 | .ext .. =>true
 | .len _=>true
 | .lenS _=>true
 | .ldI .. =>true
 | .bslI .. =>true
 | .lkp .. =>true
 | .isF _=>true
 | .mkI .. =>true
 | .isI _=>true
 | .tas .. =>true
 | .zst .. =>true
 |_=>false
def Sh.Ph:Sh->Bool
 | .a=>true
 |_=>false
def aG.free:aG->Bool
 | .call _ _ sh=>sh.all fun s=>s.all Sh.Ph
 |i=>i.pure
def aG.iy:aG->Bool
 | .box .. =>true
 | .bsl .. =>true
 | .mks .. =>true
 | .s2b .. =>true
 | .rng .. =>true
 | .mkB=>true
 |_=>false
def aG.isApp:aG->Bool
 | .app .. =>true
 |_=>false
def aG.kN:aG->Bool
 | .callF .. =>true
 |_=>false
def aG.qQ:aG->Bool
 | .ldU .. =>true
 |_=>false
def exU (l:List GI)(gj gi:aG)(j i:Nat):Bool:=gi.qQ&&((gj.isApp&&decide (j<i)) ||(gj.kN&&(decide (i<j)&&(List.range j).all fun q=>decide (q<=i) ||match l[q]? with
 |some g=>g.i.calm ||g.i.kN
 |none=>true)))
def MC (l:List GI)(bs:List Nat):Bool:=
 (List.range l.length).all fun j=>(List.range l.length).all fun i=>match l[j]?,l[i]? with
   |some gj,some gi=>gj.i.calm ||gi.i.free ||(gi.i.iy&&(!gj.i.isApp ||decide (j<i))) ||i==j ||(bs.getD (max j i) 0).testBit (min j i) ||exU l gj.i gi.i j i
   |_,_=>false
def aG.cB:aG->Bool
 | .callM .. =>true
 | .callvM .. =>true
 | .callL .. =>true
 | .isNl .. =>true
 |_=>false
def mW:Nat->List Oper->Bool
 |_,[]=>true
 |p,o::r=>o.after.toList.all (fun e=>!Region.binds .any e ||decide (e.on<p))&&mW (p+1) r
def Ma:GI->Bool
 |⟨.mv _,none⟩=>true
 |⟨.un ..,_⟩=>true
 |⟨.pick ..,none⟩=>true
 |_=>false
def D4:List GI->Bool
 |⟨.callM ..,_⟩::r=>r.all Ma
 |⟨.callvM ..,_⟩::r=>r.all Ma
 |_=>false
def DH (l:List GI)(bs:List Nat):Bool:=
 let n:=l.findIdx fun g=>g.i.cB
 D4 (l.drop n)&&((l.take n).all (fun g=>!g.i.cB)&&(List.range (l.length-n)).all fun q=>(List.range (n+q)).all fun p=>(bs.getD (n+q) 0).testBit p)
def uG (ops:List Oper)(l:List GI):Bool:=
 let bs:=jB [] ops
 oY ops bs&&(MC l bs&&(((l.all fun g=>!g.i.cB) ||DH l bs)&&mW 0 ops))
def aG.O3:aG->aG
 | .app k (.c .aB) y=>.appN k y
 |i=>i
def looseAt (bs:List Nat)(l:List GI)(i:Nat):Bool:=
 (List.range l.length).any fun j=>match l[j]? with
   |some gj=>!(gj.i.O3.calm ||i==j ||(bs.getD (max j i) 0).testBit (min j i))
   |none=>false
def Of (bs:List Nat)(l:List GI)(i:Nat):Bool:=
 (List.range l.length).all fun j=>match l[j]? with
   |some gj=>gj.i.O3.calm ||i==j ||(bs.getD (max j i) 0).testBit (min j i) ||(gj.i.isApp&&decide (j<i)) ||(gj.i.kN&&(decide (i<j)&&(List.range j).all fun q=>decide (q<=i) ||match l[q]? with
    |some g=>g.i.O3.calm ||g.i.kN
    |none=>true))
   |none=>true
def N9 (bs:List Nat)(l:List GI)(p:Nat):Bool:=
 (List.range l.length).any fun j=>match l[j]? with
   |some ⟨.ia _ (.l q) _,_⟩=>Nat.beq q p&&(List.range l.length).any fun i=>match l[i]? with
    |some ⟨.ld _ _ (.l r),_⟩=>Nat.beq r j&&looseAt bs l i
    |_=>false
   |_=>false
def RE (l:List GI)(p:Nat):Bool:=l.any fun g=>match g.i with
 | .call _ args _=>args.any fun s=>match s with
  | .l q=>Nat.beq q p
  |_=>false
 |_=>false
def kr (bs:List Nat)(l0:List GI):Nat->List GI->List GI
 |_,[]=>[]
 |p,g::r=>(match g.i with
  | .ld n ag x=>if looseAt bs l0 p then(if Of bs l0 p then⟨.ldU n ag x,g.g⟩else⟨.ldI n ag x,g.g⟩)else g
  | .bsl k z n ps=>if(N9 bs l0 p ||(Nat.ble 2 k&&RE l0 p))=true then⟨.bslI k z n ps,g.g⟩else g
  |i=>⟨i.O3,g.g⟩)::kr bs l0 (p+1) r
def sH (b:Nat):Nat->List GI->List (Nat×Nat×Bool×Src)
 |_,[]=>[]
 |p,⟨.ld n ag x,_⟩::r=>if b.testBit p=true then sH b (p+1) r else(p,n,ag,x)::sH b (p+1) r
 |p,_::r=>sH b (p+1) r
def aG.wN:aG->Bool
 | .ld .. =>true
 |_=>false
def B8 (ops:List Oper)(l:List GI):Option (List GI):=
 let bs:=jB [] ops
 let n:=l.findIdx fun g=>g.i.cB
 match l.drop n with
 |⟨.callM f args,none⟩::suf=>if((l.take n).all (fun g=>g.i.pure ||g.i.wN)&&(suf.all (fun g=>g.g.isNone&& !g.i.cB)&&(oY ops bs&&(mW 0 ops&&((List.range suf.length).all fun q=>(List.range (n+1+q)).all fun p=>((l.take n).getD p ⟨.mkB,none⟩).i.pure ||(bs.getD (n+1+q) 0).testBit p)))))=true
   then some (l.take n++⟨.callL f args (sH (bs.getD n 0) 0 (l.take n)),none⟩::suf)else none
 |_=>none
def CC.code (C:CC):Code->Option AC
 | .skip=>some .skip
 | .region _ ops draw=>match C.ops [] ops.toList with
  |some l=>if draw then
    if uG ops.toList (kr (jB [] ops.toList) l 0 l)then some (.reg true (kr (jB [] ops.toList) l 0 l) (C.fe 0 ops.toList))else(B8 ops.toList l).map fun l'=>.reg true l' (C.fe 0 ops.toList)
   else some (.reg false l (C.fe 0 ops.toList))
  |none=>none
 | .seq a b=>match C.code a,C.code b with
  |some a,some b=>some (.seq a b)
  |_,_=>none
 | .cond c a b=>match C.src [] c,C.code a,C.code b with
  |some c,some a,some b=>some (.cond c a b)
  |_,_,_=>none
 | .block id a=>(C.code a).map (.block id)
 | .loop a=>(C.code a).map .loop
 | .exit id=>some (.exit id)
 | .ret=>some .ret
 | .scope a=>C.code a
 | .label _=>some .skip
 |_=>none
def D9:(defs:List (Option Nat))->List Oper->List Nat
 |_,[]=>[]
 |defs,o::r=>(o.op.operands.toList.filterMap fun
   | .tmp t=>if(posOf t defs).isNone then some t else none
   |_=>none)++D9 (defs++[o.dst]) r
def we:Code->List Nat
 | .region _ ops _=>D9 [] ops.toList
 | .seq a b=>we a++we b
 | .cond c a b=>(match c with
  | .tmp t=>[t]
  |_=>[])++we a++we b
 | .block _ a=>we a
 | .loop a=>we a
 | .scope a=>we a
 |_=>[]
def oZ:List ResultVar->List Nat
 |[]=>[]
 | .tmp t::r=>t::oZ r
 | .cell t _::r=>t::oZ r
def dedup:List Nat->List Nat->List Nat
 |acc,[]=>acc.reverse
 |acc,a::r=>if acc.contains a then dedup acc r else dedup (a::acc) r
def q6 (P:Program)(sl:List Nat):List ResultVar->Option (List By)
 |[]=>some []
 | .tmp t::r=>match tk sl t,q6 P sl r with
  |some a,some l=>some (⟨a,none⟩::l)
  |_,_=>none
 | .cell t ty::r=>match tk sl t,q6 P sl r with
  |some a,some l=>if P.cellsOf ty=0\/(P.underlying ty).isNone\/(cx P ty=false/\P.cellsOf ty≠1)then none else some (⟨a,some (P.cellsOf ty,cx P ty)⟩::l)
  |_,_=>none
def slotsOf (fn:Func):List Nat:=dedup [] (List.range (fn.params.size+fn.nfree)++oZ fn.results.toList++we (fn.body.getD .skip))
def Sk (P:Program)(ops:List Oper):Bool:=ops.any fun o=>match o.op with
 | .makeFunc _ first _=>!first.isEmpty
 | .lookup t _ _ _=>(match P.underlying t with
  |some (.map _ e)=>(match P.underlying e with
   |some (.func ..)=>true
   |_=>false)
  |_=>false)
 | .call c=>(match c.callee with
  | .value (.tmp _)=>c.argTypes.toList.any fun t=>match P.underlying t with
   |some (.pointer _)=>true
   |_=>false
  |_=>false)
 |_=>false
def A8 (P:Program):Code->Bool
 | .region _ ops _=>Sk P ops.toList
 | .seq a b=>A8 P a ||A8 P b
 | .cond _ a b=>A8 P a ||A8 P b
 | .block _ a=>A8 P a
 | .loop a=>A8 P a
 | .scope a=>A8 P a
 |_=>false
def GY (P:Program)(fn:Func):Bool:=A8 P (fn.body.getD .skip)
def compile (P:Program)(ν:List (Nat×Nat))(cC:List Nat)(fn:Func):Option aJ:=
 match fn.body with
 |some body=>
  match CC.code {P,ν,cC,slots:=slotsOf fn,ntmps:=fn.ntmps,vm:=GY P fn} body,q6 P (slotsOf fn) fn.results.toList with
  |some a,some res=>
   if fn.params.size+fn.nfree<=fn.ntmps then some {np:=fn.params.size+fn.nfree,ns:=(slotsOf fn).length,res,rsh:=fn.resultTypes.toList.map fun t=>bif cC.contains (RY fn)then Ob (y7 P 8 t)else y7 P 8 t,body:=a}else none
  |_,_=>none
 |none=>none
section
structure X where
 w:World
 I:Nat->Prop
 β:Nat->Option (Nat×Nat×Nat)
def Pm (es:List MapEntry)(i:Nat):Value:=match es[i/2]? with
 |some e=>if i%2=0 then e.key else e.val
 |none=>undef
inductive RD (ν:List (Nat×Nat))(x:X):Value->D->Prop
 |any (v:Value):RD ν x v .any
 |bool (b:Bool):RD ν x (.bool b) (.bool b)
 |int (k:IntKind) (n:Int):RD ν x (.int k n) (.int k n)
 |str (s:List UInt8) (h:s.length<=maxLen):RD ν x (.string ⟨⟨s⟩⟩) (.str s)
 |agg (cs:Array Value) (ds:List D) (hl:cs.size=ds.length) (h1:∀i,i<ds.length->(cs.getD i undef).oneCell'=true)
   (h:∀i,i<ds.length->RD ν x (cs.getD i undef) (ds.getD i .any)):RD ν x (.agg cs) (.agg ds)
 |tup (cs:Array Value) (ds:List D) (hl:cs.size=ds.length)
   (h:∀i,i<ds.length->RD ν x (cs.getD i undef) (ds.getD i .any)):RD ν x (.tuple cs) (.tup ds)
 |aB:RD ν x (.slice none 0 0) .aB
 |sl (a:Option Addr) (b off len cap k:Nat) (es:List D) (c:Nat->Nat->Value) (hlen:len=es.length)
   (ha:es=[]\/(a=some ⟨b,off,none⟩/\x.I b)) (hcap:len<=cap) (hm:cap<=maxLen)
   (hk:∀i,i<len->(es.getD i .any).cells.length=k) (hn:∀i,i<len->(es.getD i .any).bc=true)
   (hc:∀i j,i<len->j<k->x.w.cell? ⟨b,off+i*k+j,none⟩=some (c i j))
   (h1:∀i j,i<len->j<k->(c i j).oneCell'=true)
   (h:∀i j,i<len->j<k->RD ν x (c i j) ((es.getD i .any).cells.getD j .any)):RD ν x (.slice a len cap) (.sl k es)
 |ref (b off k i o at_:Nat) (es:List D) (c:Nat->Nat->Value) (hI:x.I b) (hat:at_=off+i*k+o)
   (hk:∀i,i<es.length->(es.getD i .any).cells.length=k) (hn:∀i,i<es.length->(es.getD i .any).bc=true)
   (hc:∀i j,i<es.length->j<k->x.w.cell? ⟨b,off+i*k+j,none⟩=some (c i j))
   (h1:∀i j,i<es.length->j<k->(c i j).oneCell'=true)
   (h:∀i j,i<es.length->j<k->RD ν x (c i j) ((es.getD i .any).cells.getD j .any)):RD ν x (.pointer (some ⟨b,at_,none⟩)) (.ref k es i o)
 |ptr (l k i o b base tot at_:Nat) (hβ:x.β l=some (b,base,tot)) (hat:at_=base+i*k+o):RD ν x (.pointer (some ⟨b,at_,none⟩)) (.ptr l k i o)
 |own (l k i n b base tot cap:Nat) (a:Addr) (hβ:x.β l=some (b,base,tot)) (ha:0<cap->a=⟨b,base+i*k,none⟩)
   (hcap:n<=cap) (hm:cap<=maxLen) (ht:i+cap<=tot):RD ν x (.slice (some a) n cap) (.own l k i n)
 |own0 (l k i:Nat) (a:Option Addr):RD ν x (.slice a 0 0) (.own l k i 0)
 |nilp:RD ν x (.pointer none) .nilp
 |fn (fid n:Nat) (cs:Array Value) (ds:List D) (hν:dr ν fid=some n) (hl:cs.size=ds.length)
   (h:∀i,i<ds.length->RD ν x (cs.getD i undef) (ds.getD i .any)):RD ν x (.func (.func fid) #[] cs) (.fn n ds)
 |dW (fid n:Nat) (fs:Array Value) (ds:List D) (hν:dr ν fid=some n) (hl:fs.size=ds.length)
   (h:∀i,i<ds.length->RD ν x (fs.getD i undef) (ds.getD i .any)):RD ν x (.func (.func fid) fs #[]) (.fn (n+1000000) ds)
 |nilf:RD ν x .nilFunc .nilf
 |mp (r:Nat) (es:Array MapEntry) (cl:Nat) (ds:List D) (hI:x.I r) (hh:x.w.heap[r]? =some (.map es cl)) (hl:2*es.size=ds.length)
   (h:∀i,i<ds.length->RD ν x (Pm es.toList i) (ds.getD i .any)):RD ν x (.map (some r)) (.fn 2000000 ds)
 |bx (b at_:Nat) (ds:List D) (v:Value) (hI:x.I b) (hc:x.w.cell? ⟨b,at_,none⟩=some v) (h1:v.oneCell'=true) (hl:ds.length=1)
   (h:∀i,i<ds.length->RD ν x v (ds.getD i .any)):RD ν x (.pointer (some ⟨b,at_,none⟩)) (.fn 3000000 ds)
 |ifc (t n:Nat) (v:Value) (ds:List D) (hν:dr ν (1000000000+t)=some (500000+n)) (hn:n<500000) (hl:ds.length=1)
   (h:∀i,i<ds.length->RD ν x v (ds.getD i .any)):RD ν x (.iface t v) (.fn (n+4000000) ds)
 |ifn:RD ν x .nilIface (.fn 4600000 [])
 |zp (a:Addr):RD ν x (.pointer (some a)) (.fn 4700000 [])
 |it (l b base tot:Nat) (hβ:x.β l=some (b,base,tot)):RD ν x (.pointer (some ⟨b,0,none⟩)) (.it l)
section
variable {ν:List (Nat×Nat)} {x x':X}
structure Le (x x':X):Prop where
 I:∀b,x.I b->x'.I b
 keep:∀b,x.I b->x'.w.heap[b]? =x.w.heap[b]?
 β:∀l p,x.β l=some p->x'.β l=some p
theorem hJ {w w':World}{b o:Nat}{v:Value}(h:w'.heap[b]? =w.heap[b]?)(hc:w.cell? ⟨b,o,none⟩=some v):w'.cell? ⟨b,o,none⟩=some v:=by
 rw[<-hc];unfold World.cell?;simp only[h]
def Le.refl (x:X):Le x x:=⟨fun _ h=>h,fun _ _=>rfl,fun _ _ h=>h⟩
def Le.trans {x'':X}(h:Le x x')(h':Le x' x''):Le x x'':=
 ⟨fun b hb=>h'.I b (h.I b hb),fun b hb=>(h'.keep b (h.I b hb)).trans (h.keep b hb),fun l p hp=>h'.β l p (h.β l p hp)⟩
def RD.mono {v:Value}{d:D}(h:RD ν x v d)(hl:Le x x'):RD ν x' v d:=by
 induction h with
 |any v=>exact .any v
 |bool b=>exact .bool b
 |int k n=>exact .int k n
 |str s h=>exact .str s h
 |agg cs ds hl' h1 _ ih=>exact .agg cs ds hl' h1 ih
 |tup cs ds hl' _ ih=>exact .tup cs ds hl' ih
 |aB=>exact .aB
 |sl a b off len cap k es c hlen ha hcap hm hk hn hc h1 _ ih=>
  refine .sl a b off len cap k es c hlen (ha.imp id fun⟨p,q⟩=>⟨p,hl.I _ q⟩) hcap hm hk hn (fun i j hi hj=>?_) h1 ih;rcases ha with rfl|⟨_,hI⟩
  .simp at hlen;omega
  .exact hJ (hl.keep _ hI) (hc i j hi hj)
 |ref b off k i o at_ es c hI hat hk hn hc h1 _ ih=>
  exact .ref b off k i o at_ es c (hl.I _ hI) hat hk hn (fun i j hi hj=>hJ (hl.keep _ hI) (hc i j hi hj)) h1 ih
 |ptr l k i o b base tot at_ hβ hat=>exact .ptr l k i o b base tot at_ (hl.β _ _ hβ) hat
 |own l k i n b base tot cap a hβ ha hcap hm ht=>exact .own l k i n b base tot cap a (hl.β _ _ hβ) ha hcap hm ht
 |own0 l k i a=>exact .own0 l k i a
 |nilp=>exact .nilp
 |fn fid n cs ds hν hl' _ ih=>exact .fn fid n cs ds hν hl' ih
 |dW fid n cs ds hν hl' _ ih=>exact .dW fid n cs ds hν hl' ih
 |nilf=>exact .nilf
 |mp r es cl ds hI hh hl' _ ih=>exact .mp r es cl ds (hl.I _ hI) ((hl.keep _ hI).trans hh) hl' ih
 |bx b at_ ds v hI hc h1 hl' _ ih=>exact .bx b at_ ds v (hl.I _ hI) (hJ (hl.keep _ hI) hc) h1 hl' ih
 |ifc t n v ds hν hn hl' _ ih=>exact .ifc t n v ds hν hn hl' ih
 |ifn=>exact .ifn
 |zp a=>exact .zp a
 |it l b base tot hβ=>exact .it l b base tot (hl.β _ _ hβ)
def cD:∀{ds:List D},aV ds=true->∀i,(ds.getD i .any).bc=true
 |[],_,i=>by simp[D.bc]
 |d::r,h,0=>by simp[aV]at h;simpa using h.1
 |d::r,h,i+1=>by simp[aV]at h;simpa using cD h.2 i
def iz:∀{ds:List D},lg ds=true->∀i,(ds.getD i .any).ee=true
 |[],_,i=>by simp[D.ee]
 |d::r,h,0=>by simp[lg]at h;simpa using h.1
 |d::r,h,i+1=>by simp[lg]at h;simpa using iz h.2 i
def ot:∀{ds:List D},(∀i,i<ds.length->(ds.getD i .any).bc=true)->aV ds=true
 |[],_=>rfl
 |d::r,h=>by
  simp only[aV,bm];exact⟨by simpa using h 0 bh,ot fun i hi=>by simpa using h (i+1) eo⟩
def jJ {d:D}(h:d.bc=true)(j:Nat):(d.cells.getD j .any).bc=true:=by
 cases d<;>simp only[D.cells]<;>first
  |(simp only[D.bc]at h;exact cD h j)
  |(cases j<;>simp_all[D.bc])
def RD.bc {v:Value}{d:D}(h:RD ν x v d)(hn:d.bc=true)(hI:∀b,x.I b->x'.I b)(hk:∀b,x.I b->x'.w.heap[b]? =x.w.heap[b]?):RD ν x' v d:=by
 induction h with
 |any v=>exact .any v
 |bool b=>exact .bool b
 |int k n=>exact .int k n
 |str s h=>exact .str s h
 |agg cs ds hl' h1 _ ih=>exact .agg cs ds hl' h1 fun i hi=>ih i hi (cD (by simpa[D.bc]using hn) i)
 |tup cs ds hl' _ ih=>exact .tup cs ds hl' fun i hi=>ih i hi (cD (by simpa[D.bc]using hn) i)
 |aB=>exact .aB
 |sl a b off len cap k es c hlen ha hcap hm hk' hn' hc h1 _ ih=>
  refine .sl a b off len cap k es c hlen (ha.imp id fun⟨p,q⟩=>⟨p,hI _ q⟩) hcap hm hk' hn' (fun i j hi hj=>?_) h1 fun i j hi hj=>ih i j hi hj (jJ (hn' i hi) j)
  grind [hJ]
 |ref b off k i o at_ es c hIb hat hk' hn' hc h1 _ ih=>
  exact .ref b off k i o at_ es c (hI _ hIb) hat hk' hn' (fun i j hi hj=>hJ (hk _ hIb) (hc i j hi hj)) h1 fun i j hi hj=>ih i j hi hj (jJ (hn' i hi) j)
 |ptr=>simp[D.bc]at hn
 |own=>simp[D.bc]at hn
 |own0=>simp[D.bc]at hn
 |nilp=>exact .nilp
 |fn fid n cs ds hν hl' _ ih=>exact .fn fid n cs ds hν hl' fun i hi=>ih i hi (cD (by simpa[D.bc]using hn) i)
 |dW fid n cs ds hν hl' _ ih=>exact .dW fid n cs ds hν hl' fun i hi=>ih i hi (cD (by simpa[D.bc]using hn) i)
 |nilf=>exact .nilf
 |mp r es cl ds hIr hh hl' _ ih=>exact .mp r es cl ds (hI _ hIr) ((hk _ hIr).trans hh) hl' fun i hi=>ih i hi (cD (by simpa[D.bc]using hn) i)
 |bx b at_ ds v hIr hc h1 hl' _ ih=>exact .bx b at_ ds v (hI _ hIr) (hJ (hk _ hIr) hc) h1 hl' fun i hi=>ih i hi (cD (by simpa[D.bc]using hn) i)
 |ifc t n v ds hν hnn hl' _ ih=>exact .ifc t n v ds hν hnn hl' fun i hi=>ih i hi (cD (by simpa[D.bc]using hn) i)
 |ifn=>exact .ifn
 |zp a=>exact .zp a
 |it=>simp[D.bc]at hn
def RD.ee {v:Value}{d:D}(h:RD ν x v d)(hn:d.ee=true):RD ν x' v d:=by
 induction h with
 |any v=>exact .any v
 |bool b=>exact .bool b
 |int k n=>exact .int k n
 |str s h=>exact .str s h
 |agg cs ds hl' h1 _ ih=>exact .agg cs ds hl' h1 fun i hi=>ih i hi (iz (by simpa[D.ee]using hn) i)
 |tup cs ds hl' _ ih=>exact .tup cs ds hl' fun i hi=>ih i hi (iz (by simpa[D.ee]using hn) i)
 |aB=>exact .aB
 |sl=>simp[D.ee]at hn
 |ref=>simp[D.ee]at hn
 |ptr=>simp[D.ee]at hn
 |own=>simp[D.ee]at hn
 |own0=>simp[D.ee]at hn
 |nilp=>exact .nilp
 |fn fid n cs ds hν hl' _ ih=>exact .fn fid n cs ds hν hl' fun i hi=>ih i hi (iz (by simp[D.ee]at hn;exact hn.2) i)
 |dW fid n cs ds hν hl' _ ih=>exact .dW fid n cs ds hν hl' fun i hi=>ih i hi (iz (by simp[D.ee]at hn;exact hn.2) i)
 |nilf=>exact .nilf
 |mp=>simp[D.ee]at hn
 |bx=>simp[D.ee]at hn
 |ifc t n v ds=>simp[D.ee,show Nat.ble 2000000 (n+4000000)=true from(by rw[Nat.ble_eq];omega)]at hn
 |ifn=>exact .ifn
 |zp a=>exact .zp a
 |it=>simp[D.ee]at hn
theorem RD.cells {v:Value}{d:D}(h:RD ν x v d)(hd:0<d.cells.length):
  v.cells.size=d.cells.length/\∀j,j<d.cells.length->(v.cells.getD j undef).oneCell'=true/\RD ν x (v.cells.getD j undef) (d.cells.getD j .any):=by
 cases h with
 |any=>simp[D.cells]at hd
 |tup=>simp[D.cells]at hd
 |agg cs ds hl h1 h=>exact⟨hl,fun j hj=>⟨h1 j hj,h j hj⟩⟩
 |bool b=>exact⟨rfl,fun j hj=>by simp[D.cells]at hj;subst hj;exact⟨rfl,.bool b⟩⟩
 |int k n=>exact⟨rfl,fun j hj=>by simp[D.cells]at hj;subst hj;exact⟨rfl,.int k n⟩⟩
 |str s h=>exact⟨rfl,fun j hj=>by simp[D.cells]at hj;subst hj;exact⟨rfl,.str s h⟩⟩
 |aB=>exact⟨rfl,fun j hj=>by simp[D.cells]at hj;subst hj;exact⟨rfl,.aB⟩⟩
 |sl a b off len cap k es c hlen ha hcap hm hk hn hc h1 h=>exact⟨rfl,fun j hj=>by simp[D.cells]at hj;subst hj;exact⟨rfl,.sl a b off len cap k es c hlen ha hcap hm hk hn hc h1 h⟩⟩
 |ref b off k i o at_ es c hI hat hk hn hc h1 h=>exact⟨rfl,fun j hj=>by simp[D.cells]at hj;subst hj;exact⟨rfl,.ref b off k i o at_ es c hI hat hk hn hc h1 h⟩⟩
 |ptr l k i o b base tot at_ hβ hat=>exact⟨rfl,fun j hj=>by simp[D.cells]at hj;subst hj;exact⟨rfl,.ptr l k i o b base tot at_ hβ hat⟩⟩
 |own l k i n b base tot cap a hβ ha hcap hm ht=>exact⟨rfl,fun j hj=>by simp[D.cells]at hj;subst hj;exact⟨rfl,.own l k i n b base tot cap a hβ ha hcap hm ht⟩⟩
 |own0 l k i a=>exact⟨rfl,fun j hj=>by simp[D.cells]at hj;subst hj;exact⟨rfl,.own0 l k i a⟩⟩
 |nilp=>exact⟨rfl,fun j hj=>by simp[D.cells]at hj;subst hj;exact⟨rfl,.nilp⟩⟩
 |fn fid n cs ds hν hl h=>exact⟨rfl,fun j hj=>by simp[D.cells]at hj;subst hj;exact⟨rfl,.fn fid n cs ds hν hl h⟩⟩
 |dW fid n cs ds hν hl h=>exact⟨rfl,fun j hj=>by simp[D.cells]at hj;subst hj;exact⟨rfl,.dW fid n cs ds hν hl h⟩⟩
 |nilf=>exact⟨rfl,fun j hj=>by simp[D.cells]at hj;subst hj;exact⟨rfl,.nilf⟩⟩
 |mp r es cl ds hI hh hl h=>exact⟨rfl,fun j hj=>by simp[D.cells]at hj;subst hj;exact⟨rfl,.mp r es cl ds hI hh hl h⟩⟩
 |bx b at_ ds v hI hc h1 hl h=>exact⟨rfl,fun j hj=>by simp[D.cells]at hj;subst hj;exact⟨rfl,.bx b at_ ds v hI hc h1 hl h⟩⟩
 |ifc t n v ds hν hn hl h=>exact⟨rfl,fun j hj=>by simp[D.cells]at hj;subst hj;exact⟨rfl,.ifc t n v ds hν hn hl h⟩⟩
 |ifn=>exact⟨rfl,fun j hj=>by simp[D.cells]at hj;subst hj;exact⟨rfl,.ifn⟩⟩
 |zp a=>exact⟨rfl,fun j hj=>by simp[D.cells]at hj;subst hj;exact⟨rfl,.zp a⟩⟩
 |it l b base tot hβ=>exact⟨rfl,fun j hj=>by simp[D.cells]at hj;subst hj;exact⟨rfl,.it l b base tot hβ⟩⟩
end
end
section
section
variable {ν:List (Nat×Nat)} {x x':X}
def MY (j:Nat):Value:=if j<3 then .int .i64 0 else .string ⟨⟨[]⟩⟩
class dq where
 tB:TypeId:=0
 tU:TypeId:=0
 gd:X->Prop
 le:∀x x':X,(∀b,x.I b->x'.I b)->(∀b,x.I b->x'.w.heap[b]? =x.w.heap[b]?)->gd x->gd x'
 gz:Nat->Prop:=fun _=>False
 gzr:∀(x:X) (g:Nat),gd x->gz g->∀j,j<5->x.w.cell? ⟨g,j,none⟩=some (MY j):=by exact fun _ _ _ h=>h.elim
variable [dq]
def lO (ν:List (Nat×Nat))(x:X)(b base tot:Nat):bM->Prop
 | .buf k es=>0<k/\es.length<=tot/\∃c T fr,x.w.heap[b]? =some (.cells c T fr)/\base+tot*k<=c.size/\
   (∀o,o<c.size->¬(fr.1<=o/\o<fr.2))/\
   ∀i,i<es.length->(es.getD i .any).cells.length=k/\∀j,j<k->
    (c.getD (base+i*k+j) undef).oneCell'=true/\RD ν x (c.getD (base+i*k+j) undef) ((es.getD i .any).cells.getD j .any)
 | .iter s pos=>x.w.heap[b]? =some (.stringIter ⟨⟨s⟩⟩ pos)/\s.length<=maxLen
 | .row s=>base=0/\∃c,x.w.heap[b]? =some (.cells c dq.tU (0,0))/\c.size=tot/\tot<=maxLen/\s.length<=tot/\∀i,i<s.length->c.getD i undef=.int .u8 (s.getD i 0).toNat
 | .bld o n u=>base=0/\∃v,x.w.heap[b]? =some (.cells #[.pointer (if u=true then some ⟨b,0,none⟩else none),v] dq.tB (0,0))/\
   match o with
   |none=>n=0/\v=.slice none 0 0
   |some l=>∃g t,v=.slice (some ⟨g,0,none⟩) n t/\n<=t/\x.β l=some (g,0,t)
def qM (h:Le x x')(hg:dq.gd x):dq.gd x':=dq.le x x' h.I h.keep hg
structure eG (ν:List (Nat×Nat))(x:X)(f:Nat->Option bM):Prop where
 own:∀l blk b base tot,f l=some blk->x.β l=some (b,base,tot)->¬x.I b/\lO ν x b base tot blk
 inj:∀l l' b base tot base' tot',f l≠none->f l'≠none->x.β l=some (b,base,tot)->x.β l'=some (b,base',tot')->l=l'
 imm:∀b,x.I b->b<x.w.heap.size
 dW:∀l b base tot,x.β l=some (b,base,tot)->b<x.w.heap.size
 gd:dq.gd x
structure Step (x x':X):Prop where
 os:x'.w.os=x.w.os
 tape:x'.w.tape=x.w.tape
 output:x'.w.output=x.w.output
 size:x.w.heap.size<=x'.w.heap.size
 I:∀b,x.I b->x'.I b
 keep:∀b,x.I b->x'.w.heap[b]? =x.w.heap[b]?
 β:∀l p,x.β l=some p->x'.β l=some p
 old:∀b,b<x.w.heap.size->(∀l p,x.β l=some p->p.1≠b)->x'.w.heap[b]? =x.w.heap[b]?
 newI:∀b,x'.I b->x.I b\/x.w.heap.size<=b\/∃l p,x.β l=some p/\p.1=b
 newβ:∀l p,x'.β l=some p->x.β l=some p\/x.w.heap.size<=p.1\/∃l' p',x.β l'=some p'/\p'.1=p.1
def Step.le (h:Step x x'):Le x x':=⟨h.I,h.keep,h.β⟩
def Step.refl (x:X):Step x x:=⟨rfl,rfl,rfl,aE _,fun _ h=>h,fun _ _=>rfl,fun _ _ h=>h,fun _ _ _=>rfl,fun _ h=>.inl h,fun _ _ h=>.inl h⟩
def Step.trans {x'':X}(h:Step x x')(h':Step x' x''):Step x x'':=by
 refine⟨h'.os.trans h.os,h'.tape.trans h.tape,h'.output.trans h.output,eK h.size h'.size,fun b hb=>h'.I b (h.I b hb),
  fun b hb=>(h'.keep b (h.I b hb)).trans (h.keep b hb),fun l p hp=>h'.β l p (h.β l p hp), ?_, ?_, ?_⟩
 .intro b hb hn;refine(h'.old b (jq hb h.size) ?_).trans (h.old b hb hn);intro l p hp e;rcases h.newβ l p hp with h1|h1|⟨l',p',h1,h2⟩
  .exact hn l p h1 e
  .omega
  .exact hn l' p' h1 (h2.trans e)
 .intro b hb;rcases h'.newI b hb with h1|h1|⟨l,p,h1,h2⟩
  .exact h.newI b h1
  .exact .inr (.inl (eK h.size h1))
  .rcases h.newβ l p h1 with h3|h3|⟨l',p',h3,h4⟩
   .exact .inr (.inr ⟨l,p,h3,h2⟩)
   .exact .inr (.inl (h2▸h3))
   .exact .inr (.inr ⟨l',p',h3,h4.trans h2⟩)
 .intro l p hp;rcases h'.newβ l p hp with h1|h1|⟨l',p',h1,h2⟩
  .exact h.newβ l p h1
  .exact .inr (.inl (eK h.size h1))
  .rcases h.newβ l' p' h1 with h3|h3|⟨l'',p'',h3,h4⟩
   .exact .inr (.inr ⟨l',p',h3,h2⟩)
   .exact .inr (.inl (h2▸h3))
   .exact .inr (.inr ⟨l'',p'',h3,h4.trans h2⟩)
def lO.mono {b base tot:Nat}{blk:bM}(h:lO ν x b base tot blk)(hl:Le x x')(hb:x'.w.heap[b]? =x.w.heap[b]?):lO ν x' b base tot blk:=by
 cases blk with
 |buf k es=>
  obtain⟨hk,ht,c,T,fr,h1,h2,h3,h4⟩:=h;exact⟨hk,ht,c,T,fr,hb.trans h1,h2,h3,fun i hi=>⟨(h4 i hi).1,fun j hj=>⟨((h4 i hi).2 j hj).1,((h4 i hi).2 j hj).2.mono hl⟩⟩⟩
 |iter s pos=>exact⟨hb.trans h.1,h.2⟩
 |row s=>
  obtain⟨h0,c,h1,h2⟩:=h;exact⟨h0,c,hb.trans h1,h2⟩
 |bld o n u=>
  obtain⟨h0,v,h1,h2⟩:=h;refine⟨h0,v,hb.trans h1, ?_⟩;cases o with
  |none=>exact h2
  |some l=>
   obtain⟨g,t,h3,h4,h5⟩:=h2;exact⟨g,t,h3,h4,hl.β _ _ h5⟩
structure hH (w w':World):Prop where
 os:w'.os=w.os
 tape:w'.tape=w.tape
 output:w'.output=w.output
 size:w.heap.size<=w'.heap.size
 old:∀b,b<w.heap.size->w'.heap[b]? =w.heap[b]?
def hH.refl (w:World):hH w w:=⟨rfl,rfl,rfl,aE _,fun _ _=>rfl⟩
def pz (w:World)(o:Obj)(b:Nat)(hb:b<w.heap.size):(w.alloc o).heap[b]? =w.heap[b]? :=by
 simp only[World.alloc,Array.getElem?_push];rw[ai ae]
def fk (w:World)(o:Obj):(w.alloc o).heap[w.heap.size]? =some o:=by show(w.heap.push o)[w.heap.size]? =some o;simp
def hH.alloc (w:World)(o:Obj):hH w (w.alloc o):=⟨rfl,rfl,rfl,bh,fun b hb=>pz w o b hb⟩
def hH.trans {w w' w'':World}(h:hH w w')(h':hH w' w''):hH w w'':=
 ⟨h'.os.trans h.os,h'.tape.trans h.tape,h'.output.trans h.output,eK h.size h'.size,fun b hb=>(h'.old b (jq hb h.size)).trans (h.old b hb)⟩
def hH.drew (w:World):hH w w.drew:=⟨rfl,rfl,rfl,aE _,fun _ _=>rfl⟩
def Step.grow {w':World}(hw:hH x.w w')(himm:∀b,x.I b->b<x.w.heap.size):Step x ⟨w',x.I,x.β⟩:=
 ⟨hw.os,hw.tape,hw.output,hw.size,fun _ h=>h,fun b hb=>hw.old b (himm b hb),fun _ _ h=>h,fun b hb _=>hw.old b hb,fun _ h=>.inl h,fun _ _ h=>.inl h⟩
def eG.grow {f:Nat->Option bM}{w':World}(h:eG ν x f)(hw:hH x.w w'):eG ν ⟨w',x.I,x.β⟩ f:=
 ⟨fun l blk b base tot h1 h2=>⟨(h.own l blk b base tot h1 h2).1,(h.own l blk b base tot h1 h2).2.mono (Step.grow hw h.imm).le (hw.old b (h.dW l b base tot h2))⟩,
  h.inj,fun b hb=>jq (h.imm b hb) hw.size,fun l b base tot hb=>jq (h.dW l b base tot hb) hw.size,qM (Step.grow hw h.imm).le h.gd⟩
def eX (β:Nat->Option (Nat×Nat×Nat))(L:Nat)(p:Nat×Nat×Nat):Nat->Option (Nat×Nat×Nat):=fun l=>if l=L then some p else β l
def j9 (f:Nat->Option bM)(L:Nat)(b:Option bM):Nat->Option bM:=fun l=>if l=L then b else f l
def vY {w':World}{L n base tot:Nat}(hw:hH x.w w')(hn:x.w.heap.size<=n)(hL:x.β L=none)(himm:∀b,x.I b->b<x.w.heap.size):
  Step x ⟨w',x.I,eX x.β L (n,base,tot)⟩:=by
 refine⟨hw.os,hw.tape,hw.output,hw.size,fun _ h=>h,fun b hb=>hw.old b (himm b hb),fun l p hp=>?_,fun b hb _=>hw.old b hb,fun _ h=>.inl h,fun l p hp=>?_⟩
 .grind [eX]
 grind [eX]
def L5 {f:Nat->Option bM}{w':World}{L n base tot:Nat}{blk:bM}(h:eG ν x f)(hw:hH x.w w')(hn:x.w.heap.size<=n)(hnw:n<w'.heap.size)(hL:x.β L=none)
  (hb:lO ν ⟨w',x.I,eX x.β L (n,base,tot)⟩ n base tot blk):eG ν ⟨w',x.I,eX x.β L (n,base,tot)⟩ (j9 f L (some blk)):=by
 have hle:=(vY (base:=base) (tot:=tot) hw hn hL h.imm).le;refine⟨fun l blk' b base' tot' h1 h2=>?_,fun l l' b base' tot' base'' tot'' h1 h1' h2 h2'=>?_,fun b hb=>jq (h.imm b hb) hw.size,fun l b base' tot' h2=>?_,qM hle h.gd⟩
 .by_cases e:l=L
  .subst e;simp only[eX,aN,aZ,ea]at h2;simp only[j9,aN,aZ]at h1;obtain⟨rfl,rfl,rfl⟩:=h2;subst h1;exact⟨fun hI=>by have:=h.imm _ hI;omega,hb⟩
  .simp only[eX,e,aL]at h2;simp only[j9,e,aL]at h1;obtain⟨a1,a2⟩:=h.own l blk' b base' tot' h1 h2;exact⟨a1,a2.mono hle (hw.old b (h.dW l b base' tot' h2))⟩
 .by_cases e:l=L<;>by_cases e':l'=L
  .exact e.trans e'.symm
  .simp only[eX,e,aN,aZ,ea]at h2;simp only[eX,e',aL]at h2';have:=h.dW l' b base'' tot'' h2';obtain⟨h2,_,_⟩:=h2;omega
  .simp only[eX,e',aN,aZ,ea]at h2';simp only[eX,e,aL]at h2;have:=h.dW l b base' tot' h2;obtain⟨h2',_,_⟩:=h2';omega
  .simp only[eX,e,aL]at h2;simp only[eX,e',aL]at h2';simp only[j9,e,aL]at h1;simp only[j9,e',aL]at h1';exact h.inj l l' b base' tot' base'' tot'' h1 h1' h2 h2'
 .by_cases e:l=L
  .simp only[eX,e,aN,aZ,ea]at h2;obtain⟨h2,_,_⟩:=h2;show b<w'.heap.size;omega
  .simp only[eX,e,aL]at h2;exact jq (h.dW l b base' tot' h2) hw.size
variable {P:Program} {w:World}
def lV {t:TypeId}(h:P.cellsOf t≠0):∃i,P.info? t=some i/\i.size=P.cellsOf t:=by
 unfold Program.cellsOf at h⊢;cases hi:P.info? t with
 |none=>simp[hi]at h
 |some i=>exact⟨i,rfl,bh⟩
def dw {t:TypeId}(h:P.cellsOf t≠0):(sizeOf t).run P w=.ok (P.cellsOf t) w:=by
 obtain⟨i,hi,hs⟩:=lV h;simp[sizeOf,typeInfo,hi,hs]
def qj {t:TypeId}(h:(P.underlying t).isNone=false):(isAgg t).run P w=.ok (cx P t) w:=by
 cases hu:P.underlying t with
 |none=>simp[hu]at h
 |some d=>unfold isAgg cx;rw[Sem.run_bind,run_underlying hu w];simp only[hu,Result.andThen];cases d<;>rfl
theorem Addr.wC (b o n:Nat):(⟨b,o,none⟩:Addr).add n=⟨b,o+n,none⟩:=by unfold Addr.add;split<;>simp_all
end
end
section
variable [dq]
section
variable {ν:List (Nat×Nat)} {x:X} {f:Nat->Option bM} {P:Program}
mutual
theorem kI:∀(v:Value) (d:D),cX v=some d->RD ν x v d
 | .bool b,d,h=>by simp[cX]at h;subst h;exact .bool b
 | .int k n,d,h=>by simp[cX]at h;subst h;exact .int k n
 | .string ⟨⟨s⟩⟩,d,h=>by
  simp only[cX]at h;split at h
  .rename_i hs;simp only[aZ]at h;subst h;exact .str s (by simpa[maxLen,ByteArray.size]using hs)
  .cases h
 | .pointer none,d,h=>by simp[cX]at h;subst h;exact .nilp
 | .slice none 0 0,d,h=>by simp[cX]at h;subst h;exact .aB
 | .nilFunc,d,h=>by simp[cX]at h;subst h;exact .nilf
 | .nilIface,d,h=>by simp[cX]at h;subst h;exact .ifn
 | .agg ⟨cs⟩,d,h=>by
  simp only[cX]at h;split at h
  .rename_i hone;cases hc:oL cs with
   |none=>simp[hc]at h
   |some ds=>
    simp[hc]at h;subst h;obtain⟨hl,hr⟩:=py cs ds hc;refine .agg ⟨cs⟩ ds (by simpa using hl) (fun i hi=>?_) (fun i hi=>by simpa using hr i hi);have:=nZ cs hone i ae;simpa using this
  .cases h
 | .float _ _,d,h=>by simp[cX]at h
 | .complex _ _ _,d,h=>by simp[cX]at h
 | .pointer (some _),d,h=>by simp[cX]at h
 | .slice (some _) _ _,d,h=>by simp[cX]at h
 | .slice none (_+1) _,d,h=>by simp[cX]at h
 | .slice none 0 (_+1),d,h=>by simp[cX]at h
 | .map _,d,h=>by simp[cX]at h
 | .chan _,d,h=>by simp[cX]at h
 | .func _ _ _,d,h=>by simp[cX]at h
 | .iface _ _,d,h=>by simp[cX]at h
 | .tuple _,d,h=>by simp[cX]at h
theorem py:∀(vs:List Value) (ds:List D),oL vs=some ds->vs.length=ds.length/\∀i,i<ds.length->RD ν x (vs.getD i undef) (ds.getD i .any)
 |[],ds,h=>by simp[oL]at h;subst h;simp
 |v::r,ds,h=>by
  simp only[oL]at h;split at h
  .rename_i d ds' h1 h2;simp only[aZ]at h;subst h;have a:=kI v d h1;obtain⟨b1,b2⟩:=py r ds' h2;refine⟨by simp[b1],fun i hi=>?_⟩;cases i with
   |zero=>simpa using a
   |succ i=>simpa using b2 i (by simpa using hi)
  .cases h
theorem nZ:∀(vs:List Value),qE vs=true->∀i,i<vs.length->(vs.getD i undef).oneCell'=true
 |[],_,i,hi=>by simp at hi
 |v::r,h,i,hi=>by
  simp only[qE,bm]at h;cases i with
  |zero=>simp;cases v<;>simp_all[Value.oneCell']
  |succ i=>simpa using nZ r h.2 i (by simpa using hi)
end
def wA (ν:List (Nat×Nat))(x:X)(f:Nat->Option bM)(L:Nat)(d:D)(r:Result Next):Prop:=
 ∃v x',(r=.ok (.value v) x'.w\/r=.ok .skip x'.w/\v=undef)/\Step x x'/\RD ν x' v d/\eG ν x' f/\∀l,l≠L->x'.β l=x.β l
def n5 {L:Nat}{d:D}{v:Value}{r:Result Next}(hs:eG ν x f)(hr:r=.ok (.value v) x.w)(hd:RD ν x v d):wA ν x f L d r:=
 ⟨v,x,.inl hr,.refl x,hd,hs,fun _ _=>rfl⟩
def pI (C:CC)(defs:List (Option Nat))(J:Src->b8)(ev:Operand->Value)(x:X)(os:List Operand):Prop:=
 ∀o,o∈os->∀s,C.src defs o=some s->(J s).ok=true->RD C.ν x (ev o) (J s).d
def RD.ir {v:Value}{b:Bool}(h:RD ν x v (.bool b)):v=.bool b:=by cases h;rfl
def RD.dD {v:Value}{k:IntKind}{n:Int}(h:RD ν x v (.int k n)):v=.int k n:=by cases h;rfl
def RD.ie {v:Value}{s:List UInt8}(h:RD ν x v (.str s)):v=.string ⟨⟨s⟩⟩/\s.length<=maxLen:=by cases h;exact⟨rfl,‹_›⟩
def RD.pick {b:Bool}{u v:Value}{d e:D}(h1:b=true->RD ν x u d)(h2:b=false->RD ν x v e):RD ν x (if b then u else v) (D.pick b d e):=by
 cases b
 .have:=h2 rfl;simp only[gV,aL];cases d<;>cases e<;>simp only[D.pick,cond_false]<;>exact this
 .have:=h1 rfl;simp only[aN];cases d<;>cases e<;>simp only[D.pick,cond_true]<;>exact this
def AU {op:BinOp}{t:TypeId}{k k':IntKind}{a b:Int}(w:World)(hb:iZ op (.int k a) (.int k' b)):
  ∃v,(binOp op t (.int k a) (.int k' b)).run P w=.ok v w/\RD ν x v (jC op (.int k a) (.int k' b)):=by
 cases op<;>simp only[iZ]at hb<;>simp only[binOp,jC,ne_eq]
 case shl=>exact⟨_,by simp[Op.shift,show ¬b<0 by omega],.int _ _⟩
 case shr=>exact⟨_,by simp[Op.shift,show ¬b<0 by omega],.int _ _⟩
 case quo=>obtain⟨rfl,hb⟩:=hb;exact⟨_,by simp[Op.intDiv,hb],.int _ _⟩
 case rem=>obtain⟨rfl,hb⟩:=hb;exact⟨_,by simp[Op.intDiv,hb],.int _ _⟩
 case and=>subst hb;exact⟨_,by simp[Op.intBits],.int _ _⟩
 case or=>subst hb;exact⟨_,by simp[Op.intBits],.int _ _⟩
 case xor=>subst hb;exact⟨_,by simp[Op.intBits],.int _ _⟩
 case andNot=>subst hb;exact⟨_,by simp[Op.intBits],.int _ _⟩
 case add=>subst hb;exact⟨_,by simp[Op.intArith],.int _ _⟩
 case sub=>subst hb;exact⟨_,by simp[Op.intArith],.int _ _⟩
 case mul=>subst hb;exact⟨_,by simp[Op.intArith],.int _ _⟩
 case eql=>subst hb;exact⟨_,by simp[Op.intCmp],.bool _⟩
 case neq=>subst hb;exact⟨_,by simp[Op.intCmp],.bool _⟩
 case lss=>subst hb;exact⟨_,by simp[Op.intCmp],.bool _⟩
 case leq=>subst hb;exact⟨_,by simp[Op.intCmp],.bool _⟩
 case gtr=>subst hb;exact⟨_,by simp[Op.intCmp],.bool _⟩
 case geq=>subst hb;exact⟨_,by simp[Op.intCmp],.bool _⟩
def yn (a b:List UInt8):(⟨⟨a⟩⟩:ByteArray)++⟨⟨b⟩⟩=⟨⟨a++b⟩⟩:=by
 have h:((⟨⟨a⟩⟩:ByteArray)++⟨⟨b⟩⟩).data=(⟨a++b⟩:Array UInt8):=by
  rw[ByteArray.data_append];simp
 exact bS ByteArray.mk h
def AV {op:BinOp}{t:TypeId}{a b:List UInt8}(w:World)(hb:iZ op (.str a) (.str b)):
  ∃v,(binOp op t (.string ⟨⟨a⟩⟩) (.string ⟨⟨b⟩⟩)).run P w=.ok v w/\RD ν x v (jC op (.str a) (.str b)):=by
 have hs:∀l:List UInt8,(⟨⟨l⟩⟩:ByteArray).size=l.length:=fun _=>rfl
 cases op<;>simp only[iZ]at hb<;>simp only[binOp,jC]
 case add=>
  refine⟨.string ⟨⟨a++b⟩⟩, ?_,.str _ (by simp[maxLen];omega)⟩;have:¬(((⟨⟨a⟩⟩:ByteArray).size+(⟨⟨b⟩⟩:ByteArray).size:Nat):Int)>IntKind.i64.max:=by
   rw[hs,hs];simp only[IntKind.max,IntKind.signed,IntKind.bits,aN];omega
  simp only[Op.stringOp,this,aL,Sem.run_pure,yn]
 all_goals
  refine⟨_,by simp only[Op.stringOp,Sem.run_pure];rfl, ?_⟩;simp only[ByteArray.toList_eq];exact .bool _
def jX (op:BinOp)(t:TypeId)(p q:Operand){u v:Value}(h:(∀cs,u≠.agg cs)/\u≠.nilIface)(w:World):(eqGuard op t p q u v).run P w=.ok () w:=by
 obtain⟨h1,h2⟩:=h;unfold eqGuard;cases op<;>simp<;>(split<;>first|rfl|simp_all)
def dT {α:Type}(l:List α)(o n:Nat)(d:α)(j:Nat)(hj:j<n):((l.drop o).take n).getD j d=l.getD (o+j) d:=by
 grind
def fL {α:Type}(l:List α)(o n:Nat)(h:o+n<=l.length):((l.drop o).take n).length=n:=by
 simp;omega
theorem cw (cs:Array Value)(i:Nat)(d:Value):cs.toList.getD i d=cs.getD i d:=by
 simp[List.getD,Array.getD];split<;>simp_all
def mD {t:TypeId}{cs:Array Value}{ds:List D}{off n:Nat}{ag:Bool}(w:World)(hv:RD ν x (.agg cs) (.agg ds))(ht:P.cellsOf t≠0)(hu:(P.underlying t).isNone=false)
  (hn:n=P.cellsOf t) (hag:ag=cx P t) (hle:off+n<=ds.length) (h1:ag=false->n=1):
  ∃v,(part t cs off).run P w=.ok v w/\RD ν x v (cut ds off n ag):=by
 cases hv with
 |agg _ _ hl hone h=>
  unfold part;rw[Sem.run_bind,qj hu];subst hag;cases hb:cx P t
  .have hn1:=h1 (by rw[hb]);have hlt:off<cs.size:=ae;refine⟨cs.getD off undef, ?_, ?_⟩
   .simp[Result.andThen,Array.getElem?_eq_getElem hlt,Array.getD,hlt]
   .simp only[cut,cond_false];exact h off ae
  .refine⟨.agg (cs.extract off (off+n)), ?_, ?_⟩
   .simp[Result.andThen,dw ht,hn]
   .simp only[cut,cond_true];refine .agg _ _ ?_ ?_ ?_
    .simp;omega
    .intro i hi;simp at hi;have:=hone (off+i) ae;rw[<-this];congr 1;simp[Array.getD,show off+i<cs.size by omega,show i<min (off+n) cs.size-off by omega]
    .intro i hi;simp at hi;rw[dT _ _ _ _ _ ae];have:=h (off+i) ae;have e:(cs.extract off (off+n)).getD i undef=cs.getD (off+i) undef:=by
      simp[Array.getD,show off+i<cs.size by omega,show i<min (off+n) cs.size-off by omega]
     rw[e];exact this
end
end
section
variable [dq]
section
variable {x:X} {f:Nat->Option bM} {C:CC} {defs:List (Option Nat)} {J:Src->b8} {ev:Operand->Value} {Y:Ctx} {m:List (Nat×bM)} {L:Nat}
def fV {os':List Operand}(hρ:pI C defs J ev x os'):∀(os:List Operand) (ss:List Src),(∀o∈os,o∈os')->C.qn defs os=some ss->sU J ss->
  os.length=ss.length/\(gL J ss).length=os.length/\∀i,i<(gL J ss).length->RD C.ν x ((os.map ev).getD i undef) ((gL J ss).getD i .any)
 |[],ss,_,h,_=>by simp[CC.qn]at h;subst h;simp[gL]
 |o::r,ss,hm,h,hk=>by
  simp only[CC.qn]at h;split at h
  .rename_i a l h1 h2;simp only[aZ]at h;subst h;simp only[sU]at hk;obtain⟨b1,b2,b3⟩:=fV hρ r l (fun o ho=>hm o (.tail _ ho)) h2 hk.2;refine⟨by simp[b1],by simp[gL,b2],fun i hi=>?_⟩;cases i with
   |zero=>simpa[gL]using hρ o (hm o (.head _)) a h1 hk.1
   |succ i=>simpa[gL]using b3 i (by simpa[gL]using hi)
  .cases h
def uK (off:Nat):∀(new:List Value) (st:Nat) (acc:Array Value),off+st+new.length<=acc.size->
  ((new.zipIdx st).foldl (fun cs (c,j)=>cs.setIfInBounds (off+j) c) acc).size=acc.size/\
  ∀q,((new.zipIdx st).foldl (fun cs (c,j)=>cs.setIfInBounds (off+j) c) acc)[q]? =if off+st<=q/\q<off+st+new.length then new[q-(off+st)]? else acc[q]?
 |[],st,acc,_=>⟨bh,fun q=>eo⟩
 |c::r,st,acc,hb=>by
  simp only[bA]at hb;obtain⟨h1,h2⟩:=uK off r (st+1) (acc.setIfInBounds (off+st) c) eo;refine⟨by simpa[List.zipIdx_cons]using h1,fun q=>?_⟩;rw[List.zipIdx_cons,List.foldl_cons,h2 q]
  grind
def ou {os':List Operand}(hρ:pI C defs J ev x os')(place:Nat->Option (Nat×Nat))(len:Nat):∀(ps:List (Nat×Operand)) (ss:List (Nat×Nat×Src)),
  (∀p∈ps,p.2∈os')->C.parts defs place ps=some ss->xg J len ss->∀(cs:Array Value) (ds:List D),cs.size=len->RD C.ν x (.agg cs) (.agg ds)->
  ∃cs',Instr.fill place cs (ps.map fun(i,o)=>(i,ev o))=some cs'/\RD C.ν x (.agg cs') (.agg (uI J ds ss))
 |[],ss,_,h,_,cs,ds,_,hr=>by simp[CC.parts]at h;subst h;exact⟨cs,by simp[Instr.fill],by simpa[uI]using hr⟩
 |(i,o)::r,ss,hm,h,hk,cs,ds,hlen,hr=>by
  simp only[CC.parts]at h;split at h
  .rename_i off n s l h1 h2 h3;split at h
   .cases h
   rename_i hn0;simp only[aZ]at h;subst h;simp only[xg]at hk;obtain⟨k1,k2,k3,k4⟩:=hk;have hn:0<n:=ae;have hv:=hρ o (hm _ (.head _)) s h2 k1;obtain⟨c1,c2⟩:=hv.cells ae;have hsz:(ev o).cells.size=n:=ae;cases hr with
   |agg _ _ hl hone hh=>
   let cs1:Array Value:=((ev o).cells.toList.zipIdx 0).foldl (fun cs (c,j)=>cs.setIfInBounds (off+j) c) cs
   have harr:(ev o).cells.zipIdx.foldl (fun cs (c,j)=>cs.setIfInBounds (off+j) c) cs=cs1:=by
    rw[<-Array.foldl_toList];simp[cs1]
   have hcs1:=harr;obtain⟨hsz1,hgq⟩:=uK off (ev o).cells.toList 0 cs eo;have hget:∀q,q<cs.size->cs1.getD q undef=if q<off then cs.getD q undef else if q<off+n then(ev o).cells.getD (q-off) undef else cs.getD q undef:=by
    intro q hq;have:=hgq q;rw[<-cw,<-cw cs,<-cw (ev o).cells];simp only[List.getD,Array.getElem?_toList];rw[show cs1[q]? =_ from this];simp only[Array.length_toList,hsz,Nat.add_zero];by_cases q1:q<off
    .rw[aw q1,ai ae]
    .rw[ai q1];by_cases q2:q<off+n
     .rw[aw q2,aw ae];simp
     .rw[ai q2,ai ae]
   have hsz1:cs1.size=cs.size:=hsz1;have hdlen:(over ds off (J s).d.cells).length=ds.length:=by simp[over];omega
   have hdget:∀q,q<ds.length->(over ds off (J s).d.cells).getD q .any=if q<off then ds.getD q .any else if q<off+n then(J s).d.cells.getD (q-off) .any else ds.getD q .any:=by
    intro q hq;simp only[over,List.getD,List.getElem?_append,fo];by_cases q1:q<off
    .rw[aw ae,aw q1];simp[List.getElem?_take,q1]
    .rw[ai ae,ai q1,show q-min off ds.length=q-off by omega];by_cases q2:q<off+n
     .rw[aw q2,aw ae]
     .rw[ai q2,ai ae];simp only[List.getElem?_drop];congr 3;omega
   have hr1:RD C.ν x (.agg cs1) (.agg (over ds off (J s).d.cells)):=by
    refine .agg _ _ ae (fun q hq=>?_) (fun q hq=>?_)
    .rw[hdlen]at hq;rw[hget q ae];split
     .exact hone q hq
     .split
      .exact(c2 (q-off) ae).1
      .exact hone q hq
    .rw[hdlen]at hq;rw[hget q ae,hdget q hq];split
     .exact hh q hq
     .split
      .exact(c2 (q-off) ae).2
      .exact hh q hq
   obtain⟨cs',g1,g2⟩:=ou hρ place len r l (fun p hp=>hm p (.tail _ hp)) h3 k4 cs1 _ ae hr1;refine⟨cs', ?_,by simpa[uI]using g2⟩;simp only[List.map_cons,Instr.fill,h1];rw[ai (by simp[hsz];omega),hcs1];exact g1
  .cases h
end
section
variable {ν:List (Nat×Nat)} {x:X} {P:Program}
def hY:∀(ks:List CK) (ds:List D),ff ks ds->ds.length=ks.length
 |[],[],_=>rfl
 |[],_::_,h=>by simp[ff]at h
 |_::_,[],h=>by simp[ff]at h
 |c::r,d::ds,h=>by have:=hY r ds (by simp[ff]at h;exact h.2);simp;omega
def je:∀(a b:List CK) (ds:List D),ff (a++b) ds->ff a (ds.take a.length)/\ff b (ds.drop a.length)
 |[],b,ds,h=>by simpa[ff]using h
 |c::r,b,[],h=>by simp[ff]at h
 |c::r,b,d::ds,h=>by
  simp only[qq,ff]at h;obtain⟨h1,h2⟩:=je r b ds h.2
  grind [ff]
def pQ:∀(n:Nat) (ds es:List D),ds.length=es.length->ij ds es=(ij (ds.take n) (es.take n)&&ij (ds.drop n) (es.drop n))
 |0,ds,es,_=>by simp[ij]
 |n+1,[],[],_=>by simp[ij]
 |n+1,[],_::_,h=>by simp at h
 |n+1,_::_,[],h=>by simp at h
 |n+1,d::ds,e::es,h=>by
  simp only[ij,List.take_succ_cons,List.drop_succ_cons];rw[pQ n ds es (by simpa using h),Bool.and_assoc]
def zT {c:CK}{d:D}(h:c.fits d):d.cells=[d]/\d.isAgg=false:=by
 cases c<;>cases d<;>simp_all[CK.fits,D.cells,D.isAgg]
def j0 {c:CK}{d:D}(h:ff [c] d.cells)(ha:d.isAgg=false):c.fits d:=by
 cases d<;>simp_all[D.cells,D.isAgg,ff]
def oM {ds:List D}{off n:Nat}{ag:Bool}{ks:List CK}(h:ff ks ((ds.drop off).take n))(hn:ag=false->n=1)(hle:off+n<=ds.length):
  (cut ds off n ag).cells=(ds.drop off).take n/\(cut ds off n ag).isAgg=ag:=by
 cases ag
 .have:=hn rfl;subst this;have hlt:off<ds.length:=ae;have e:(ds.drop off).take 1=[ds.getD off .any]:=by
   rw[jP hlt];simp[List.getD,hlt,List.take]
  rw[e]at h⊢;cases ks with
  |nil=>simp[ff]at h
  |cons c r=>
   simp only[ff]at h;exact zT h.1
 .exact⟨rfl,rfl⟩
def BC (ν:List (Nat×Nat))(x:X)(P:Program)(n:Nat)(t:TypeId)(ks:List CK):Prop:=
 ∀u v d e (w:World),RD ν x u d->RD ν x v e->d.isAgg=cx P t->e.isAgg=cx P t->ff ks d.cells->ff ks e.cells->
  (Op.equalIn n t u v).run P w=.ok (ij d.cells e.cells) w
def uR {n:Nat}{t:TypeId}{ks:List CK}(h:fF P n t=some ks)(ha:cx P t=false):ks.length=1:=by
 cases n with
 |zero=>simp[fF]at h
 |succ n=>
  grind [fF,cx]
def qI (n depth:Nat)(ih:∀t ks,fF P depth t=some ks->BC ν x P n t ks)(xs ys:Array Value)(ds es:List D)(h1:RD ν x (.agg xs) (.agg ds))(h2:RD ν x (.agg ys) (.agg es))(w:World):
  ∀(fs:List Field) (off:Nat) (ks:List CK),j8 P (fun t=>fF P depth t) off fs=some ks->off<=ds.length->off<=es.length->ff ks (ds.drop off)->ff ks (es.drop off)->
  (Op.eqFields n xs ys fs).run P w=.ok (ij (ds.drop off) (es.drop off)) w
 |[],off,ks,hk,_,_,f1,f2=>by
  simp[j8]at hk;subst hk;have a:=hY _ _ f1;have b:=hY _ _ f2;have a':ds.drop off=[]:=iO a;have b':es.drop off=[]:=iO b;rw[a',b'];simp[Op.eqFields,ij]
 |f::fs,off,ks,hk,l1,l2,f1,f2=>by
  simp only[j8]at hk;split at hk
  .cases hk
  .rename_i hne;have hname:f.name≠ "_" :=fun e=>hne (.inl e)
   have hoff:f.offset=off:=by
    rcases Nat.decEq f.offset off with h|h
    .exact absurd (.inr h) hne
    .exact h
   split at hk
   .rename_i a b ha hb;split at hk
    .rename_i hlen;obtain⟨hlen,hnz,hund⟩:=hlen;simp only[aZ]at hk;subst hk;obtain⟨fa1,fb1⟩:=je a b _ f1;obtain⟨fa2,fb2⟩:=je a b _ f2;have la:=hY _ _ f1;have lb:=hY _ _ f2;simp only[wy,cK]at la lb;have hag:cx P f.type=false->P.cellsOf f.type=1:=fun e=>by rw[<-hlen];exact uR ha e
     obtain⟨u,r1,r2⟩:=mD (P:=P) (off:=off) (n:=P.cellsOf f.type) (ag:=cx P f.type) w h1 ae hund rfl rfl ae hag;obtain⟨v,s1,s2⟩:=mD (P:=P) (off:=off) (n:=P.cellsOf f.type) (ag:=cx P f.type) w h2 ae hund rfl rfl ae hag;rw[hlen]at fa1 fa2 fb1 fb2;obtain⟨c1,c2⟩:=oM (ag:=cx P f.type) fa1 hag ae;obtain⟨d1,d2⟩:=oM (ag:=cx P f.type) fa2 hag ae;have he:=ih f.type a ha u v _ _ w r2 s2 c2 d2 (by rw[c1];exact fa1) (by rw[d1];exact fa2);rw[List.drop_drop]at fb1 fb2;have hrest:=qI n depth ih xs ys ds es h1 h2 w fs (off+P.cellsOf f.type) b hb ae ae fb1 fb2;rw[pQ (P.cellsOf f.type) (ds.drop off) (es.drop off) eo];simp only[Op.eqFields,hname,ne_eq,not_false_eq_true,aN,Sem.run_bind,hoff,r1,s1,he,Result.andThen_ok,Sem.run_ite,hrest];rw[c1,d1,List.drop_drop,List.drop_drop];cases ij ((ds.drop off).take (P.cellsOf f.type)) ((es.drop off).take (P.cellsOf f.type))<;>simp
    .cases hk
   .cases hk
def sL (n:Nat)(e:TypeId)(l:List CK)(ih:BC ν x P n e l)(hc:l.length=P.cellsOf e)(hnz:l.length≠0)(hund:(P.underlying e).isNone=false)(hag:cx P e=false->P.cellsOf e=1)
  (xs ys:Array Value) (ds es:List D) (h1:RD ν x (.agg xs) (.agg ds)) (h2:RD ν x (.agg ys) (.agg es)) (w:World):
  ∀(len j:Nat),j*P.cellsOf e<=ds.length->j*P.cellsOf e<=es.length->ff (List.replicate len l).flatten (ds.drop (j*P.cellsOf e))->ff (List.replicate len l).flatten (es.drop (j*P.cellsOf e))->
  (Op.eqItems n e (P.cellsOf e) xs ys (List.range' j len)).run P w=.ok (ij (ds.drop (j*P.cellsOf e)) (es.drop (j*P.cellsOf e))) w
 |0,j,_,_,f1,f2=>by
  have a:=hY _ _ f1;have b:=hY _ _ f2;have a':ds.drop (j*P.cellsOf e)=[]:=iO (by simpa using a);have b':es.drop (j*P.cellsOf e)=[]:=iO (by simpa using b);rw[a',b'];simp[Op.eqItems,ij]
 |len+1,j,l1,l2,f1,f2=>by
  simp only[List.replicate_succ,List.flatten_cons]at f1 f2;obtain⟨fa1,fb1⟩:=je _ _ _ f1;obtain⟨fa2,fb2⟩:=je _ _ _ f2;have la:=hY _ _ f1;have lb:=hY _ _ f2;simp only[wy,cK]at la lb;have hj:(j+1)*P.cellsOf e=j*P.cellsOf e+P.cellsOf e:=Nat.succ_mul _ _;obtain⟨u,r1,r2⟩:=mD (P:=P) (off:=j*P.cellsOf e) (n:=P.cellsOf e) (ag:=cx P e) w h1 ae hund rfl rfl ae hag;obtain⟨v,s1,s2⟩:=mD (P:=P) (off:=j*P.cellsOf e) (n:=P.cellsOf e) (ag:=cx P e) w h2 ae hund rfl rfl ae hag;rw[hc]at fa1 fa2 fb1 fb2;obtain⟨c1,c2⟩:=oM (ag:=cx P e) fa1 hag ae;obtain⟨d1,d2⟩:=oM (ag:=cx P e) fa2 hag ae;have he:=ih u v _ _ w r2 s2 c2 d2 (by rw[c1];exact fa1) (by rw[d1];exact fa2);rw[List.drop_drop,<-hj]at fb1 fb2;have hrest:=sL n e l ih hc hnz hund hag xs ys ds es h1 h2 w len (j+1) ae ae fb1 fb2;rw[pQ (P.cellsOf e) (ds.drop (j*P.cellsOf e)) (es.drop (j*P.cellsOf e)) eo];simp only[List.range'_succ,Op.eqItems,Sem.run_bind,r1,s1,he,Result.andThen_ok,Sem.run_ite,hrest];rw[c1,d1,List.drop_drop,List.drop_drop,<-hj];cases ij ((ds.drop (j*P.cellsOf e)).take (P.cellsOf e)) ((es.drop (j*P.cellsOf e)).take (P.cellsOf e))<;>simp
def n6:∀(depth:Nat) (t:TypeId) (ks:List CK),fF P depth t=some ks->∀n,depth<=n->BC ν x P n t ks
 |0,t,ks,h,_,_=>by simp[fF]at h
 |depth+1,t,ks,h,n,hn=>by
  obtain⟨n,rfl⟩:∃k,n=k+1:=⟨n-1,ae⟩
  intro u v d e w r1 r2 a1 a2 f1 f2;simp only[fF]at h;split at h
  .rename_i hu;simp only[aZ]at h;subst h;have hag:cx P t=false:=by simp[cx,hu]
   rw[hag]at a1 a2;have g1:=j0 f1 a1;have g2:=j0 f2 a2;cases d<;>simp only[CK.fits]at g1;cases e<;>simp only[CK.fits]at g2;rw[r1.ir,r2.ir,run_equalIn_bool w n t _ _ hu];simp[D.cells,ij,N4]
  .rename_i k hu;simp only[aZ]at h;subst h;have hag:cx P t=false:=by simp[cx,hu]
   rw[hag]at a1 a2;have g1:=j0 f1 a1;have g2:=j0 f2 a2;cases d<;>simp only[CK.fits]at g1;cases e<;>simp only[CK.fits]at g2;subst g1;subst g2;rw[r1.dD,r2.dD,run_equalIn_int w n t _ _ _ _ hu];simp[D.cells,ij,N4]
  .rename_i hu;simp only[aZ]at h;subst h;have hag:cx P t=false:=by simp[cx,hu]
   rw[hag]at a1 a2;have g1:=j0 f1 a1;have g2:=j0 f2 a2;cases d<;>simp only[CK.fits]at g1;cases e<;>simp only[CK.fits]at g2;rw[r1.ie.1,r2.ie.1,run_equalIn_string w n t _ _ hu];simp[D.cells,ij,N4,ByteArray.toList_eq]
  .rename_i fs hu;split at h
   .cases h
   .rename_i hst;have hag:cx P t=true:=by simp[cx,hu]
    rw[hag]at a1 a2;cases d<;>simp only[D.isAgg,gV]at a1;cases e<;>simp only[D.isAgg,gV]at a2;have hf:P.fieldsOf t=fs:=by simp[Program.fieldsOf,hu]
    cases r1 with
    |agg xs _ p1 p2 p3=>
     cases r2 with
     |agg ys _ q1 q2 q3=>
      rw[run_equalIn_struct w n t xs ys (by rw[hf];exact hu) (by simpa using hst),hf];have:=qI (ν:=ν) (x:=x) n depth (fun t ks hk=>n6 depth t ks hk n ae) xs ys _ _ (.agg xs _ p1 p2 p3) (.agg ys _ q1 q2 q3) w fs.toList 0 ks h bh bh (by simpa[D.cells]using f1) (by simpa[D.cells]using f2);simpa[D.cells]using this
  .rename_i len e' hu;split at h
   .rename_i l hl;split at h
    .rename_i hc;obtain⟨hc,hnz,hund⟩:=hc;simp only[aZ]at h;subst h;have hag:cx P t=true:=by simp[cx,hu]
     rw[hag]at a1 a2;cases d<;>simp only[D.isAgg,gV]at a1;cases e<;>simp only[D.isAgg,gV]at a2;obtain⟨i,hi,_⟩:=lV (P:=P) (t:=e') ae;cases r1 with
     |agg xs _ p1 p2 p3=>
      cases r2 with
      |agg ys _ q1 q2 q3=>
       rw[run_equalIn_array w n xs ys hu hi,List.range_eq_range'];have:=sL (ν:=ν) (x:=x) n e' l (n6 depth e' l hl n ae) hc hnz hund (fun e=>by rw[<-hc];exact uR hl e) xs ys _ _ (.agg xs _ p1 p2 p3) (.agg ys _ q1 q2 q3) w len 0 bh bh (by simpa[D.cells]using f1) (by simpa[D.cells]using f2);simpa[D.cells]using this
    .cases h
   .cases h
  .cases h
end
end
end Go.Abs
