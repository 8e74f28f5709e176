/- A part of the proofs. -/
import Derived.Attr
import Derived.ChangeKeysEq
import Derived.Deep.AppendSrc
import Derived.KernelRfl
import Derived.Test.YtgnjlompgjhaaaaGreatDoorProg
import Derived.WalkKit
import GoSem.Dispatch
import GoSem.Step
set_option linter.all false
set_option maxRecDepth 60000
set_option maxHeartbeats 2000000
section
namespace Go.Abs
def aP:=@List.length_cons
def a8:=@List.length_nil
def bc:=@decide_eq_false_iff_not
def aK:=@decide_eq_true_eq
def bh:=@Option.some.injEq
def ak:=@if_neg
def aw:=@if_pos
def bC:=@Bool.and_eq_true
def bQ:=@List.length_append
def bM:=@Bool.not_eq_false'
def bd:=@Bool.not_eq_true'
def aL:=@Nat.le_refl
def bL:=@Option.some.inj
def bO:=@List.length_map
def aX:=@if_false
def aW:=@if_true
def bZ:=@List.drop_zero
def ca:=@decide_eq_true
def bR:=@Nat.zero_add
def de:=@Bool.or_eq_false_iff
def dU:=@List.forall_mem_cons
def dz:=@Bool.and_eq_false_iff
def ea:=@Option.map_eq_some_iff
def cI:=@decide_eq_false
def cN:=@Bool.or_eq_true
def ee:=@List.take_of_length_le
def eu:=@List.length_take
def ey:=@List.append_assoc
def cK:=@List.mem_singleton
def fS:=@Bool.false_eq_true
def eH:=@Prod.mk.injEq
def fo:=@Nat.mul_le_mul_right
def dp:=@Nat.le_trans
def fq:=@Nat.lt_of_lt_of_le
def fg:=@List.nil_append
def mH:=@List.eq_nil_of_length_eq_zero
def je:=@List.drop_eq_getElem_cons
def fD:=@List.cons_append
def cb:=@List.mem_cons
def ct:=@true_and
def cu:=@and_true
def cT:=@false_and
def cX:=@and_false
def cO:=@and_self
def bS:=@Eq.trans
def aj:=@congrArg
def lM:=@List.drop_eq_nil_of_le
def gX:=@List.append_nil
def mI:=@List.suffix_refl
def jY:=@List.length_drop
def eJ:=@List.not_mem_nil
def im:=@UInt8.toNat_inj
def jC:=@List.getD_cons_zero
def gH:=@Bool.true_and
def nE:=@Bool.and_true
def ez:=@List.mem_map
def oU:=@List.cons.injEq
def qV:=@List.length_eq_zero_iff
def kD:=@List.mem_of_mem_take
def gY:=@decide_eq_decide
def iq:=@Nat.lt_or_ge
def ae {p:Prop}(h:p:=by omega):p:=h
def cd {p:Prop}(h:p:=by simp only[List.length_cons,List.length_nil];omega):p:=h
def aF {p:Prop}(h:p:=by decide):p:=h
def oV {p:Prop}(h:p:=by kernel_rfl):p:=h
def aJ {p:Prop}(h:p:=by simp):p:=h
def dF {p:Prop}(h:p:=by dsimp only;omega):p:=h
def cZ {p:Prop}(h:p:=by simp;omega):p:=h
def aQ {p:Prop}(h:p:=by exact rfl):p:=h
end Go.Abs
def cP {α:Type}{a:Option α}{b c:α}(h:a=some b)(e:b=c:=by kernel_rfl):a=some c:=h.trans (congrArg some e)
end
namespace Go.Abs
inductive D where
 |any
 |bool (b:Bool)
 |int (k:IntKind) (n:Int)
 |str (s:List UInt8)
 |agg (cs:List D)
 |tup (ds:List D)
 |bq
 |sl (k:Nat) (es:List D)
 |ref (k:Nat) (es:List D) (i o:Nat)
 |ptr (l k i o:Nat)
 |own (l k i n:Nat)
 |nilp
 |fn (f:Nat) (caps:List D)
 |nilf
 |it (l:Nat)
 deriving Inhabited
inductive Src where
 |s (n:Nat)
 |l (p:Nat)
 |c (d:D)
 deriving Inhabited
inductive Sh where
 |a
 |sl (k:Nat) (cs:List Sh)
 |pt (cs:List Sh)
 deriving Inhabited
inductive CK where
 |b|i (k:IntKind)|s
 deriving Inhabited
inductive aV where
 |mv (x:Src)
 |pick (c a b:Src)
 |box (k:Nat) (x:Src)
 |build (z:List D) (parts:List (Nat×Nat×Src))
 |bsl (k:Nat) (z:D) (n:Nat) (parts:List (Nat×Src))
 |ld (n:Nat) (ag:Bool) (p:Src)
 |st (n:Nat) (p v:Src)
 |nilck (x:Src)
 |bin (op:BinOp) (x y:Src)
 |eqA (neg ag:Bool) (ks:List CK) (x y:Src)
 |un (op:UnOp) (x:Src)
 |cvi (k:IntKind) (x:Src)
 |mn (x y:Src)
 |s2b (x:Src)
 |b2s (x:Src)
 |i2s (x:Src)
 |mkf (f:Nat) (caps:List Src)
 |mks (k:Nat) (z:D) (ln cp:Src)
 |slS (x:Src) (lo hi:Option Src)
 |slA (k:Nat) (x:Src) (lo hi:Option Src)
 |slX (k:Nat) (x hi mx:Src)
 |fa (off:Nat) (p:Src)
 |fld (off n:Nat) (ag:Bool) (x:Src)
 |ia (k:Nat) (x i:Src)
 |iaP (n k:Nat) (x i:Src)
 |ixS (x i:Src)
 |ixA (n k:Nat) (ag:Bool) (x i:Src)
 |ext (x:Src) (i:Nat)
 |len (x:Src)
 |lenS (x:Src)
 |app (k:Nat) (x y:Src)
 |call (f:Nat) (args:List Src) (sh:List (List Sh))
 |callv (f:Src) (args:List Src) (sh:List (List Sh))
 |callM (f:Nat) (args:List Src)
 |callvM (f:Src) (args:List Src)
 |ldI (n:Nat) (ag:Bool) (p:Src)
 |ldU (n:Nat) (ag:Bool) (p:Src)
 |callF (f:Nat) (r:Src) (args:List Src) (sh:List (List Sh))
 |appN (k:Nat) (y:Src)
 |bslI (k:Nat) (z:D) (n:Nat) (parts:List (Nat×Src))
 |yu (x:Src)
 |Gd (x:Src)
 |mkB
 |lkp (x k:Src)
 |R5 (x:Src)
 |isNl (x:Src)
 deriving Inhabited
structure GI where
 i:aV
 g:Option (Nat×Bool)
 deriving Inhabited
inductive AC where
 |reg (draw:Bool) (ins:List GI) (cm:List (Nat×Nat))
 |seq (a b:AC)
 |cond (c:Src) (a b:AC)
 |block (id:Nat) (a:AC)
 |loop (a:AC)
 |exit (id:Nat)
 |ret
 |skip
 deriving Inhabited
structure N3 where
 s:Nat
 mem:Option (Nat×Bool)
 deriving Inhabited
structure aC where
 np:Nat
 ns:Nat
 res:List N3
 rsh:List (List Sh)
 body:AC
 deriving Inhabited
@[go_sem] def D.cells:D->List D
 | .agg cs=>cs
 | .any=>[]
 | .tup _=>[]
 |d=>[d]
@[go_sem] def D.isBool:D->Bool
 | .bool _=>true
 |_=>false
@[go_sem] def D.isAgg:D->Bool
 | .agg _=>true
 |_=>false
mutual
@[go_sem] def D.bJ:D->Bool
 | .agg cs=>bH cs
 | .tup cs=>bH cs
 | .fn _ cs=>bH cs
 | .ptr .. =>false
 | .own .. =>false
 | .it _=>false
 |_=>true
@[go_sem] def bH:List D->Bool
 |[]=>true
 |d::r=>d.bJ&&bH r
end
mutual
@[go_sem] def D.fI:D->Bool
 | .agg cs=>oE cs
 | .tup cs=>oE cs
 | .fn n cs=>!(Nat.ble 2000000 n)&&oE cs
 | .ptr .. =>false
 | .own .. =>false
 | .it _=>false
 | .sl .. =>false
 | .ref .. =>false
 |_=>true
@[go_sem] def oE:List D->Bool
 |[]=>true
 |d::r=>d.fI&&oE r
end
inductive bX where
 |buf (k:Nat) (es:List D)
 |iter (s:List UInt8) (pos:Nat)
 |row (s:List UInt8)
 |bld (o:Option Nat) (n:Nat) (u:Bool)
 deriving Inhabited
structure St where
 nx:Nat
 m:List (Nat×bX)
@[go_sem] def look:List (Nat×bX)->Nat->Option bX
 |[],_=>none
 |(a,b)::r,l=>if a=l then some b else look r l
@[go_sem] def dH:List (Nat×bX)->Nat->bX->List (Nat×bX)
 |[],l,b=>[(l,b)]
 |(a,x)::r,l,b=>if a=l then(a,b)::r else(a,x)::dH r l b
@[go_sem] def cJ:List (Nat×bX)->Nat->List (Nat×bX)
 |[],_=>[]
 |(a,x)::r,l=>if a=l then cJ r l else(a,x)::cJ r l
structure ch where
 ok:Bool
 d:D
@[go_sem] def ch.un:ch:=⟨true,.any⟩
@[go_sem] def Src.ev (env vs:List ch):Src->ch
 | .s n=>env.getD n .un
 | .l p=>vs.getD p .un
 | .c d=>⟨true,d⟩
structure Ctx where
 pre:Nat->List D->Prop
 val:Nat->List D->D
 tr:Nat->List D->St->(D->St->Prop)->Prop
 fp:Nat->D->List D->Prop
 fv:Nat->D->List D->D
 fs:Nat->D->List D->D
 lo:Nat
@[go_sem] def bD (m:List (Nat×bX))(l:Nat):List D:=match look m l with
 |some (.buf _ es)=>es
 |_=>[]
@[go_sem] def fZ (m:List (Nat×bX))(l k n:Nat):Prop:=match look m l with
 |some (.buf k' es)=>k=k'/\n<=es.length
 |_=>False
@[go_sem] def rl (m:List (Nat×bX)):D->List D
 | .sl _ es=>es
 | .own l _ i n=>((bD m l).drop i).take n
 | .str s=>s.map fun b=>.int .u8 b.toNat
 |_=>[]
@[go_sem] def EN (m:List (Nat×bX))(k:Nat):D->Prop
 | .sl k' _=>k'=k
 | .own l k' i n=>k'=k/\fZ m l k (i+n)
 | .str _=>k=1
 | .bq=>True
 |_=>False
mutual
@[go_sem] def qb (m:List (Nat×bX)):Sh->D->D
 | .a,d=>match d with
  | .bq=>.sl 0 []
  |d=>d
 | .sl k cs,d=>match d with
  | .bq=>.sl k []
  | .own l k' i c=>.sl k' ((((bD m l).drop i).take c).map (kR m cs))
  |d=>d
 | .pt cs,d=>match d with
  | .ptr l k i o=>.ref k ((bD m l).map (kR m cs)) i o
  |d=>d
@[go_sem] def kR (m:List (Nat×bX)):List Sh->D->D
 |[],d=>d
 |s::r,d=>match d with
  | .agg cs=>.agg (qc m (s::r) cs)
  |d=>qb m s d
@[go_sem] def qc (m:List (Nat×bX)):List Sh->List D->List D
 |[],ds=>ds
 |s::r,ds=>match ds with
  |[]=>[]
  |d::ds=>qb m s d::qc m r ds
end
mutual
@[go_sem] def m7 (m:List (Nat×bX)):Sh->D->Prop
 | .a,d=>d.bJ=true
 | .sl _ cs,d=>match d with
  | .own l k' i c=>fZ m l k' (i+c)/\∀e∈((bD m l).drop i).take c,jy m cs e
  |d=>d.bJ=true
 | .pt cs,d=>match d with
  | .ptr l k _ _=>fZ m l k 0/\∀e∈bD m l,jy m cs e
  |d=>d.bJ=true
@[go_sem] def jy (m:List (Nat×bX)):List Sh->D->Prop
 |[],d=>d.bJ=true
 |s::r,d=>match d with
  | .agg cs=>nL m (s::r) cs
  |d=>m7 m s d
@[go_sem] def nL (m:List (Nat×bX)):List Sh->List D->Prop
 |[],ds=>bH ds=true
 |s::r,ds=>match ds with
  |[]=>True
  |d::ds=>m7 m s d/\nL m r ds
end
@[go_sem] def kj (op:BinOp):D->D->D
 | .int k a,.int _ b=>match op with
  | .add=>.int k (k.wrap (a+b))
  | .sub=>.int k (k.wrap (a-b))
  | .mul=>.int k (k.wrap (a*b))
  | .quo=>.int k (k.wrap (a.tdiv b))
  | .rem=>.int k (a.tmod b)
  | .eql=>.bool (a==b)| .neq=>.bool (a !=b)| .lss=>.bool (decide (a<b))| .leq=>.bool (decide (a<=b))| .gtr=>.bool (decide (b<a))| .geq=>.bool (decide (b<=a))
  | .shl=>.int k (k.wrap (a*2^(min b.toNat k.bits)))
  | .shr=>.int k (a.fdiv (2^(min b.toNat k.bits)))
  | .and=>.int k (k.wrap (((BitVec.ofInt k.bits a)&&&(BitVec.ofInt k.bits b)).toNat))
  | .or=>.int k (k.wrap (((BitVec.ofInt k.bits a) |||(BitVec.ofInt k.bits b)).toNat))
  | .xor=>.int k (k.wrap (((BitVec.ofInt k.bits a)^^^(BitVec.ofInt k.bits b)).toNat))
  | .andNot=>.int k (k.wrap (((BitVec.ofInt k.bits a)&&& ~~~(BitVec.ofInt k.bits b)).toNat))
 | .str a,.str b=>match op with
  | .add=>.str (a++b)
  | .eql=>.bool (a==b)| .neq=>.bool (!(a==b))| .lss=>.bool (Op.bytesLess a b)| .geq=>.bool (!(Op.bytesLess a b))
  | .leq=>.bool (Op.bytesLess a b ||a==b)| .gtr=>.bool (!(Op.bytesLess a b ||a==b))
  |_=>.any
 |_,_=>.any
@[go_sem] def jS (op:BinOp):D->D->Prop
 | .int k a,.int k' b=>match op with
  | .quo=>k=k'/\b≠0
  | .rem=>k=k'/\b≠0
  | .shl=>0<=b
  | .shr=>0<=b
  |_=>k=k'
 | .str a,.str b=>match op with
  | .add=>a.length+b.length<=9223372036854775807
  | .eql=>True| .neq=>True| .lss=>True| .geq=>True| .leq=>True| .gtr=>True
  |_=>False
 |_,_=>False
@[go_sem] def D.pick (b:Bool):D->D->D
 | .bool x,.bool y=>.bool (bif b then x else y)
 |x,y=>bif b then x else y
@[go_sem] def cut (cs:List D)(o n:Nat)(ag:Bool):D:=bif ag then .agg ((cs.drop o).take n)else cs.getD o .any
@[go_sem] def nT (e:D)(k n o:Nat)(ag:Bool):D:=bif (n==k)&&(e.isAgg==ag)then e else cut e.cells o n ag
@[go_sem] def Dx (m:List (Nat×bX))(n:Nat)(ag:Bool):D->D
 | .ptr l k i o=>nT ((bD m l).getD i .any) k n o ag
 | .ref k es i o=>nT (es.getD i .any) k n o ag
 | .fn _ es=>nT (es.getD 0 .any) 1 n 0 ag
 |_=>.any
@[go_sem] def Hh (m:List (Nat×bX))(n:Nat):D->Prop
 | .ptr l k i o=>fZ m l k (i+1)/\o+n<=k
 | .ref k es i o=>i<es.length/\o+n<=k
 | .fn q es=>q=3000000/\n=1/\es.length=1/\(es.getD 0 .any).cells=[es.getD 0 .any]
 |_=>False
mutual
@[go_sem] def YY:D->D->Bool
 | .bool a,.bool b=>a==b
 | .int _ a,.int _ b=>a==b
 | .str a,.str b=>a==b
 |_,_=>false
@[go_sem] def jt:List D->List D->Bool
 |[],[]=>true
 |a::r,b::s=>YY a b&&jt r s
 |_,_=>false
end
@[go_sem] def CK.fits:CK->D->Prop
 | .b,.bool _=>True
 | .i k,.int k' _=>k'=k
 | .s,.str _=>True
 |_,_=>False
@[go_sem] def gN:List CK->List D->Prop
 |[],[]=>True
 |c::r,d::s=>c.fits d/\gN r s
 |_,_=>False
@[go_sem] def over (cs:List D)(o:Nat)(new:List D):List D:=cs.take o++(new++cs.drop (o+new.length))
@[go_sem] def v7 (e:D)(k n o:Nat)(v:D):D:=bif (n==k)&&(v.isAgg ||!e.isAgg)then v else .agg (over e.cells o v.cells)
@[go_sem] def AM (J:Src->ch)(cs:List D):List (Nat×Nat×Src)->List D
 |[]=>cs
 |(o,_,s)::r=>AM J (over cs o (J s).d.cells) r
@[go_sem] def Di (J:Src->ch)(len:Nat):List (Nat×Nat×Src)->Prop
 |[]=>True
 |(o,n,s)::r=>(J s).ok=true/\(J s).d.cells.length=n/\o+n<=len/\Di J len r
@[go_sem] def nI (J:Src->ch)(es:List D):List (Nat×Src)->List D
 |[]=>es
 |(i,s)::r=>nI J (es.set i (J s).d) r
@[go_sem] def uo (J:Src->ch)(k n:Nat):List (Nat×Src)->Prop
 |[]=>True
 |(i,s)::r=>i<n/\(J s).ok=true/\(J s).d.cells.length=k/\uo J k n r
@[go_sem] def D.nat:D->Nat
 | .int _ n=>n.toNat
 |_=>0
@[go_sem] def fe (o:Option D)(dflt:Nat):Nat:=match o with
 |some (.int _ n)=>n.toNat
 |_=>dflt
@[go_sem] def pN (o:Option D)(hi:Nat):Prop:=match o with
 |none=>True
 |some (.int _ n)=>0<=n/\n<=hi
 |_=>False
@[go_sem] def Pu (J:Src->ch):Option Src->Prop
 |none=>True
 |some s=>(J s).ok=true
@[go_sem] def dO (J:Src->ch):Option Src->Option D
 |none=>none
 |some s=>some (J s).d
@[go_sem] def xo (J:Src->ch):List Src->Prop
 |[]=>True
 |s::r=>(J s).ok=true/\xo J r
@[go_sem] def jo (J:Src->ch):List Src->List D
 |[]=>[]
 |s::r=>(J s).d::jo J r
@[go_sem] def D.u8:D->UInt8
 | .int _ n=>UInt8.ofNat n.toNat
 |_=>0
@[go_sem] def D.O4:D->Prop
 | .int k n=>k=.u8/\0<=n/\n<256
 |_=>False
def wF (s:List UInt8)(pos:Nat):Nat×Nat:=Utf8.decode ⟨⟨s⟩⟩ pos
def TQ (n:Int):List UInt8:=(Utf8.encode n).data.toList
@[go_sem] def jm (m:List (Nat×bX)):List (List Sh)->List D->List D
 |_,[]=>[]
 |[],d::r=>kR m [.a] d::jm m [] r
 |s::ss,d::r=>kR m s d::jm m ss r
@[go_sem] def kI (m:List (Nat×bX)):List (List Sh)->List D->Prop
 |_,[]=>True
 |[],d::r=>jy m [.a] d/\kI m [] r
 |s::ss,d::r=>jy m s d/\kI m ss r
@[go_sem] def Sn (s:List UInt8):List D->D
 | .str a::f::r=>bif a==s then f else Sn s r
 |_=>.nilf
@[go_sem] def Zh:List D->Prop
 |[]=>True
 | .str _::_::r=>Zh r
 |_=>False
@[go_sem] def aV.val (Y:Ctx)(J:Src->ch)(m:List (Nat×bX))(L:Nat):aV->D
 | .mv x=>(J x).d
 | .pick c a b=>match(J c).d with| .bool t=>D.pick t (J a).d (J b).d|_=>.any
 | .box k _=>.ptr L k 0 0
 | .build z ps=>.agg (AM J z ps)
 | .bsl k _ n _=>.own L k 0 n
 | .ld n ag p=>Dx m n ag (J p).d
 | .st _ _ _=>.any
 | .nilck x=>(J x).d
 | .bin op x y=>kj op (J x).d (J y).d
 | .eqA neg _ _ x y=>.bool (bif neg then !(jt (J x).d.cells (J y).d.cells)else jt (J x).d.cells (J y).d.cells)
 | .un op x=>match op,(J x).d with
  | .not,.bool b=>.bool (!b)
  | .neg,.int k n=>.int k (k.wrap (0-n))
  |_,_=>.any
 | .cvi k x=>match(J x).d with| .int _ n=>.int k (k.wrap n)|_=>.any
 | .mn x y=>match(J x).d,(J y).d with| .int k a,.int _ b=>.int k (if b<a then b else a)|_,_=>.any
 | .s2b x=>match(J x).d with| .str s=>.own L 1 0 s.length|_=>.any
 | .b2s x=>.str ((rl m (J x).d).map D.u8)
 | .i2s x=>match(J x).d with| .int _ n=>.str (TQ n)|_=>.any
 | .mkf f caps=>.fn f (jo J caps)
 | .mks k _ ln _=>.own L k 0 (J ln).d.nat
 | .slS x lo hi=>match(J x).d with
  | .str s=>.str ((s.take (fe (dO J hi) s.length)).drop (fe (dO J lo) 0))
  |_=>.any
 | .slA _ x lo hi=>match(J x).d with
  | .sl k es=>.sl k ((es.take (fe (dO J hi) es.length)).drop (fe (dO J lo) 0))
  | .own l k i n=>.own l k (i+fe (dO J lo) 0) (fe (dO J hi) n-fe (dO J lo) 0)
  | .bq=>.bq
  |_=>.any
 | .slX _ x hi _=>match(J x).d,(J hi).d with
  | .sl k es,.int _ h=>.sl k (es.take h.toNat)
  | .own l k i _,.int _ h=>.own l k i h.toNat
  | .bq,_=>.bq
  |_,_=>.any
 | .fa off p=>match(J p).d with
  | .ptr l k i o=>.ptr l k i (o+off)
  | .ref k es i o=>.ref k es i (o+off)
  |_=>.any
 | .fld off n ag x=>cut (J x).d.cells off n ag
 | .ia _ x i=>match(J x).d,(J i).d with
  | .sl k es,.int _ n=>.ref k es n.toNat 0
  | .own l k j _,.int _ n=>.ptr l k (j+n.toNat) 0
  |_,_=>.any
 | .iaP _ k x i=>match(J x).d,(J i).d with
  | .ptr l k' j o,.int _ n=>.ptr l k' j (o+n.toNat*k)
  | .ref k' es j o,.int _ n=>.ref k' es j (o+n.toNat*k)
  |_,_=>.any
 | .ixS x i=>match(J x).d,(J i).d with
  | .str s,.int _ n=>.int .u8 (s.getD n.toNat 0).toNat
  |_,_=>.any
 | .ixA _ k ag x i=>match(J i).d with
  | .int _ n=>cut (J x).d.cells (n.toNat*k) k ag
  |_=>.any
 | .ext x i=>match(J x).d with| .tup ds=>ds.getD i .any|_=>.any
 | .len x=>match(J x).d with
  | .sl _ es=>.int .i64 es.length
  | .own _ _ _ n=>.int .i64 n
  | .bq=>.int .i64 0
  |_=>.any
 | .lenS x=>match(J x).d with
  | .str s=>.int .i64 s.length
  |_=>.any
 | .app k x y=>match(J x).d with
  | .own _ _ _ n=>.own L k 0 (n+(rl m (J y).d).length)
  |_=>.own L k 0 (rl m (J y).d).length
 | .call f args sh=>Y.val f (jm m sh (jo J args))
 | .callv f args sh=>match(J f).d with
  | .fn n caps=>Y.val n (jm m sh (jo J args++caps))
  |_=>.any
 | .callM _ _=>.any
 | .callvM _ _=>.any
 | .ldU n ag p=>Dx m n ag (J p).d
 | .ldI n ag p=>match(J p).d with
  | .ref k es i o=>nT (es.getD i .any) k n o ag
  | .fn _ es=>nT (es.getD 0 .any) 1 n 0 ag
  |_=>.any
 | .appN k y=>.own L k 0 (rl m (J y).d).length
 | .bslI k z n ps=>.sl k (nI J (List.replicate n z) ps)
 | .callF f r args sh=>match(J r).d with
  | .ptr l _ _ _=>Y.fv f ((bD m l).getD 0 .any) (jm [] sh (jo J args))
  |_=>.any
 | .yu _=>.it L
 | .mkB=>.ptr L 2 0 0
 | .lkp x k=>match(J x).d,(J k).d with| .fn _ es,.str s=>Sn s es|_,_=>.any
 | .R5 x=>match(J x).d with| .nilf=>.bool true|_=>.bool false
 | .isNl _=>.any
 | .Gd x=>match(J x).d with
  | .it l=>match look m l with
   |some (.iter s pos)=>bif decide (pos<s.length)then .tup [.bool true,.int .i64 pos,.int .i32 (wF s pos).1]else .tup [.bool false]
   |_=>.any
  |_=>.any
@[go_sem] def uf (args:List D)(r:D):Bool:=bH args ||r.fI
@[go_sem] def aV.eA (Y:Ctx)(J:Src->ch)(m:List (Nat×bX)):aV->Prop
 | .mv x=>(J x).ok=true
 | .pick c a b=>(J c).ok=true/\match(J c).d with
  | .bool t=>(t=true->(J a).ok=true)/\(t=false->(J b).ok=true)
  |_=>False
 | .box k x=>(J x).ok=true/\(J x).d.cells.length=k
 | .build z ps=>Di J z.length ps
 | .bsl k z n ps=>z.cells.length=k/\uo J k n ps
 | .ld n _ p=>(J p).ok=true/\Hh m n (J p).d
 | .st n p v=>(J p).ok=true/\(J v).ok=true/\(J v).d.cells.length=n/\match(J p).d with
  | .ptr l k i o=>fZ m l k (i+1)/\o+n<=k
  |_=>False
 | .nilck x=>(J x).ok=true/\match(J x).d with| .ptr .. =>True| .ref .. =>True|_=>False
 | .bin op x y=>(J x).ok=true/\(J y).ok=true/\jS op (J x).d (J y).d
 | .eqA _ ag ks x y=>(J x).ok=true/\(J y).ok=true/\(J x).d.isAgg=ag/\(J y).d.isAgg=ag/\gN ks (J x).d.cells/\gN ks (J y).d.cells
 | .un op x=>(J x).ok=true/\match op,(J x).d with
  | .not,.bool _=>True
  | .neg,.int _ _=>True
  |_,_=>False
 | .cvi _ x=>(J x).ok=true/\match(J x).d with| .int _ _=>True|_=>False
 | .mn x y=>(J x).ok=true/\(J y).ok=true/\match(J x).d,(J y).d with| .int _ _,.int _ _=>True|_,_=>False
 | .s2b x=>(J x).ok=true/\match(J x).d with| .str _=>True|_=>False
 | .b2s x=>(J x).ok=true/\(match(J x).d with| .str _=>False|_=>True)/\EN m 1 (J x).d/\∀e∈rl m (J x).d,e.O4
 | .i2s x=>(J x).ok=true/\match(J x).d with| .int _ _=>True|_=>False
 | .mkf _ caps=>xo J caps
 | .mks k z ln cp=>(J ln).ok=true/\(J cp).ok=true/\z.cells.length=k/\match(J ln).d,(J cp).d with
  | .int _ n,.int _ c=>0<=n/\n<=c/\c<=1073741824
  |_,_=>False
 | .slS x lo hi=>(J x).ok=true/\Pu J lo/\Pu J hi/\match(J x).d with
  | .str s=>pN (dO J hi) s.length/\pN (dO J lo) (fe (dO J hi) s.length)
  |_=>False
 | .slA k x lo hi=>(J x).ok=true/\Pu J lo/\Pu J hi/\match(J x).d with
  | .sl k' es=>k'=k/\pN (dO J hi) es.length/\pN (dO J lo) (fe (dO J hi) es.length)
  | .own _ k' _ n=>k'=k/\pN (dO J hi) n/\pN (dO J lo) (fe (dO J hi) n)
  | .bq=>pN (dO J hi) 0/\pN (dO J lo) 0
  |_=>False
 | .slX k x hi mx=>(J x).ok=true/\(J hi).ok=true/\(J mx).ok=true/\match(J hi).d,(J mx).d with
  | .int _ h,.int _ m=>0<=h/\h<=m/\(match(J x).d with
    | .sl k' es=>k'=k/\m<=es.length
    | .own _ k' _ n=>k'=k/\m<=n
    | .bq=>m=0
    |_=>False)
  |_,_=>False
 | .fa off p=>(J p).ok=true/\match(J p).d with| .ptr .. =>True| .ref .. =>True|_=>False
 | .fld off n ag x=>(J x).ok=true/\match(J x).d with| .agg cs=>off+n<=cs.length/\(ag=false->n=1)|_=>False
 | .ia k x i=>(J x).ok=true/\(J i).ok=true/\match(J x).d,(J i).d with
  | .sl k' es,.int _ n=>k'=k/\0<=n/\n<es.length
  | .own _ k' _ c,.int _ n=>k'=k/\0<=n/\n<c
  |_,_=>False
 | .iaP n k x i=>(J x).ok=true/\(J i).ok=true/\match(J x).d,(J i).d with
  | .ptr ..,.int _ c=>0<=c/\c<n
  | .ref ..,.int _ c=>0<=c/\c<n
  |_,_=>False
 | .ixS x i=>(J x).ok=true/\(J i).ok=true/\match(J x).d,(J i).d with
  | .str s,.int _ n=>0<=n/\n<s.length
  |_,_=>False
 | .ixA n k ag x i=>(J x).ok=true/\(J i).ok=true/\(ag=false->k=1)/\match(J x).d,(J i).d with
  | .agg cs,.int _ c=>0<=c/\c<n/\cs.length=n*k
  |_,_=>False
 | .ext x i=>(J x).ok=true/\match(J x).d with| .tup ds=>i<ds.length|_=>False
 | .len x=>(J x).ok=true/\match(J x).d with| .sl _ _=>True| .own .. =>True| .bq=>True|_=>False
 | .lenS x=>(J x).ok=true/\match(J x).d with| .str _=>True|_=>False
 | .app k x y=>(J x).ok=true/\(J y).ok=true/\EN m k (J y).d/\match(J x).d with
  | .own l k' i n=>k'=k/\fZ m l k (i+n)/\n+(rl m (J y).d).length<=1073741824
  | .bq=>(rl m (J y).d).length<=1073741824
  |_=>False
 | .call f args sh=>xo J args/\kI m sh (jo J args)/\Y.pre f (jm m sh (jo J args))/\uf (jo J args) (Y.val f (jm m sh (jo J args)))=true
 | .callv f args sh=>(J f).ok=true/\xo J args/\match(J f).d with
  | .fn n caps=>n<1000000/\kI m sh (jo J args++caps)/\Y.pre n (jm m sh (jo J args++caps))/\uf (jo J args++caps) (Y.val n (jm m sh (jo J args++caps)))=true
  |_=>False
 | .callM _ args=>xo J args
 | .callvM _ args=>xo J args
 | .ldU n _ p=>(J p).ok=true/\match(J p).d with
  | .ptr l k i o=>(fZ m l k (i+1)/\o+n<=k)/\bH (bD m l)=false
  | .ref k es i o=>i<es.length/\o+n<=k
  |_=>False
 | .ldI n _ p=>(J p).ok=true/\match(J p).d with
  | .ref k es i o=>i<es.length/\o+n<=k
  | .fn q es=>q=3000000/\n=1/\es.length=1/\(es.getD 0 .any).cells=[es.getD 0 .any]
  |_=>False
 | .appN k y=>(J y).ok=true/\EN m k (J y).d/\(rl m (J y).d).length<=1073741824
 | .bslI k z n ps=>z.cells.length=k/\uo J k n ps/\bH (nI J (List.replicate n z) ps)=true
 | .callF f r args sh=>(J r).ok=true/\xo J args/\bH (jo J args)=true/\match(J r).d with
  | .ptr l k i o=>i=0/\o=0/\fZ m l k 1/\(bD m l).length=1/\((bD m l).getD 0 .any).bJ=true/\Y.fp f ((bD m l).getD 0 .any) (jm [] sh (jo J args))
  |_=>False
 | .yu x=>(J x).ok=true/\match(J x).d with| .str _=>True|_=>False
 | .mkB=>True
 | .lkp x k=>(J x).ok=true/\(J k).ok=true/\match(J x).d,(J k).d with
  | .fn n es,.str _=>n=2000000/\Zh es
  |_,_=>False
 | .isNl _=>True
 | .R5 x=>(J x).ok=true/\match(J x).d with| .nilf=>True| .fn n _=>n<2000000|_=>False
 | .Gd x=>(J x).ok=true/\match(J x).d with
  | .it l=>match look m l with
   |some (.iter _ _)=>True
   |_=>False
  |_=>False
@[go_sem] def Src.R6:Src->Bool
 | .s _=>true
 |_=>false
@[go_sem] def aV.F9 (draw:Bool)(J:Src->ch):aV->Prop
 | .len x=>bif draw&& !x.R6 then True else(J x).ok=true->match(J x).d with
  | .sl _ es=>es.length<=9223372036854775807
  | .own _ _ _ n=>n<=9223372036854775807
  |_=>True
 | .lenS x=>bif draw&& !x.R6 then True else(J x).ok=true->match(J x).d with
  | .str s=>s.length<=9223372036854775807
  |_=>True
 |_=>True
@[go_sem] def aV.c8 (Y:Ctx)(J:Src->ch)(m:List (Nat×bX))(L:Nat):aV->List (Nat×bX)
 | .box k x=>dH m L (.buf k [(J x).d])
 | .bsl k z n ps=>dH m L (.buf k (nI J (List.replicate n z) ps))
 | .mks k z ln _=>dH m L (.buf k (List.replicate (J ln).d.nat z))
 | .s2b x=>match(J x).d with
  | .str s=>dH m L (.buf 1 (s.map fun b=>.int .u8 b.toNat))
  |_=>m
 | .st n p v=>match(J p).d with
  | .ptr l k i o=>dH m l (.buf k ((bD m l).set i (v7 ((bD m l).getD i .any) k n o (J v).d)))
  |_=>m
 | .app k x y=>match(J x).d with
  | .own l k' i n=>dH (cJ m l) L (.buf k ((((bD m l).drop i).take n)++rl m (J y).d))
  |_=>dH m L (.buf k (rl m (J y).d))
 | .appN k y=>dH m L (.buf k (rl m (J y).d))
 | .callF f r args sh=>match(J r).d with
  | .ptr l k _ _=>dH m l (.buf k [Y.fs f ((bD m l).getD 0 .any) (jm [] sh (jo J args))])
  |_=>m
 | .yu x=>match(J x).d with
  | .str s=>dH m L (.iter s 0)
  |_=>m
 | .mkB=>dH m L (.bld none 0 false)
 | .Gd x=>match(J x).d with
  | .it l=>match look m l with
   |some (.iter s pos)=>bif decide (pos<s.length)then dH m l (.iter s (pos+(wF s pos).2))else m
   |_=>m
  |_=>m
 |_=>m
@[go_sem] def dx:D->List Nat
 | .ptr l _ _ _=>[l]
 | .own l _ _ _=>[l]
 | .it l=>[l]
 |_=>[]
@[go_sem] def aV.nX (J:Src->ch):aV->Option (List Nat)
 | .ld _ _ p=>some (dx (J p).d)
 | .ldU _ _ p=>some (dx (J p).d)
 | .st _ p _=>some (dx (J p).d)
 | .b2s x=>some (dx (J x).d)
 | .app _ x y=>some (dx (J x).d++dx (J y).d)
 | .Gd x=>some (dx (J x).d)
 | .call _ args _=>bif bH (jo J args)then some []else none
 | .callv f args _=>match(J f).d with
  | .fn _ caps=>bif bH (jo J args++caps)then some []else none
  |_=>none
 | .callM _ _=>none
 | .callvM _ _=>none
 | .isNl _=>none
 | .callF _ r _ _=>some (dx (J r).d)
 | .appN _ y=>some (dx (J y).d)
 |_=>some []
@[go_sem] def aV.wr (J:Src->ch)(L:Nat):aV->List Nat
 | .box .. =>[L]
 | .bsl .. =>[L]
 | .mks .. =>[L]
 | .s2b _=>[L]
 | .yu _=>[L]
 | .mkB=>[L]
 | .st _ p _=>dx (J p).d
 | .app _ x _=>L::dx (J x).d
 | .Gd x=>dx (J x).d
 | .callF _ r _ _=>dx (J r).d
 | .appN .. =>[L]
 |_=>[]
@[go_sem] def aV.calm:aV->Bool
 | .st .. =>false
 | .app .. =>false
 | .Gd .. =>false
 | .callM .. =>false
 | .callvM .. =>false
 | .isNl _=>false
 | .callF .. =>false
 |_=>true
@[go_sem] def flag (vs:List ch):Option (Nat×Bool)->Bool
 |none=>true
 |some (j,w)=>(vs.getD j .un).ok&&match(vs.getD j .un).d with
  | .bool b=>b==w
  |_=>false
@[go_sem] def W8 (vs:List ch)(i:aV):Option (Nat×Bool)->Prop
 |none=>True
 |some (j,_)=>i.calm=true/\((vs.getD j .un).ok=true->(vs.getD j .un).d.isBool=true)
@[go_sem] def aV.rR (draw:Bool)(g:Option (Nat×Bool))(i:aV):Bool:=!draw&&(!i.calm&&g.isSome)
@[go_sem] def wT (vs:List ch):Option (Nat×Bool)->Prop
 |none=>True
 |some (j,_)=>(vs.getD j .un).ok=true->(vs.getD j .un).d.isBool=true
@[go_sem] def nlB (d:D)(b:Bool):Prop:=match d with
 | .bq=>b=true
 | .sl _ es=>b=true->es=[]
 | .own _ _ _ n=>b=true->n=0
 |_=>True
@[go_sem] def slB:D->Prop
 | .bq=>True
 | .sl .. =>True
 | .own .. =>True
 |_=>False
@[go_sem] def Cy (n:Nat):Nat:=if n<1000000 then n else n-1000000
@[go_sem] def Ay (n:Nat)(apT caps:List D):List D:=if n<1000000 then apT++caps else caps++apT
def gS (Y:Ctx)(draw:Bool):List GI->(env vs:List ch)->St->(List ch->St->Prop)->Prop
 |[],_,vs,st,K=>K vs {st with nx:=st.nx+vs.length}
 |⟨.callM f args,g⟩::r,env,vs,st,K=>
  wT vs g/\(flag vs g=true->xo (Src.ev env vs) args/\
   Y.tr f (jo (Src.ev env vs) args) {st with nx:=st.nx+vs.length} fun d st'=>st.nx+vs.length<=st'.nx/\gS Y draw r env (vs++[⟨true,d⟩]) {st' with nx:=st'.nx-vs.length} K)/\
   (flag vs g=false->gS Y draw r env (vs++[⟨false,.any⟩]) st K)
 |⟨.callvM f args,g⟩::r,env,vs,st,K=>
  wT vs g/\(flag vs g=true->(Src.ev env vs f).ok=true/\xo (Src.ev env vs) args/\match(Src.ev env vs f).d with
   | .fn n caps=>n<2000000/\Y.tr (Cy n) (Ay n (jo (Src.ev env vs) args) caps) {st with nx:=st.nx+vs.length} fun d st'=>st.nx+vs.length<=st'.nx/\gS Y draw r env (vs++[⟨true,d⟩]) {st' with nx:=st'.nx-vs.length} K
   |_=>False)/\
   (flag vs g=false->gS Y draw r env (vs++[⟨false,.any⟩]) st K)
 |⟨.isNl x,g⟩::r,env,vs,st,K=>g=none/\(Src.ev env vs x).ok=true/\slB (Src.ev env vs x).d/\∀b,nlB (Src.ev env vs x).d b->gS Y draw r env (vs++[⟨true,.bool b⟩]) st K
 |⟨i,g⟩::r,env,vs,st,K=>
  if i.rR draw g=true then
   wT vs g/\(flag vs g=true->i.eA Y (Src.ev env vs) st.m/\
     gS Y draw r env (vs++[⟨true,i.val Y (Src.ev env vs) st.m (st.nx+vs.length)⟩]) {st with m:=i.c8 Y (Src.ev env vs) st.m (st.nx+vs.length)} K)/\
    (flag vs g=false->gS Y draw r env (vs++[⟨false,.any⟩]) st K)
  else
  W8 vs i g/\(flag vs g=true->i.eA Y (Src.ev env vs) st.m)/\
   ((flag vs g=true->i.F9 draw (Src.ev env vs))->∃d,(flag vs g=true->i.val Y (Src.ev env vs) st.m (st.nx+vs.length)=d)/\
     gS Y draw r env (vs++[⟨flag vs g,d⟩]) {st with m:=i.c8 Y (Src.ev env vs) st.m (st.nx+vs.length)} K)
mutual
@[go_sem] def iL (l k:Nat)(es:List D):D->D
 | .own l' k' i n=>if l'=l/\k'=k/\i+n<=es.length then .sl k ((es.drop i).take n)else .own l' k' i n
 | .ptr l' k' i o=>if l'=l/\k'=k then .ref k es i o else .ptr l' k' i o
 | .agg cs=>.agg (iV l k es cs)
 | .tup cs=>.tup (iV l k es cs)
 | .fn f cs=>.fn f (iV l k es cs)
 | .any=>.any
 | .bool b=>.bool b
 | .int k n=>.int k n
 | .str s=>.str s
 | .bq=>.bq
 | .sl k es=>.sl k es
 | .ref k es i o=>.ref k es i o
 | .nilp=>.nilp
 | .nilf=>.nilf
 | .it l=>.it l
@[go_sem] def iV (l k:Nat)(es:List D):List D->List D
 |[]=>[]
 |d::r=>iL l k es d::iV l k es r
end
@[go_sem] def nk (l k:Nat)(es:List D):bX->bX
 | .buf k' es'=>.buf k' (iV l k es es')
 |b=>b
@[go_sem] def lQ (l k:Nat)(es:List D):List (Nat×bX)->List (Nat×bX)
 |[]=>[]
 |(a,b)::r=>(a,nk l k es b)::lQ l k es r
@[go_sem] def lf (l k:Nat)(es:List D):List ch->List ch
 |[]=>[]
 |⟨ok,d⟩::r=>⟨ok,iL l k es d⟩::lf l k es r
@[go_sem] def QF (l:Nat)(s:List ch×List (Nat×bX)):List ch×List (Nat×bX):=match look s.2 l with
 |some (.buf k es)=>bif bH es then(lf l k es s.1,lQ l k es (cJ s.2 l))else s
 |_=>s
@[go_sem] def frzs:List Nat->List ch×List (Nat×bX)->List ch×List (Nat×bX)
 |[],s=>s
 |l::r,s=>frzs r (QF l s)
inductive Ex where
 |normal|exit (id:Nat)|ret
@[go_sem] def ja (env vs:List ch):List (Nat×Nat)->List ch
 |[]=>env
 |(s,p)::r=>ja (env.set s (vs.getD p .un)) vs r
@[go_sem] def lU (lo:Nat)(σ:List (Nat×Nat))(l:Nat):Option Nat:=match σ with
 |[]=>bif Nat.blt l lo then some l else none
 |(a,b)::r=>bif Nat.beq a l then some b else lU lo r l
@[go_sem] def CR (lo:Nat)(σ:List (Nat×Nat))(l:Nat)(f:Nat->D):Option D:=match lU lo σ l with
 |some l'=>some (f l')
 |none=>none
mutual
@[go_sem] def ra (lo:Nat)(σ:List (Nat×Nat)):D->Option D
 | .own l k i n=>CR lo σ l fun l=>.own l k i n
 | .ptr l k i o=>CR lo σ l fun l=>.ptr l k i o
 | .it l=>CR lo σ l fun l=>.it l
 | .agg cs=>match oO lo σ cs with
  |some cs=>some (.agg cs)
  |none=>none
 | .tup cs=>match oO lo σ cs with
  |some cs=>some (.tup cs)
  |none=>none
 | .fn f cs=>match oO lo σ cs with
  |some cs=>some (.fn f cs)
  |none=>none
 | .any=>some .any
 | .bool b=>some (.bool b)
 | .int k n=>some (.int k n)
 | .str s=>some (.str s)
 | .bq=>some .bq
 | .sl k es=>some (.sl k es)
 | .ref k es i o=>some (.ref k es i o)
 | .nilp=>some .nilp
 | .nilf=>some .nilf
@[go_sem] def oO (lo:Nat)(σ:List (Nat×Nat)):List D->Option (List D)
 |[]=>some []
 |d::r=>match ra lo σ d,oO lo σ r with
  |some d,some r=>some (d::r)
  |_,_=>none
end
mutual
def vi:D->D->Prop
 | .bq,d'=>d'=.bq\/∃l k i,d'=.own l k i 0
 | .agg a,d'=>∃b,d'=.agg b/\EA a b
 |d,d'=>d'=d/\d.bJ=true
def EA:List D->List D->Prop
 |[],b=>b=[]
 |d::r,b=>∃d' r',b=d'::r'/\vi d d'/\EA r r'
end
def Us (lo:Nat)(σ:List (Nat×Nat))(d d':D):Prop:=d'=d/\d.bJ=true\/ra lo σ d=some d'\/vi d d'
def sS (lo:Nat)(σ:List (Nat×Nat)):bX->bX->Prop
 | .buf k es,.buf k' es'=>k'=k/\(es'=es/\bH es=true\/oO lo σ es=some es'\/EA es es')
 | .iter s p,.iter s' p'=>s'=s/\p'=p
 | .row s,.row s'=>s'=s
 | .bld o n u,.bld o' n' u'=>(match o with
  |none=>o'=none
  |some l=>∃l',lU lo σ l=some l'/\o'=some l')/\n'=n/\u'=u
 |_,_=>False
def dr (lo:Nat)(σ:List (Nat×Nat)):List ch->List ch->Prop
 |[],[]=>True
 |a::r,b::s=>(b.ok=a.ok/\Us lo σ a.d b.d\/b=.un)/\dr lo σ r s
 |_,_=>False
def bo (lo c:Nat)(σ:List (Nat×Nat))(m:List (Nat×bX)):List (Nat×bX)->Prop
 |[]=>True
 |(l',b')::r=>((∃l b,lU lo σ l=some l'/\look m l=some b/\sS lo σ b b')\/(Nat.ble lo l'=true/\Nat.blt l' c=true/\σ.all (fun p=>!Nat.beq p.2 l')=true/\∃k,b'=.buf k []))/\bo lo c σ m r
def gT (lo c:Nat):List (Nat×Nat)->Bool
 |[]=>Nat.ble lo c
 |(a,b)::r=>(Nat.ble lo b&&(Nat.blt b c&&(r.all (fun p=>!Nat.beq p.1 a&& !Nat.beq p.2 b)&&gT lo c r)))
@[go_sem] def Zf:List ch->List ch->Prop
 |[],[]=>True
 |a::r,b::s=>(b=a\/b=.un)/\Zf r s
 |_,_=>False
@[go_sem] def TV (m:List (Nat×bX)):List (Nat×bX)->Prop
 |[]=>True
 |(l,b)::r=>look m l=some b/\TV m r
inductive yX:D->D->Prop
 |refl (d:D):yX d d
 |nil (k:Nat):yX .bq (.sl k [])
 |agg (a b:List D) (hl:b.length=a.length) (h:∀i,yX (a.getD i .any) (b.getD i .any)):yX (.agg a) (.agg b)
 |sl (k:Nat) (a b:List D) (hl:b.length=a.length) (h:∀i,yX (a.getD i .any) (b.getD i .any)):yX (.sl k a) (.sl k b)
def I5 (a b:List D):Prop:=b.length=a.length/\∀i,yX (a.getD i .any) (b.getD i .any)
def Z6:bX->bX->Prop
 | .buf k es,.buf k' es'=>k'=k/\I5 es es'
 |b,b'=>b'=b
def WZ:List ch->List ch->Prop
 |[],[]=>True
 |a::r,b::s=>(b.ok=a.ok/\yX a.d b.d)/\WZ r s
 |_,_=>False
def Oi (m:List (Nat×bX)):List (Nat×bX)->Prop
 |[]=>True
 |(l,b')::r=>(∃b,look m l=some b/\Z6 b b')/\Oi m r
inductive a7 (lo:Nat):List ch->St->List ch->St->Prop
 |refl (env:List ch) (st:St):a7 lo env st env st
 |QF (l:Nat) (env:List ch) (st:St):a7 lo env st (QF l (env,st.m)).1 ⟨st.nx,(QF l (env,st.m)).2⟩
 |ren (σ:List (Nat×Nat)) (c:Nat) (env env':List ch) (nx:Nat) (m m':List (Nat×bX)) (h:gT lo c σ=true) (he:dr lo σ env env') (hm:bo lo c σ m m'):a7 lo env ⟨nx,m⟩ env' ⟨c,m'⟩
 |wk (env env':List ch) (nx:Nat) (m m':List (Nat×bX)) (he:Zf env env') (hm:TV m m'):a7 lo env ⟨nx,m⟩ env' ⟨nx,m'⟩
 |nz (env env':List ch) (nx:Nat) (m m':List (Nat×bX)) (he:WZ env env') (hm:Oi m m'):a7 lo env ⟨nx,m⟩ env' ⟨nx,m'⟩
 |trans (env1 env2 env3:List ch) (st1 st2 st3:St) (h:a7 lo env1 st1 env2 st2) (h':a7 lo env2 st2 env3 st3):a7 lo env1 st1 env3 st3
def Gh (lo:Nat)(p:List ch->St->Prop)(env:List ch)(st:St):Prop:=∃env' st',a7 lo env st env' st'/\p env' st'
def bK (Y:Ctx):AC->(Ex->List ch->St->Prop)->List ch->St->Prop
 | .reg draw ins cm,Q=>Gh Y.lo fun env st=>gS Y draw ins env [] st fun vs st'=>Q .normal (ja env vs cm) st'
 | .seq a b,Q=>Gh Y.lo (bK Y a (fun e env st=>match e with
   | .normal=>bK Y b Q env st
   |e=>Q e env st))
 | .cond c a b,Q=>Gh Y.lo fun env st=>(c.ev env []).ok=true/\match(c.ev env []).d with
  | .bool t=>(t=true->bK Y a Q env st)/\(t=false->bK Y b Q env st)
  |_=>False
 | .block id a,Q=>Gh Y.lo (bK Y a (fun e env st=>match e with
   | .exit j=>if j=id then Q .normal env st else Q (.exit j) env st
   |e=>Q e env st))
 | .loop a,Q=>Gh Y.lo fun env st=>∃(I:List ch->St->Prop) (μ:List ch->St->Nat),
   I env st/\∀env st,I env st->
   bK Y a (fun e env' st'=>match e with
    | .normal=>∃env2 st2,a7 Y.lo env' st' env2 st2/\I env2 st2/\μ env2 st2<μ env st
    |e=>Q e env' st') env st
 | .exit id,Q=>Gh Y.lo (Q (.exit id))
 | .ret,Q=>Gh Y.lo (Q .ret)
 | .skip,Q=>Gh Y.lo (Q .normal)
def Ctx.at (Y:Ctx)(n:Nat):Ctx:={Y with lo:=n}
@[go_sem] def H9 (m:List (Nat×bX))(env:List ch)(r:N3):D:=match r.mem with
 |none=>(env.getD r.s .un).d
 |some (n,ag)=>Dx m n ag (env.getD r.s .un).d
@[go_sem] def rr (m:List (Nat×bX))(env:List ch):List N3->Prop
 |[]=>True
 |r::rs=>(env.getD r.s .un).ok=true/\(match r.mem with
   |none=>True
   |some (n,_)=>Hh m n (env.getD r.s .un).d)/\rr m env rs
@[go_sem] def ru (m:List (Nat×bX))(env:List ch):List N3->List D
 |[]=>[]
 |r::rs=>H9 m env r::ru m env rs
@[go_sem] def mE (a:aC)(env:List ch)(st:St):D:=match a.res with
 |[r]=>H9 st.m env r
 |rs=>.tup (ru st.m env rs)
@[go_sem] def Wg (a:aC)(env:List ch)(st:St):D:=match a.res with
 |[r]=>kR st.m (a.rsh.getD 0 []) (H9 st.m env r)
 |rs=>.tup (jm st.m a.rsh (ru st.m env rs))
@[go_sem] def Mh (a:aC)(env:List ch)(st:St):Prop:=match a.res with
 |[r]=>jy st.m (a.rsh.getD 0 []) (H9 st.m env r)
 |rs=>kI st.m a.rsh (ru st.m env rs)
@[go_sem] def Ex.home:Ex->Prop
 | .exit _=>False
 |_=>True
@[go_sem] def fF (a:aC)(ds:List D):List ch:=(ds.map fun d=>⟨true,d⟩)++List.replicate (a.ns-a.np) .un
mutual
def gh:Value->Option D
 | .bool b=>some (.bool b)
 | .int k n=>some (.int k n)
 | .string s=>if s.size<=9223372036854775807 then some (.str s.data.toList)else none
 | .pointer none=>some .nilp
 | .slice none 0 0=>some .bq
 | .nilFunc=>some .nilf
 | .agg ⟨cs⟩=>if vz cs then(ta cs).map .agg else none
 |_=>none
def ta:List Value->Option (List D)
 |[]=>some []
 |v::r=>match gh v,ta r with
  |some d,some ds=>some (d::ds)
  |_,_=>none
def vz:List Value->Bool
 |[]=>true
 |v::r=>(match v with
  | .agg _=>false
  | .tuple _=>false
  |_=>true)&&vz r
end
def Ih (P:Program):Nat->TypeId->List Sh
 |0,_=>[.a]
 |d+1,t=>match P.underlying t with
  |some (.struct fs)=>(fs.toList.map fun f=>Ih P d f.type).flatten
  |some (.array n e)=>(List.replicate n (Ih P d e)).flatten
  |some (.slice e)=>[.sl (P.cellsOf e) (Ih P d e)]
  |some (.pointer e)=>[.pt (Ih P d e)]
  |_=>[.a]
structure CC where
 P:Program
 ν:List (Nat×Nat)
 c8:List Nat
 slots:List Nat
 ntmps:Nat
 vm:Bool
def yK:List Nat->Nat->Option Nat
 |[],_=>none
 |a::r,t=>if a=t then some 0 else(yK r t).map (· +1)
def eX:List (Nat×Nat)->Nat->Option Nat
 |[],_=>none
 |(a,b)::r,l=>if a=l then some b else eX r l
def posOf (t:Nat):List (Option Nat)->Option Nat
 |[]=>none
 |a::r=>if a=some t then some 0 else(posOf t r).map (· +1)
def CC.src (C:CC)(defs:List (Option Nat)):Operand->Option Src
 | .tmp t=>match posOf t defs with
  |some p=>some (.l p)
  |none=>(yK C.slots t).map .s
 | .const v=>(gh v).map .c
 | .func f=>(eX C.ν f).map fun n=>.c (.fn n [])
 | .global _=>none
def CC.uY (C:CC)(defs:List (Option Nat)):List Operand->Option (List Src)
 |[]=>some []
 |x::r=>match C.src defs x,C.uY defs r with
  |some a,some l=>some (a::l)
  |_,_=>none
def CC.opt (C:CC)(defs:List (Option Nat)):Option Operand->Option (Option Src)
 |none=>some none
 |some x=>(C.src defs x).map some
def cH (P:Program)(t:TypeId):Bool:=match P.underlying t with
 |some (.struct _)=>true
 |some (.array ..)=>true
 |_=>false
def mZ (P:Program)(k:TypeId->Option (List CK)):Nat->List Field->Option (List CK)
 |_,[]=>some []
 |off,f::r=>if f.name= "_" \/f.offset≠off then none else
  match k f.type,mZ P k (off+P.cellsOf f.type) r with
  |some a,some b=>if a.length=P.cellsOf f.type/\a.length≠0/\(P.underlying f.type).isNone=false then some (a++b)else none
  |_,_=>none
def hY (P:Program):Nat->TypeId->Option (List CK)
 |0,_=>none
 |d+1,t=>match P.underlying t with
  |some .bool=>some [.b]
  |some (.int k)=>some [.i k]
  |some .string=>some [.s]
  |some (.struct fs)=>if P.stoodInHeld t then none else mZ P (fun t=>hY P d t) 0 fs.toList
  |some (.array n e)=>match hY P d e with
   |some l=>if l.length=P.cellsOf e/\l.length≠0/\(P.underlying e).isNone=false then some (List.replicate n l).flatten else none
   |none=>none
  |_=>none
def CC.parts (C:CC)(defs:List (Option Nat))(place:Nat->Option (Nat×Nat)):List (Nat×Operand)->Option (List (Nat×Nat×Src))
 |[]=>some []
 |(i,x)::r=>match place i,C.src defs x,C.parts defs place r with
  |some (o,n),some s,some l=>if n=0 then none else some ((o,n,s)::l)
  |_,_,_=>none
def CC.xq (C:CC)(defs:List (Option Nat)):List (Nat×Operand)->Option (List (Nat×Src))
 |[]=>some []
 |(i,x)::r=>match C.src defs x,C.xq defs r with
  |some s,some l=>some ((i,s)::l)
  |_,_=>none
def sP (P:Program)(t:TypeId):Option D:=((P.info? t).bind (·.zero)).bind gh
def qo (P:Program)(t:TypeId):Bool:=match sP P t with
 |some z=>z.cells.length==P.cellsOf t
 |none=>false
def CC.op (C:CC)(defs:List (Option Nat))(o:Oper):Option aV:=
 match o.op with
 | .move x=>(C.src defs x).map .mv
 | .assign x=>(C.src defs x).map .mv
 | .pick c a b=>match C.src defs c,C.src defs a,C.src defs b with
  |some c,some a,some b=>some (.pick c a b)
  |_,_,_=>none
 | .alloc t=>match sP C.P t with
  |some z=>if C.P.cellsOf t=0 then none else if C.c8.contains (1000000000+t)then(match z with
   | .agg [.nilp,.bq]=>some .mkB
   |_=>none)else some (.box (C.P.cellsOf t) (.c z))
  |none=>none
 | .box t x=>match C.src defs x with
  |some s=>if C.P.cellsOf t=0 then none else some (.box (C.P.cellsOf t) s)
  |none=>none
 | .build t ps=>match sP C.P t,C.P.underlying t with
  |some (.agg z),some (.struct fs)=>if fs.toList.all (fun f=>(C.P.info? f.type).isSome)then(C.parts defs (fun i=>(fs[i]?).map fun f=>(f.offset,C.P.cellsOf f.type)) ps.toList).map (.build z)else none
  |some (.agg z),some (.array _ e)=>if C.P.cellsOf e=0 then none else(C.parts defs (fun i=>some (i*C.P.cellsOf e,C.P.cellsOf e)) ps.toList).map (.build z)
  |_,_=>none
 | .buildSlice t n ps=>match C.P.underlying t with
  |some (.slice e)=>match sP C.P e,C.xq defs ps.toList with
   |some z,some l=>if C.P.cellsOf e=0\/n*C.P.cellsOf e>16777216 then none else some (.bsl (C.P.cellsOf e) z n l)
   |_,_=>none
  |_=>none
 | .load t a=>match C.src defs a with
  |some s=>if C.P.cellsOf t=0\/(C.P.underlying t).isNone\/(cH C.P t=false/\C.P.cellsOf t≠1)then none else some (.ld (C.P.cellsOf t) (cH C.P t) s)
  |none=>none
 | .store t a x=>match C.src defs a,C.src defs x with
  |some a,some x=>if C.P.cellsOf t=0 then none else some (.st (C.P.cellsOf t) a x)
  |_,_=>none
 | .nilCheck x=>(C.src defs x).map .nilck
 | .binOp op t x y _=>match C.src defs x,C.src defs y with
  |some a,some b=>match C.P.underlying t with
   |some (.int _)=>some (.bin op a b)
   |some .string=>some (.bin op a b)
   |_=>if C.P.eqGuardType C.P.depth t then none else match hY C.P 30 t,op with
    |some ks,.eql=>some (.eqA false (cH C.P t) ks a b)
    |some ks,.neq=>some (.eqA true (cH C.P t) ks a b)
    |none,.eql=>match C.P.underlying t,b with
     |some (.func ..),.c .nilf=>some (.R5 a)
     |some (.slice _),.c .bq=>some (.isNl a)
     |_,_=>none
    |_,_=>none
  |_,_=>none
 | .unOp op _ x=>(C.src defs x).map (.un op)
 | .convert s d x=>match C.P.underlying s,C.P.underlying d,C.src defs x with
  |some (.int _),some (.int k),some a=>some (.cvi k a)
  |some (.int _),some .string,some a=>some (.i2s a)
  |some .string,some (.slice e),some a=>match C.P.underlying e with
   |some (.int .u8)=>some (.s2b a)
   |_=>none
  |some (.slice e),some .string,some a=>match C.P.underlying e with
   |some (.int .u8)=>some (.b2s a)
   |_=>none
  |_,_,_=>none
 | .makeFunc (.func f) first caps=>match eX C.ν f,C.uY defs caps.toList with
  |some n,some l=>if first.isEmpty then some (.mkf n l)else if l.isEmpty then(C.uY defs first.toList).map (.mkf (n+1000000))else none
  |_,_=>none
 | .makeSlice t l c=>match C.P.underlying t with
  |some (.slice e)=>match sP C.P e,C.src defs l,C.src defs c with
   |some z,some l,some c=>if C.P.cellsOf e=0\/C.P.bytesOf e>65536 then none else some (.mks (C.P.cellsOf e) z l c)
   |_,_,_=>none
  |_=>none
 | .slice t x lo hi mx=>match C.P.underlying t,C.src defs x,C.opt defs lo,C.opt defs hi,mx with
  |some .string,some a,some l,some h,none=>some (.slS a l h)
  |some (.slice e),some a,some l,some h,none=>if C.P.cellsOf e=0 then none else some (.slA (C.P.cellsOf e) a l h)
  |some (.slice e),some a,some none,some (some h),some m=>match C.src defs m with
   |some m=>if C.P.cellsOf e=0 then none else some (.slX (C.P.cellsOf e) a h m)
   |none=>none
  |_,_,_,_,_=>none
 | .fieldAddr t x f=>match C.P.underlying t,C.src defs x with
  |some (.struct fs),some a=>match fs[f]? with
   |some f=>if C.P.cellsOf f.type=0 then none else some (.fa f.offset a)
   |none=>none
  |_,_=>none
 | .field t x f=>match C.P.underlying t,C.src defs x with
  |some (.struct fs),some a=>match fs[f]? with
   |some f=>if C.P.cellsOf f.type=0\/(C.P.underlying f.type).isNone then none else some (.fld f.offset (C.P.cellsOf f.type) (cH C.P f.type) a)
   |none=>none
  |_,_=>none
 | .indexAddr t x i=>match C.P.underlying t,C.src defs x,C.src defs i with
  |some (.slice e),some a,some b=>if C.P.cellsOf e=0 then none else some (.ia (C.P.cellsOf e) a b)
  |some (.array n e),some a,some b=>if C.P.cellsOf e=0 then none else some (.iaP n (C.P.cellsOf e) a b)
  |_,_,_=>none
 | .index t x i=>match C.P.underlying t,C.src defs x,C.src defs i with
  |some .string,some a,some b=>some (.ixS a b)
  |some (.array n e),some a,some b=>if C.P.cellsOf e=0\/(C.P.underlying e).isNone then none else some (.ixA n (C.P.cellsOf e) (cH C.P e) a b)
  |_,_,_=>none
 | .lookup t x y false=>match C.src defs x,C.src defs y,C.P.underlying t with
  |some a,some b,some (.map k e)=>match C.P.underlying k,sP C.P e with
   |some .string,some .nilf=>some (.lkp a b)
   |_,_=>none
  |_,_,_=>none
 | .range t x=>match C.P.underlying t,C.src defs x with
  |some .string,some a=>some (.yu a)
  |_,_=>none
 | .next it true=>(C.src defs it).map .Gd
 | .extract t i=>(C.src defs t).map fun s=>.ext s i
 | .call c=>match c.callee with
  | .builtin .len=>match c.args.toList,c.argTypes.toList with
   |[x],[t]=>match C.src defs x,C.P.underlying t with
    |some a,some .string=>some (.lenS a)
    |some a,some (.slice _)=>some (.len a)
    |_,_=>none
   |_,_=>none
  | .builtin .min=>match c.args.toList with
   |[x,y]=>match C.src defs x,C.src defs y with
    |some a,some b=>some (.mn a b)
    |_,_=>none
   |_=>none
  | .builtin .append=>match c.args.toList,c.argTypes.toList with
   |[x,y],[t,u]=>match C.src defs x,C.src defs y,C.P.underlying t,C.P.underlying u with
    |some a,some b,some (.slice e),some (.slice _)=>if C.P.cellsOf e=0\/C.P.bytesOf e>65536\/C.P.bytesOf e=0\/qo C.P e=false then none else some (.app (C.P.cellsOf e) a b)
    |some a,some b,some (.slice e),some .string=>if C.P.cellsOf e=0\/C.P.bytesOf e>65536\/C.P.bytesOf e=0\/qo C.P e=false then none else some (.app (C.P.cellsOf e) a b)
    |_,_,_,_=>none
   |_,_=>none
  | .value (.func f)=>match eX C.ν f,C.uY defs c.args.toList with
   |some n,some l=>if C.c8.contains (2*n)then some (.callM n l)else if C.c8.contains (2*n+1)then(match l with
     |r::rest=>some (.callF n r rest ((c.argTypes.toList.map (Ih C.P 8)).drop 1))
     |[]=>none)else some (.call n l (c.argTypes.toList.map (Ih C.P 8)))
   |_,_=>none
  | .value (.tmp t)=>match C.src defs (.tmp t),C.uY defs c.args.toList with
   |some s,some l=>if C.vm then some (.callvM s l)else some (.callv s l (c.argTypes.toList.map (Ih C.P 8)))
   |_,_=>none
  |_=>none
 |_=>none
def CC.guard (defs:List (Option Nat)):Option (Nat×Bool)->Option (Option (Nat×Bool))
 |none=>some none
 |some (j,w)=>match defs[j]? with
  |some (some _)=>some (some (j,w))
  |_=>none
def CC.ops (C:CC):(defs:List (Option Nat))->List Oper->Option (List GI)
 |_,[]=>some []
 |defs,o::r=>match C.op defs o,CC.guard defs o.guard,C.ops (defs++[o.dst]) r with
  |some i,some g,some l=>if o.dst.all (fun d=>d<C.ntmps&& !defs.contains (some d))then some (⟨i,g⟩::l)else none
  |_,_,_=>none
def CC.iC (C:CC):Nat->List Oper->List (Nat×Nat)
 |_,[]=>[]
 |p,o::r=>match o.dst.bind (yK C.slots)with
  |some s=>(s,p)::C.iC (p+1) r
  |none=>C.iC (p+1) r
def qX (acc:List Nat):List Edge->Nat
 |[]=>0
 |e::r=>if Region.binds .any e then(2^e.on |||acc.getD e.on 0) |||qX acc r else qX acc r
def pM:List Nat->List Oper->List Nat
 |acc,[]=>acc
 |acc,o::r=>pM (acc++[qX acc o.after.toList]) r
def tmpsOf (ops:List Oper)(o:Oper):List Nat:=
 (o.op.operands.toList.filterMap fun
   | .tmp t=>some t
   |_=>none)++(match o.guard with
   |some (g,_)=>((ops[g]?).bind (·.dst)).toList
   |none=>[])
def Mg (ops:List Oper)(bs:List Nat):Bool:=
 (List.range ops.length).all fun j=>(List.range ops.length).all fun p=>match ops[j]?,ops[p]? with
   |some oj,some op=>match op.dst with
    |some t=>p==j ||!(tmpsOf ops oj).contains t ||(bs.getD (max j p) 0).testBit (min j p)
    |none=>true
   |_,_=>false
def aV.pure:aV->Bool
 | .mv _=>true
 | .pick .. =>true
 | .build .. =>true
 | .nilck _=>true
 | .bin .. =>true
 | .eqA .. =>true
 | .un .. =>true
 | .cvi .. =>true
 | .mn .. =>true
 | .i2s _=>true
 | .mkf .. =>true
 | .slS .. =>true
 | .slA .. =>true
 | .slX .. =>true
 | .fa .. =>true
 | .fld .. =>true
 | .ia .. =>true
 | .iaP .. =>true
 | .ixS .. =>true
 | .ixA .. =>true
 | .ext .. =>true
 | .len _=>true
 | .lenS _=>true
 | .ldI .. =>true
 | .bslI .. =>true
 | .lkp .. =>true
 | .R5 _=>true
 |_=>false
def Sh.isA:Sh->Bool
 | .a=>true
 |_=>false
def aV.free:aV->Bool
 | .call _ _ sh=>sh.all fun s=>s.all Sh.isA
 |i=>i.pure
def aV.kG:aV->Bool
 | .box .. =>true
 | .bsl .. =>true
 | .mks .. =>true
 | .s2b .. =>true
 | .yu .. =>true
 | .mkB=>true
 |_=>false
def aV.isApp:aV->Bool
 | .app .. =>true
 |_=>false
def aV.nS:aV->Bool
 | .callF .. =>true
 |_=>false
def aV.vR:aV->Bool
 | .ldU .. =>true
 |_=>false
def exU (l:List GI)(gj gi:aV)(j i:Nat):Bool:=gj.nS&&(gi.vR&&(decide (i<j)&&(List.range j).all fun q=>decide (q<=i) ||match l[q]? with
 |some g=>g.i.calm ||g.i.nS
 |none=>true))
def W4 (l:List GI)(bs:List Nat):Bool:=
 (List.range l.length).all fun j=>(List.range l.length).all fun i=>match l[j]?,l[i]? with
   |some gj,some gi=>gj.i.calm ||gi.i.free ||(gi.i.kG&& !gj.i.isApp) ||i==j ||(bs.getD (max j i) 0).testBit (min j i) ||exU l gj.i gi.i j i
   |_,_=>false
def aV.dD:aV->Bool
 | .callM .. =>true
 | .callvM .. =>true
 | .isNl _=>true
 |_=>false
def za:Nat->List Oper->Bool
 |_,[]=>true
 |p,o::r=>o.after.toList.all (fun e=>!Region.binds .any e ||decide (e.on<p))&&za (p+1) r
def Wp:GI->Bool
 |⟨.mv _,none⟩=>true
 |⟨.un ..,_⟩=>true
 |⟨.pick ..,none⟩=>true
 |_=>false
def Mm:List GI->Bool
 |⟨.callM ..,_⟩::r=>r.all Wp
 |⟨.callvM ..,_⟩::r=>r.all Wp
 |_=>false
def LG (l:List GI)(bs:List Nat):Bool:=
 let n:=l.findIdx fun g=>g.i.dD
 Mm (l.drop n)&&((l.take n).all (fun g=>!g.i.dD)&&(List.range (l.length-n)).all fun q=>(List.range (n+q)).all fun p=>(bs.getD (n+q) 0).testBit p)
def AG (ops:List Oper)(l:List GI):Bool:=
 let bs:=pM [] ops
 Mg ops bs&&(W4 l bs&&(((l.all fun g=>!g.i.dD) ||LG l bs)&&za 0 ops))
def aV.ZW:aV->aV
 | .app k (.c .bq) y=>.appN k y
 |i=>i
def looseAt (bs:List Nat)(l:List GI)(i:Nat):Bool:=
 (List.range l.length).any fun j=>match l[j]? with
   |some gj=>!(gj.i.ZW.calm ||i==j ||(bs.getD (max j i) 0).testBit (min j i))
   |none=>false
def Zg (bs:List Nat)(l:List GI)(i:Nat):Bool:=
 (List.range l.length).all fun j=>match l[j]? with
   |some gj=>gj.i.ZW.calm ||i==j ||(bs.getD (max j i) 0).testBit (min j i) ||(gj.i.nS&&(decide (i<j)&&(List.range j).all fun q=>decide (q<=i) ||match l[q]? with
    |some g=>g.i.ZW.calm ||g.i.nS
    |none=>true))
   |none=>true
def Y9 (bs:List Nat)(l:List GI)(p:Nat):Bool:=
 (List.range l.length).any fun j=>match l[j]? with
   |some ⟨.ia _ (.l q) _,_⟩=>Nat.beq q p&&(List.range l.length).any fun i=>match l[i]? with
    |some ⟨.ld _ _ (.l r),_⟩=>Nat.beq r j&&looseAt bs l i
    |_=>false
   |_=>false
def nu (bs:List Nat)(l0:List GI):Nat->List GI->List GI
 |_,[]=>[]
 |p,g::r=>(match g.i with
  | .ld n ag x=>if looseAt bs l0 p then(if Zg bs l0 p then⟨.ldU n ag x,g.g⟩else⟨.ldI n ag x,g.g⟩)else g
  | .bsl k z n ps=>if Y9 bs l0 p then⟨.bslI k z n ps,g.g⟩else g
  |i=>⟨i.ZW,g.g⟩)::nu bs l0 (p+1) r
def CC.code (C:CC):Code->Option AC
 | .skip=>some .skip
 | .region _ ops draw=>match C.ops [] ops.toList with
  |some l=>if draw then
    if AG ops.toList (nu (pM [] ops.toList) l 0 l)then some (.reg true (nu (pM [] ops.toList) l 0 l) (C.iC 0 ops.toList))else none
   else some (.reg false l (C.iC 0 ops.toList))
  |none=>none
 | .seq a b=>match C.code a,C.code b with
  |some a,some b=>some (.seq a b)
  |_,_=>none
 | .cond c a b=>match C.src [] c,C.code a,C.code b with
  |some c,some a,some b=>some (.cond c a b)
  |_,_,_=>none
 | .block id a=>(C.code a).map (.block id)
 | .loop a=>(C.code a).map .loop
 | .exit id=>some (.exit id)
 | .ret=>some .ret
 | .scope a=>C.code a
 | .label _=>some .skip
 |_=>none
def Mv:(defs:List (Option Nat))->List Oper->List Nat
 |_,[]=>[]
 |defs,o::r=>(o.op.operands.toList.filterMap fun
   | .tmp t=>if(posOf t defs).isNone then some t else none
   |_=>none)++Mv (defs++[o.dst]) r
def Cd:Code->List Nat
 | .region _ ops _=>Mv [] ops.toList
 | .seq a b=>Cd a++Cd b
 | .cond c a b=>(match c with
  | .tmp t=>[t]
  |_=>[])++Cd a++Cd b
 | .block _ a=>Cd a
 | .loop a=>Cd a
 | .scope a=>Cd a
 |_=>[]
def tu:List ResultVar->List Nat
 |[]=>[]
 | .tmp t::r=>t::tu r
 | .cell t _::r=>t::tu r
def dedup:List Nat->List Nat->List Nat
 |acc,[]=>acc.reverse
 |acc,a::r=>if acc.contains a then dedup acc r else dedup (a::acc) r
def vY (P:Program)(sl:List Nat):List ResultVar->Option (List N3)
 |[]=>some []
 | .tmp t::r=>match yK sl t,vY P sl r with
  |some a,some l=>some (⟨a,none⟩::l)
  |_,_=>none
 | .cell t ty::r=>match yK sl t,vY P sl r with
  |some a,some l=>if P.cellsOf ty=0\/(P.underlying ty).isNone\/(cH P ty=false/\P.cellsOf ty≠1)then none else some (⟨a,some (P.cellsOf ty,cH P ty)⟩::l)
  |_,_=>none
def slotsOf (fn:Func):List Nat:=dedup [] (List.range (fn.params.size+fn.nfree)++tu fn.results.toList++Cd (fn.body.getD .skip))
def vmOps (P:Program)(ops:List Oper):Bool:=ops.any fun o=>match o.op with
 | .makeFunc _ first _=>!first.isEmpty
 | .lookup t _ _ _=>(match P.underlying t with
  |some (.map _ e)=>(match P.underlying e with
   |some (.func ..)=>true
   |_=>false)
  |_=>false)
 | .call c=>(match c.callee with
  | .value (.tmp _)=>c.argTypes.toList.any fun t=>match P.underlying t with
   |some (.pointer _)=>true
   |_=>false
  |_=>false)
 |_=>false
def ID (P:Program):Code->Bool
 | .region _ ops _=>vmOps P ops.toList
 | .seq a b=>ID P a ||ID P b
 | .cond _ a b=>ID P a ||ID P b
 | .block _ a=>ID P a
 | .loop a=>ID P a
 | .scope a=>ID P a
 |_=>false
def Qv (P:Program)(fn:Func):Bool:=ID P (fn.body.getD .skip)
def compile (P:Program)(ν:List (Nat×Nat))(c8:List Nat)(fn:Func):Option aC:=
 match fn.body with
 |some body=>
  match CC.code {P,ν,c8,slots:=slotsOf fn,ntmps:=fn.ntmps,vm:=Qv P fn} body,vY P (slotsOf fn) fn.results.toList with
  |some a,some res=>
   if fn.params.size+fn.nfree<=fn.ntmps then some {np:=fn.params.size+fn.nfree,ns:=(slotsOf fn).length,res,rsh:=fn.resultTypes.toList.map (Ih P 8),body:=a}else none
  |_,_=>none
 |none=>none
def yl:List (Nat×Nat):=[(5,1197),(10,85),(11,251),(12,1202),(13,86),(14,87),(15,88),(16,1203),(17,478),(19,79),(20,353),(21,489),(22,72),(23,497),(24,452),(25,358),(26,73),(27,313),(28,252),(29,253),(30,254),(31,208),(32,255),(33,256),(34,76),(35,242),(36,257),(37,223),(38,258),(39,259),(40,260),(41,261),(42,262),(43,263),(44,228),(45,504),(46,74),(47,511),(50,227),(51,229),(52,230),(53,231),(54,232),(56,70),(57,215),(58,686),(59,216),(60,75),(61,580),(62,71),(63,219),(64,239),(65,244),(67,124),(68,499),(69,487),(70,222),(72,295),(73,470),(74,500),(75,77),(76,501),(77,249),(78,78),(79,479),(80,220),(81,699),(82,700),(83,701),(86,469),(89,480),(90,481),(91,482),(92,483),(94,209),(95,210),(96,211),(97,212),(98,213),(99,214),(100,450),(101,451),(102,453),(103,454),(104,221),(105,217),(106,218),(107,316),(108,461),(109,462),(110,331),(114,465),(115,466),(116,467),(117,468),(119,530),(120,531),(121,532),(122,533),(123,534),(124,688),(125,224),(126,424),(127,225),(128,226),(129,463),(130,676),(131,677),(132,678),(133,440),(134,441),(135,442),(136,443),(137,349),(138,444),(139,445),(140,446),(141,447),(142,448),(143,449),(144,664),(145,665),(146,464),(147,455),(148,456),(149,457),(150,458),(151,459),(152,460),(153,554),(159,245),(160,246),(161,675),(162,658),(164,714),(165,659),(166,516),(167,471),(168,472),(169,473),(170,474),(171,475),(172,476),(173,630),(174,631),(175,477),(176,734),(177,495),(178,496),(179,660),(180,661),(181,662),(182,663),(183,336),(184,666),(185,667),(186,668),(187,669),(188,670),(189,357),(190,572),(191,671),(192,672),(193,673),(194,674),(202,494),(203,704),(204,568),(205,783),(206,882),(207,682),(208,683),(209,684),(210,685),(211,808),(212,809),(213,810),(214,811),(216,812),(217,813),(218,814),(219,744),(220,745),(221,815),(222,816),(226,741),(227,742),(228,927),(229,819),(237,827),(238,828),(239,946),(240,947),(241,948),(242,949),(243,950),(244,951),(246,952),(247,953),(248,954),(249,896),(250,897),(251,898),(252,899),(253,900),(254,901),(255,955),(256,956),(257,957),(261,1031),(266,1032),(267,1033),(268,1034),(269,1035),(270,1036),(271,1006),(272,1007),(273,1008),(281,1097),(282,1098),(283,1099),(284,1100),(285,1079),(290,1126),(291,1141)]
def OG:List Nat:=[219,1091,1354,1894,1896,1616,1320,1618,1898,2062,2066,2282,2068,2252,2194,2064,1904,900,931,937,935,445,978,1328,904,942,944,946,952,448,522,1008,1724,1726,1728,1430,486,500,1000000060]
noncomputable def cfY (f:Nat):Option aC:=((Go.Proofs.Tryz.prog).funcs[f]?).bind (compile Go.Proofs.Tryz.prog yl OG)
def zofN (n:Nat):Int.ofNat (no_index (@OfNat.ofNat Nat n (instOfNatNat n)))=@OfNat.ofNat Int n (@instOfNat n):=rfl
def zofU (n:Nat)(h:n<2^8):UInt8.ofBitVec (BitVec.ofFin (Fin.mk (no_index (@OfNat.ofNat Nat n (instOfNatNat n))) h))=(OfNat.ofNat n:UInt8):=im.1 (by show n=(UInt8.ofNat n).toNat;rw[UInt8.toNat_ofNat'];exact(Nat.mod_eq_of_lt h).symm)
def zofM:Int.negSucc 0=-1:=rfl
noncomputable def cR (f:Nat)(s:{a:aC//cfY f=some a}:=by refine⟨?_, ?_⟩;rotate_left;conv=>lhs;reduce;dsimp only[zofN,zofM];try simp only[zofU]):aC:=s.1
section
structure X where
 w:World
 I:Nat->Prop
 β:Nat->Option (Nat×Nat×Nat)
def mpV (es:List MapEntry)(i:Nat):Value:=match es[i/2]? with
 |some e=>if i%2=0 then e.key else e.val
 |none=>undef
inductive RD (ν:List (Nat×Nat))(x:X):Value->D->Prop
 |any (v:Value):RD ν x v .any
 |bool (b:Bool):RD ν x (.bool b) (.bool b)
 |int (k:IntKind) (n:Int):RD ν x (.int k n) (.int k n)
 |str (s:List UInt8) (h:s.length<=maxLen):RD ν x (.string ⟨⟨s⟩⟩) (.str s)
 |agg (cs:Array Value) (ds:List D) (hl:cs.size=ds.length) (h1:∀i,i<ds.length->(cs.getD i undef).oneCell'=true)
   (h:∀i,i<ds.length->RD ν x (cs.getD i undef) (ds.getD i .any)):RD ν x (.agg cs) (.agg ds)
 |tup (cs:Array Value) (ds:List D) (hl:cs.size=ds.length)
   (h:∀i,i<ds.length->RD ν x (cs.getD i undef) (ds.getD i .any)):RD ν x (.tuple cs) (.tup ds)
 |bq:RD ν x (.slice none 0 0) .bq
 |sl (a:Option Addr) (b off len cap k:Nat) (es:List D) (c:Nat->Nat->Value) (hlen:len=es.length)
   (ha:es=[]\/(a=some ⟨b,off,none⟩/\x.I b)) (hcap:len<=cap) (hm:cap<=maxLen)
   (hk:∀i,i<len->(es.getD i .any).cells.length=k) (hn:∀i,i<len->(es.getD i .any).bJ=true)
   (hc:∀i j,i<len->j<k->x.w.cell? ⟨b,off+i*k+j,none⟩=some (c i j))
   (h1:∀i j,i<len->j<k->(c i j).oneCell'=true)
   (h:∀i j,i<len->j<k->RD ν x (c i j) ((es.getD i .any).cells.getD j .any)):RD ν x (.slice a len cap) (.sl k es)
 |ref (b off k i o at_:Nat) (es:List D) (c:Nat->Nat->Value) (hI:x.I b) (hat:at_=off+i*k+o)
   (hk:∀i,i<es.length->(es.getD i .any).cells.length=k) (hn:∀i,i<es.length->(es.getD i .any).bJ=true)
   (hc:∀i j,i<es.length->j<k->x.w.cell? ⟨b,off+i*k+j,none⟩=some (c i j))
   (h1:∀i j,i<es.length->j<k->(c i j).oneCell'=true)
   (h:∀i j,i<es.length->j<k->RD ν x (c i j) ((es.getD i .any).cells.getD j .any)):RD ν x (.pointer (some ⟨b,at_,none⟩)) (.ref k es i o)
 |ptr (l k i o b base tot at_:Nat) (hβ:x.β l=some (b,base,tot)) (hat:at_=base+i*k+o):RD ν x (.pointer (some ⟨b,at_,none⟩)) (.ptr l k i o)
 |own (l k i n b base tot cap:Nat) (a:Addr) (hβ:x.β l=some (b,base,tot)) (ha:0<cap->a=⟨b,base+i*k,none⟩)
   (hcap:n<=cap) (hm:cap<=maxLen) (ht:i+cap<=tot):RD ν x (.slice (some a) n cap) (.own l k i n)
 |own0 (l k i:Nat) (a:Option Addr):RD ν x (.slice a 0 0) (.own l k i 0)
 |nilp:RD ν x (.pointer none) .nilp
 |fn (fid n:Nat) (cs:Array Value) (ds:List D) (hν:eX ν fid=some n) (hl:cs.size=ds.length)
   (h:∀i,i<ds.length->RD ν x (cs.getD i undef) (ds.getD i .any)):RD ν x (.func (.func fid) #[] cs) (.fn n ds)
 |fe (fid n:Nat) (fs:Array Value) (ds:List D) (hν:eX ν fid=some n) (hl:fs.size=ds.length)
   (h:∀i,i<ds.length->RD ν x (fs.getD i undef) (ds.getD i .any)):RD ν x (.func (.func fid) fs #[]) (.fn (n+1000000) ds)
 |nilf:RD ν x .nilFunc .nilf
 |mp (r:Nat) (es:Array MapEntry) (cl:Nat) (ds:List D) (hI:x.I r) (hh:x.w.heap[r]? =some (.map es cl)) (hl:2*es.size=ds.length)
   (h:∀i,i<ds.length->RD ν x (mpV es.toList i) (ds.getD i .any)):RD ν x (.map (some r)) (.fn 2000000 ds)
 |bx (b at_:Nat) (ds:List D) (v:Value) (hI:x.I b) (hc:x.w.cell? ⟨b,at_,none⟩=some v) (h1:v.oneCell'=true) (hl:ds.length=1)
   (h:∀i,i<ds.length->RD ν x v (ds.getD i .any)):RD ν x (.pointer (some ⟨b,at_,none⟩)) (.fn 3000000 ds)
 |it (l b base tot:Nat) (hβ:x.β l=some (b,base,tot)):RD ν x (.pointer (some ⟨b,0,none⟩)) (.it l)
section
variable {ν:List (Nat×Nat)} {x x':X}
structure Le (x x':X):Prop where
 I:∀b,x.I b->x'.I b
 oB:∀b,x.I b->x'.w.heap[b]? =x.w.heap[b]?
 β:∀l p,x.β l=some p->x'.β l=some p
theorem jE {w w':World}{b o:Nat}{v:Value}(h:w'.heap[b]? =w.heap[b]?)(hc:w.cell? ⟨b,o,none⟩=some v):w'.cell? ⟨b,o,none⟩=some v:=by
 rw[<-hc];unfold World.cell?;simp only[h]
def Le.refl (x:X):Le x x:=⟨fun _ h=>h,fun _ _=>rfl,fun _ _ h=>h⟩
def Le.trans {x'':X}(h:Le x x')(h':Le x' x''):Le x x'':=
 ⟨fun b hb=>h'.I b (h.I b hb),fun b hb=>(h'.oB b (h.I b hb)).trans (h.oB b hb),fun l p hp=>h'.β l p (h.β l p hp)⟩
def RD.mono {v:Value}{d:D}(h:RD ν x v d)(hl:Le x x'):RD ν x' v d:=by
 induction h with
 |any v=>exact .any v
 |bool b=>exact .bool b
 |int k n=>exact .int k n
 |str s h=>exact .str s h
 |agg cs ds hl' h1 _ ih=>exact .agg cs ds hl' h1 ih
 |tup cs ds hl' _ ih=>exact .tup cs ds hl' ih
 |bq=>exact .bq
 |sl a b off len cap k es c hlen ha hcap hm hk hn hc h1 _ ih=>
  refine .sl a b off len cap k es c hlen (ha.imp id fun⟨p,q⟩=>⟨p,hl.I _ q⟩) hcap hm hk hn (fun i j hi hj=>?_) h1 ih;rcases ha with rfl|⟨_,hI⟩
  .simp at hlen;omega
  .exact jE (hl.oB _ hI) (hc i j hi hj)
 |ref b off k i o at_ es c hI hat hk hn hc h1 _ ih=>
  exact .ref b off k i o at_ es c (hl.I _ hI) hat hk hn (fun i j hi hj=>jE (hl.oB _ hI) (hc i j hi hj)) h1 ih
 |ptr l k i o b base tot at_ hβ hat=>exact .ptr l k i o b base tot at_ (hl.β _ _ hβ) hat
 |own l k i n b base tot cap a hβ ha hcap hm ht=>exact .own l k i n b base tot cap a (hl.β _ _ hβ) ha hcap hm ht
 |own0 l k i a=>exact .own0 l k i a
 |nilp=>exact .nilp
 |fn fid n cs ds hν hl' _ ih=>exact .fn fid n cs ds hν hl' ih
 |fe fid n cs ds hν hl' _ ih=>exact .fe fid n cs ds hν hl' ih
 |nilf=>exact .nilf
 |mp r es cl ds hI hh hl' _ ih=>exact .mp r es cl ds (hl.I _ hI) ((hl.oB _ hI).trans hh) hl' ih
 |bx b at_ ds v hI hc h1 hl' _ ih=>exact .bx b at_ ds v (hl.I _ hI) (jE (hl.oB _ hI) hc) h1 hl' ih
 |it l b base tot hβ=>exact .it l b base tot (hl.β _ _ hβ)
def dn:∀{ds:List D},bH ds=true->∀i,(ds.getD i .any).bJ=true
 |[],_,i=>by simp[D.bJ]
 |d::r,h,0=>by simp[bH]at h;simpa using h.1
 |d::r,h,i+1=>by simp[bH]at h;simpa using dn h.2 i
def kd:∀{ds:List D},oE ds=true->∀i,(ds.getD i .any).fI=true
 |[],_,i=>by simp[D.fI]
 |d::r,h,0=>by simp[oE]at h;simpa using h.1
 |d::r,h,i+1=>by simp[oE]at h;simpa using kd h.2 i
def r9:∀{ds:List D},(∀i,i<ds.length->(ds.getD i .any).bJ=true)->bH ds=true
 |[],_=>rfl
 |d::r,h=>by
  simp only[bH,bC];exact⟨by simpa using h 0 aJ,r9 fun i hi=>by simpa using h (i+1) cZ⟩
def mw {d:D}(h:d.bJ=true)(j:Nat):(d.cells.getD j .any).bJ=true:=by
 cases d<;>simp only[D.cells]<;>first
  |(simp only[D.bJ]at h;exact dn h j)
  |(cases j<;>simp_all[D.bJ])
def RD.bJ {v:Value}{d:D}(h:RD ν x v d)(hn:d.bJ=true)(hI:∀b,x.I b->x'.I b)(hk:∀b,x.I b->x'.w.heap[b]? =x.w.heap[b]?):RD ν x' v d:=by
 induction h with
 |any v=>exact .any v
 |bool b=>exact .bool b
 |int k n=>exact .int k n
 |str s h=>exact .str s h
 |agg cs ds hl' h1 _ ih=>exact .agg cs ds hl' h1 fun i hi=>ih i hi (dn (by simpa[D.bJ]using hn) i)
 |tup cs ds hl' _ ih=>exact .tup cs ds hl' fun i hi=>ih i hi (dn (by simpa[D.bJ]using hn) i)
 |bq=>exact .bq
 |sl a b off len cap k es c hlen ha hcap hm hk' hn' hc h1 _ ih=>
  refine .sl a b off len cap k es c hlen (ha.imp id fun⟨p,q⟩=>⟨p,hI _ q⟩) hcap hm hk' hn' (fun i j hi hj=>?_) h1 fun i j hi hj=>ih i j hi hj (mw (hn' i hi) j)
  grind [jE]
 |ref b off k i o at_ es c hIb hat hk' hn' hc h1 _ ih=>
  exact .ref b off k i o at_ es c (hI _ hIb) hat hk' hn' (fun i j hi hj=>jE (hk _ hIb) (hc i j hi hj)) h1 fun i j hi hj=>ih i j hi hj (mw (hn' i hi) j)
 |ptr=>simp[D.bJ]at hn
 |own=>simp[D.bJ]at hn
 |own0=>simp[D.bJ]at hn
 |nilp=>exact .nilp
 |fn fid n cs ds hν hl' _ ih=>exact .fn fid n cs ds hν hl' fun i hi=>ih i hi (dn (by simpa[D.bJ]using hn) i)
 |fe fid n cs ds hν hl' _ ih=>exact .fe fid n cs ds hν hl' fun i hi=>ih i hi (dn (by simpa[D.bJ]using hn) i)
 |nilf=>exact .nilf
 |mp r es cl ds hIr hh hl' _ ih=>exact .mp r es cl ds (hI _ hIr) ((hk _ hIr).trans hh) hl' fun i hi=>ih i hi (dn (by simpa[D.bJ]using hn) i)
 |bx b at_ ds v hIr hc h1 hl' _ ih=>exact .bx b at_ ds v (hI _ hIr) (jE (hk _ hIr) hc) h1 hl' fun i hi=>ih i hi (dn (by simpa[D.bJ]using hn) i)
 |it=>simp[D.bJ]at hn
def RD.fI {v:Value}{d:D}(h:RD ν x v d)(hn:d.fI=true):RD ν x' v d:=by
 induction h with
 |any v=>exact .any v
 |bool b=>exact .bool b
 |int k n=>exact .int k n
 |str s h=>exact .str s h
 |agg cs ds hl' h1 _ ih=>exact .agg cs ds hl' h1 fun i hi=>ih i hi (kd (by simpa[D.fI]using hn) i)
 |tup cs ds hl' _ ih=>exact .tup cs ds hl' fun i hi=>ih i hi (kd (by simpa[D.fI]using hn) i)
 |bq=>exact .bq
 |sl=>simp[D.fI]at hn
 |ref=>simp[D.fI]at hn
 |ptr=>simp[D.fI]at hn
 |own=>simp[D.fI]at hn
 |own0=>simp[D.fI]at hn
 |nilp=>exact .nilp
 |fn fid n cs ds hν hl' _ ih=>exact .fn fid n cs ds hν hl' fun i hi=>ih i hi (kd (by simp[D.fI]at hn;exact hn.2) i)
 |fe fid n cs ds hν hl' _ ih=>exact .fe fid n cs ds hν hl' fun i hi=>ih i hi (kd (by simp[D.fI]at hn;exact hn.2) i)
 |nilf=>exact .nilf
 |mp=>simp[D.fI]at hn
 |bx=>simp[D.fI]at hn
 |it=>simp[D.fI]at hn
theorem RD.cells {v:Value}{d:D}(h:RD ν x v d)(hd:0<d.cells.length):
  v.cells.size=d.cells.length/\∀j,j<d.cells.length->(v.cells.getD j undef).oneCell'=true/\RD ν x (v.cells.getD j undef) (d.cells.getD j .any):=by
 cases h with
 |any=>simp[D.cells]at hd
 |tup=>simp[D.cells]at hd
 |agg cs ds hl h1 h=>exact⟨hl,fun j hj=>⟨h1 j hj,h j hj⟩⟩
 |bool b=>exact⟨rfl,fun j hj=>by simp[D.cells]at hj;subst hj;exact⟨rfl,.bool b⟩⟩
 |int k n=>exact⟨rfl,fun j hj=>by simp[D.cells]at hj;subst hj;exact⟨rfl,.int k n⟩⟩
 |str s h=>exact⟨rfl,fun j hj=>by simp[D.cells]at hj;subst hj;exact⟨rfl,.str s h⟩⟩
 |bq=>exact⟨rfl,fun j hj=>by simp[D.cells]at hj;subst hj;exact⟨rfl,.bq⟩⟩
 |sl a b off len cap k es c hlen ha hcap hm hk hn hc h1 h=>exact⟨rfl,fun j hj=>by simp[D.cells]at hj;subst hj;exact⟨rfl,.sl a b off len cap k es c hlen ha hcap hm hk hn hc h1 h⟩⟩
 |ref b off k i o at_ es c hI hat hk hn hc h1 h=>exact⟨rfl,fun j hj=>by simp[D.cells]at hj;subst hj;exact⟨rfl,.ref b off k i o at_ es c hI hat hk hn hc h1 h⟩⟩
 |ptr l k i o b base tot at_ hβ hat=>exact⟨rfl,fun j hj=>by simp[D.cells]at hj;subst hj;exact⟨rfl,.ptr l k i o b base tot at_ hβ hat⟩⟩
 |own l k i n b base tot cap a hβ ha hcap hm ht=>exact⟨rfl,fun j hj=>by simp[D.cells]at hj;subst hj;exact⟨rfl,.own l k i n b base tot cap a hβ ha hcap hm ht⟩⟩
 |own0 l k i a=>exact⟨rfl,fun j hj=>by simp[D.cells]at hj;subst hj;exact⟨rfl,.own0 l k i a⟩⟩
 |nilp=>exact⟨rfl,fun j hj=>by simp[D.cells]at hj;subst hj;exact⟨rfl,.nilp⟩⟩
 |fn fid n cs ds hν hl h=>exact⟨rfl,fun j hj=>by simp[D.cells]at hj;subst hj;exact⟨rfl,.fn fid n cs ds hν hl h⟩⟩
 |fe fid n cs ds hν hl h=>exact⟨rfl,fun j hj=>by simp[D.cells]at hj;subst hj;exact⟨rfl,.fe fid n cs ds hν hl h⟩⟩
 |nilf=>exact⟨rfl,fun j hj=>by simp[D.cells]at hj;subst hj;exact⟨rfl,.nilf⟩⟩
 |mp r es cl ds hI hh hl h=>exact⟨rfl,fun j hj=>by simp[D.cells]at hj;subst hj;exact⟨rfl,.mp r es cl ds hI hh hl h⟩⟩
 |bx b at_ ds v hI hc h1 hl h=>exact⟨rfl,fun j hj=>by simp[D.cells]at hj;subst hj;exact⟨rfl,.bx b at_ ds v hI hc h1 hl h⟩⟩
 |it l b base tot hβ=>exact⟨rfl,fun j hj=>by simp[D.cells]at hj;subst hj;exact⟨rfl,.it l b base tot hβ⟩⟩
end
end
section
section
variable {ν:List (Nat×Nat)} {x x':X}
class dS where
 tB:TypeId:=0
 tU:TypeId:=0
 gd:X->Prop
 le:∀x x':X,(∀b,x.I b->x'.I b)->(∀b,x.I b->x'.w.heap[b]? =x.w.heap[b]?)->gd x->gd x'
variable [dS]
def pC (ν:List (Nat×Nat))(x:X)(b base tot:Nat):bX->Prop
 | .buf k es=>0<k/\es.length<=tot/\∃c T fr,x.w.heap[b]? =some (.cells c T fr)/\base+tot*k<=c.size/\
   (∀o,o<c.size->¬(fr.1<=o/\o<fr.2))/\
   ∀i,i<es.length->(es.getD i .any).cells.length=k/\∀j,j<k->
    (c.getD (base+i*k+j) undef).oneCell'=true/\RD ν x (c.getD (base+i*k+j) undef) ((es.getD i .any).cells.getD j .any)
 | .iter s pos=>x.w.heap[b]? =some (.stringIter ⟨⟨s⟩⟩ pos)/\s.length<=maxLen
 | .row s=>base=0/\∃c,x.w.heap[b]? =some (.cells c dS.tU (0,0))/\c.size=tot/\tot<=maxLen/\s.length<=tot/\∀i,i<s.length->c.getD i undef=.int .u8 (s.getD i 0).toNat
 | .bld o n u=>base=0/\∃v,x.w.heap[b]? =some (.cells #[.pointer (if u=true then some ⟨b,0,none⟩else none),v] dS.tB (0,0))/\
   match o with
   |none=>n=0/\v=.slice none 0 0
   |some l=>∃g t,v=.slice (some ⟨g,0,none⟩) n t/\n<=t/\x.β l=some (g,0,t)
def rW (h:Le x x')(hg:dS.gd x):dS.gd x':=dS.le x x' h.I h.oB hg
structure gE (ν:List (Nat×Nat))(x:X)(f:Nat->Option bX):Prop where
 own:∀l blk b base tot,f l=some blk->x.β l=some (b,base,tot)->¬x.I b/\pC ν x b base tot blk
 inj:∀l l' b base tot base' tot',f l≠none->f l'≠none->x.β l=some (b,base,tot)->x.β l'=some (b,base',tot')->l=l'
 imm:∀b,x.I b->b<x.w.heap.size
 fe:∀l b base tot,x.β l=some (b,base,tot)->b<x.w.heap.size
 gd:dS.gd x
structure Step (x x':X):Prop where
 os:x'.w.os=x.w.os
 tape:x'.w.tape=x.w.tape
 output:x'.w.output=x.w.output
 size:x.w.heap.size<=x'.w.heap.size
 I:∀b,x.I b->x'.I b
 oB:∀b,x.I b->x'.w.heap[b]? =x.w.heap[b]?
 β:∀l p,x.β l=some p->x'.β l=some p
 old:∀b,b<x.w.heap.size->(∀l p,x.β l=some p->p.1≠b)->x'.w.heap[b]? =x.w.heap[b]?
 newI:∀b,x'.I b->x.I b\/x.w.heap.size<=b\/∃l p,x.β l=some p/\p.1=b
 newβ:∀l p,x'.β l=some p->x.β l=some p\/x.w.heap.size<=p.1\/∃l' p',x.β l'=some p'/\p'.1=p.1
def Step.le (h:Step x x'):Le x x':=⟨h.I,h.oB,h.β⟩
def Step.refl (x:X):Step x x:=⟨rfl,rfl,rfl,aL _,fun _ h=>h,fun _ _=>rfl,fun _ _ h=>h,fun _ _ _=>rfl,fun _ h=>.inl h,fun _ _ h=>.inl h⟩
def Step.trans {x'':X}(h:Step x x')(h':Step x' x''):Step x x'':=by
 refine⟨h'.os.trans h.os,h'.tape.trans h.tape,h'.output.trans h.output,dp h.size h'.size,fun b hb=>h'.I b (h.I b hb),
  fun b hb=>(h'.oB b (h.I b hb)).trans (h.oB b hb),fun l p hp=>h'.β l p (h.β l p hp), ?_, ?_, ?_⟩
 .intro b hb hn;refine(h'.old b (fq hb h.size) ?_).trans (h.old b hb hn);intro l p hp e;rcases h.newβ l p hp with h1|h1|⟨l',p',h1,h2⟩
  .exact hn l p h1 e
  .omega
  .exact hn l' p' h1 (h2.trans e)
 .intro b hb;rcases h'.newI b hb with h1|h1|⟨l,p,h1,h2⟩
  .exact h.newI b h1
  .exact .inr (.inl (dp h.size h1))
  .rcases h.newβ l p h1 with h3|h3|⟨l',p',h3,h4⟩
   .exact .inr (.inr ⟨l,p,h3,h2⟩)
   .exact .inr (.inl (h2▸h3))
   .exact .inr (.inr ⟨l',p',h3,h4.trans h2⟩)
 .intro l p hp;rcases h'.newβ l p hp with h1|h1|⟨l',p',h1,h2⟩
  .exact h.newβ l p h1
  .exact .inr (.inl (dp h.size h1))
  .rcases h.newβ l' p' h1 with h3|h3|⟨l'',p'',h3,h4⟩
   .exact .inr (.inr ⟨l',p',h3,h2⟩)
   .exact .inr (.inl (h2▸h3))
   .exact .inr (.inr ⟨l'',p'',h3,h4.trans h2⟩)
def pC.mono {b base tot:Nat}{blk:bX}(h:pC ν x b base tot blk)(hl:Le x x')(hb:x'.w.heap[b]? =x.w.heap[b]?):pC ν x' b base tot blk:=by
 cases blk with
 |buf k es=>
  obtain⟨hk,ht,c,T,fr,h1,h2,h3,h4⟩:=h;exact⟨hk,ht,c,T,fr,hb.trans h1,h2,h3,fun i hi=>⟨(h4 i hi).1,fun j hj=>⟨((h4 i hi).2 j hj).1,((h4 i hi).2 j hj).2.mono hl⟩⟩⟩
 |iter s pos=>exact⟨hb.trans h.1,h.2⟩
 |row s=>
  obtain⟨h0,c,h1,h2⟩:=h;exact⟨h0,c,hb.trans h1,h2⟩
 |bld o n u=>
  obtain⟨h0,v,h1,h2⟩:=h;refine⟨h0,v,hb.trans h1, ?_⟩;cases o with
  |none=>exact h2
  |some l=>
   obtain⟨g,t,h3,h4,h5⟩:=h2;exact⟨g,t,h3,h4,hl.β _ _ h5⟩
structure hZ (w w':World):Prop where
 os:w'.os=w.os
 tape:w'.tape=w.tape
 output:w'.output=w.output
 size:w.heap.size<=w'.heap.size
 old:∀b,b<w.heap.size->w'.heap[b]? =w.heap[b]?
def hZ.refl (w:World):hZ w w:=⟨rfl,rfl,rfl,aL _,fun _ _=>rfl⟩
def mM (w:World)(o:Obj)(b:Nat)(hb:b<w.heap.size):(w.alloc o).heap[b]? =w.heap[b]? :=by
 simp only[World.alloc,Array.getElem?_push];rw[ak ae]
def eW (w:World)(o:Obj):(w.alloc o).heap[w.heap.size]? =some o:=by show(w.heap.push o)[w.heap.size]? =some o;simp
def hZ.alloc (w:World)(o:Obj):hZ w (w.alloc o):=⟨rfl,rfl,rfl,aJ,fun b hb=>mM w o b hb⟩
def hZ.trans {w w' w'':World}(h:hZ w w')(h':hZ w' w''):hZ w w'':=
 ⟨h'.os.trans h.os,h'.tape.trans h.tape,h'.output.trans h.output,dp h.size h'.size,fun b hb=>(h'.old b (fq hb h.size)).trans (h.old b hb)⟩
def hZ.drew (w:World):hZ w w.drew:=⟨rfl,rfl,rfl,aL _,fun _ _=>rfl⟩
def Step.grow {w':World}(hw:hZ x.w w')(himm:∀b,x.I b->b<x.w.heap.size):Step x ⟨w',x.I,x.β⟩:=
 ⟨hw.os,hw.tape,hw.output,hw.size,fun _ h=>h,fun b hb=>hw.old b (himm b hb),fun _ _ h=>h,fun b hb _=>hw.old b hb,fun _ h=>.inl h,fun _ _ h=>.inl h⟩
def gE.grow {f:Nat->Option bX}{w':World}(h:gE ν x f)(hw:hZ x.w w'):gE ν ⟨w',x.I,x.β⟩ f:=
 ⟨fun l blk b base tot h1 h2=>⟨(h.own l blk b base tot h1 h2).1,(h.own l blk b base tot h1 h2).2.mono (Step.grow hw h.imm).le (hw.old b (h.fe l b base tot h2))⟩,
  h.inj,fun b hb=>fq (h.imm b hb) hw.size,fun l b base tot hb=>fq (h.fe l b base tot hb) hw.size,rW (Step.grow hw h.imm).le h.gd⟩
def eV (β:Nat->Option (Nat×Nat×Nat))(L:Nat)(p:Nat×Nat×Nat):Nat->Option (Nat×Nat×Nat):=fun l=>if l=L then some p else β l
def m8 (f:Nat->Option bX)(L:Nat)(b:Option bX):Nat->Option bX:=fun l=>if l=L then b else f l
def B7 {w':World}{L n base tot:Nat}(hw:hZ x.w w')(hn:x.w.heap.size<=n)(hL:x.β L=none)(himm:∀b,x.I b->b<x.w.heap.size):
  Step x ⟨w',x.I,eV x.β L (n,base,tot)⟩:=by
 refine⟨hw.os,hw.tape,hw.output,hw.size,fun _ h=>h,fun b hb=>hw.old b (himm b hb),fun l p hp=>?_,fun b hb _=>hw.old b hb,fun _ h=>.inl h,fun l p hp=>?_⟩
 .grind [eV]
 grind [eV]
def Wl {f:Nat->Option bX}{w':World}{L n base tot:Nat}{blk:bX}(h:gE ν x f)(hw:hZ x.w w')(hn:x.w.heap.size<=n)(hnw:n<w'.heap.size)(hL:x.β L=none)
  (hb:pC ν ⟨w',x.I,eV x.β L (n,base,tot)⟩ n base tot blk):gE ν ⟨w',x.I,eV x.β L (n,base,tot)⟩ (m8 f L (some blk)):=by
 have hle:=(B7 (base:=base) (tot:=tot) hw hn hL h.imm).le;refine⟨fun l blk' b base' tot' h1 h2=>?_,fun l l' b base' tot' base'' tot'' h1 h1' h2 h2'=>?_,fun b hb=>fq (h.imm b hb) hw.size,fun l b base' tot' h2=>?_,rW hle h.gd⟩
 .by_cases e:l=L
  .subst e;simp only[eV,aW,bh,eH]at h2;simp only[m8,aW,bh]at h1;obtain⟨rfl,rfl,rfl⟩:=h2;subst h1;exact⟨fun hI=>by have:=h.imm _ hI;omega,hb⟩
  .simp only[eV,e,aX]at h2;simp only[m8,e,aX]at h1;obtain⟨a1,a2⟩:=h.own l blk' b base' tot' h1 h2;exact⟨a1,a2.mono hle (hw.old b (h.fe l b base' tot' h2))⟩
 .by_cases e:l=L<;>by_cases e':l'=L
  .exact e.trans e'.symm
  .simp only[eV,e,aW,bh,eH]at h2;simp only[eV,e',aX]at h2';have:=h.fe l' b base'' tot'' h2';obtain⟨h2,_,_⟩:=h2;omega
  .simp only[eV,e',aW,bh,eH]at h2';simp only[eV,e,aX]at h2;have:=h.fe l b base' tot' h2;obtain⟨h2',_,_⟩:=h2';omega
  .simp only[eV,e,aX]at h2;simp only[eV,e',aX]at h2';simp only[m8,e,aX]at h1;simp only[m8,e',aX]at h1';exact h.inj l l' b base' tot' base'' tot'' h1 h1' h2 h2'
 .by_cases e:l=L
  .simp only[eV,e,aW,bh,eH]at h2;obtain⟨h2,_,_⟩:=h2;show b<w'.heap.size;omega
  .simp only[eV,e,aX]at h2;exact fq (h.fe l b base' tot' h2) hw.size
variable {P:Program} {w:World}
def pI {t:TypeId}(h:P.cellsOf t≠0):∃i,P.info? t=some i/\i.size=P.cellsOf t:=by
 unfold Program.cellsOf at h⊢;cases hi:P.info? t with
 |none=>simp[hi]at h
 |some i=>exact⟨i,rfl,aJ⟩
def dZ {t:TypeId}(h:P.cellsOf t≠0):(sizeOf t).run P w=.ok (P.cellsOf t) w:=by
 obtain⟨i,hi,hs⟩:=pI h;simp[sizeOf,typeInfo,hi,hs]
def uT {t:TypeId}(h:(P.underlying t).isNone=false):(isAgg t).run P w=.ok (cH P t) w:=by
 cases hu:P.underlying t with
 |none=>simp[hu]at h
 |some d=>unfold isAgg cH;rw[Sem.run_bind,run_underlying hu w];simp only[hu,Result.andThen];cases d<;>rfl
theorem Addr.yF (b o n:Nat):(⟨b,o,none⟩:Addr).add n=⟨b,o+n,none⟩:=by unfold Addr.add;split<;>simp_all
end
end
section
variable [dS]
section
variable {ν:List (Nat×Nat)} {x:X} {f:Nat->Option bX} {P:Program}
mutual
theorem nO:∀(v:Value) (d:D),gh v=some d->RD ν x v d
 | .bool b,d,h=>by simp[gh]at h;subst h;exact .bool b
 | .int k n,d,h=>by simp[gh]at h;subst h;exact .int k n
 | .string ⟨⟨s⟩⟩,d,h=>by
  simp only[gh]at h;split at h
  .rename_i hs;simp only[bh]at h;subst h;exact .str s (by simpa[maxLen,ByteArray.size]using hs)
  .cases h
 | .pointer none,d,h=>by simp[gh]at h;subst h;exact .nilp
 | .slice none 0 0,d,h=>by simp[gh]at h;subst h;exact .bq
 | .nilFunc,d,h=>by simp[gh]at h;subst h;exact .nilf
 | .agg ⟨cs⟩,d,h=>by
  simp only[gh]at h;split at h
  .rename_i hone;cases hc:ta cs with
   |none=>simp[hc]at h
   |some ds=>
    simp[hc]at h;subst h;obtain⟨hl,hr⟩:=tR cs ds hc;refine .agg ⟨cs⟩ ds (by simpa using hl) (fun i hi=>?_) (fun i hi=>by simpa using hr i hi);have:=rE cs hone i ae;simpa using this
  .cases h
 | .float _ _,d,h=>by simp[gh]at h
 | .complex _ _ _,d,h=>by simp[gh]at h
 | .pointer (some _),d,h=>by simp[gh]at h
 | .slice (some _) _ _,d,h=>by simp[gh]at h
 | .slice none (_+1) _,d,h=>by simp[gh]at h
 | .slice none 0 (_+1),d,h=>by simp[gh]at h
 | .map _,d,h=>by simp[gh]at h
 | .chan _,d,h=>by simp[gh]at h
 | .func _ _ _,d,h=>by simp[gh]at h
 | .iface _ _,d,h=>by simp[gh]at h
 | .nilIface,d,h=>by simp[gh]at h
 | .tuple _,d,h=>by simp[gh]at h
theorem tR:∀(vs:List Value) (ds:List D),ta vs=some ds->vs.length=ds.length/\∀i,i<ds.length->RD ν x (vs.getD i undef) (ds.getD i .any)
 |[],ds,h=>by simp[ta]at h;subst h;simp
 |v::r,ds,h=>by
  simp only[ta]at h;split at h
  .rename_i d ds' h1 h2;simp only[bh]at h;subst h;have a:=nO v d h1;obtain⟨b1,b2⟩:=tR r ds' h2;refine⟨by simp[b1],fun i hi=>?_⟩;cases i with
   |zero=>simpa using a
   |succ i=>simpa using b2 i (by simpa using hi)
  .cases h
theorem rE:∀(vs:List Value),vz vs=true->∀i,i<vs.length->(vs.getD i undef).oneCell'=true
 |[],_,i,hi=>by simp at hi
 |v::r,h,i,hi=>by
  simp only[vz,bC]at h;cases i with
  |zero=>simp;cases v<;>simp_all[Value.oneCell']
  |succ i=>simpa using rE r h.2 i (by simpa using hi)
end
def Cr (ν:List (Nat×Nat))(x:X)(f:Nat->Option bX)(L:Nat)(d:D)(r:Result Next):Prop:=
 ∃v x',(r=.ok (.value v) x'.w\/r=.ok .skip x'.w/\v=undef)/\Step x x'/\RD ν x' v d/\gE ν x' f/\∀l,l≠L->x'.β l=x.β l
def bU {L:Nat}{d:D}{v:Value}{r:Result Next}(hs:gE ν x f)(hr:r=.ok (.value v) x.w)(hd:RD ν x v d):Cr ν x f L d r:=
 ⟨v,x,.inl hr,.refl x,hd,hs,fun _ _=>rfl⟩
def xT (C:CC)(defs:List (Option Nat))(J:Src->ch)(ev:Operand->Value)(x:X)(os:List Operand):Prop:=
 ∀o,o∈os->∀s,C.src defs o=some s->(J s).ok=true->RD C.ν x (ev o) (J s).d
def RD.j6 {v:Value}{b:Bool}(h:RD ν x v (.bool b)):v=.bool b:=by cases h;rfl
def RD.dX {v:Value}{k:IntKind}{n:Int}(h:RD ν x v (.int k n)):v=.int k n:=by cases h;rfl
def RD.ji {v:Value}{s:List UInt8}(h:RD ν x v (.str s)):v=.string ⟨⟨s⟩⟩/\s.length<=maxLen:=by cases h;exact⟨rfl,‹_›⟩
def RD.pick {b:Bool}{u v:Value}{d e:D}(h1:b=true->RD ν x u d)(h2:b=false->RD ν x v e):RD ν x (if b then u else v) (D.pick b d e):=by
 cases b
 .have:=h2 rfl;simp only[fS,aX];cases d<;>cases e<;>simp only[D.pick,cond_false]<;>exact this
 .have:=h1 rfl;simp only[aW];cases d<;>cases e<;>simp only[D.pick,cond_true]<;>exact this
def Ib {op:BinOp}{t:TypeId}{k k':IntKind}{a b:Int}(w:World)(hb:jS op (.int k a) (.int k' b)):
  ∃v,(binOp op t (.int k a) (.int k' b)).run P w=.ok v w/\RD ν x v (kj op (.int k a) (.int k' b)):=by
 cases op<;>simp only[jS]at hb<;>simp only[binOp,kj,ne_eq]
 case shl=>exact⟨_,by simp[Op.shift,show ¬b<0 by omega],.int _ _⟩
 case shr=>exact⟨_,by simp[Op.shift,show ¬b<0 by omega],.int _ _⟩
 case quo=>obtain⟨rfl,hb⟩:=hb;exact⟨_,by simp[Op.intDiv,hb],.int _ _⟩
 case rem=>obtain⟨rfl,hb⟩:=hb;exact⟨_,by simp[Op.intDiv,hb],.int _ _⟩
 case and=>subst hb;exact⟨_,by simp[Op.intBits],.int _ _⟩
 case or=>subst hb;exact⟨_,by simp[Op.intBits],.int _ _⟩
 case xor=>subst hb;exact⟨_,by simp[Op.intBits],.int _ _⟩
 case andNot=>subst hb;exact⟨_,by simp[Op.intBits],.int _ _⟩
 case add=>subst hb;exact⟨_,by simp[Op.intArith],.int _ _⟩
 case sub=>subst hb;exact⟨_,by simp[Op.intArith],.int _ _⟩
 case mul=>subst hb;exact⟨_,by simp[Op.intArith],.int _ _⟩
 case eql=>subst hb;exact⟨_,by simp[Op.intCmp],.bool _⟩
 case neq=>subst hb;exact⟨_,by simp[Op.intCmp],.bool _⟩
 case lss=>subst hb;exact⟨_,by simp[Op.intCmp],.bool _⟩
 case leq=>subst hb;exact⟨_,by simp[Op.intCmp],.bool _⟩
 case gtr=>subst hb;exact⟨_,by simp[Op.intCmp],.bool _⟩
 case geq=>subst hb;exact⟨_,by simp[Op.intCmp],.bool _⟩
def EF (a b:List UInt8):(⟨⟨a⟩⟩:ByteArray)++⟨⟨b⟩⟩=⟨⟨a++b⟩⟩:=by
 have h:((⟨⟨a⟩⟩:ByteArray)++⟨⟨b⟩⟩).data=(⟨a++b⟩:Array UInt8):=by
  rw[ByteArray.data_append];simp
 exact aj ByteArray.mk h
def Ic {op:BinOp}{t:TypeId}{a b:List UInt8}(w:World)(hb:jS op (.str a) (.str b)):
  ∃v,(binOp op t (.string ⟨⟨a⟩⟩) (.string ⟨⟨b⟩⟩)).run P w=.ok v w/\RD ν x v (kj op (.str a) (.str b)):=by
 have hs:∀l:List UInt8,(⟨⟨l⟩⟩:ByteArray).size=l.length:=fun _=>rfl
 cases op<;>simp only[jS]at hb<;>simp only[binOp,kj]
 case add=>
  refine⟨.string ⟨⟨a++b⟩⟩, ?_,.str _ (by simp[maxLen];omega)⟩;have:¬(((⟨⟨a⟩⟩:ByteArray).size+(⟨⟨b⟩⟩:ByteArray).size:Nat):Int)>IntKind.i64.max:=by
   rw[hs,hs];simp only[IntKind.max,IntKind.signed,IntKind.bits,aW];omega
  simp only[Op.stringOp,this,aX,Sem.run_pure,EF]
 all_goals
  refine⟨_,by simp only[Op.stringOp,Sem.run_pure];rfl, ?_⟩;simp only[ByteArray.toList_eq];exact .bool _
def mS (op:BinOp)(t:TypeId)(p q:Operand){u v:Value}(h:(∀cs,u≠.agg cs)/\u≠.nilIface)(w:World):(eqGuard op t p q u v).run P w=.ok () w:=by
 obtain⟨h1,h2⟩:=h;unfold eqGuard;cases op<;>simp<;>(split<;>first|rfl|simp_all)
def fm {α:Type}(l:List α)(o n:Nat)(d:α)(j:Nat)(hj:j<n):((l.drop o).take n).getD j d=l.getD (o+j) d:=by
 grind
def jJ {α:Type}(l:List α)(o n:Nat)(h:o+n<=l.length):((l.drop o).take n).length=n:=by
 simp;omega
theorem cC (cs:Array Value)(i:Nat)(d:Value):cs.toList.getD i d=cs.getD i d:=by
 simp[List.getD,Array.getD];split<;>simp_all
def qg {t:TypeId}{cs:Array Value}{ds:List D}{off n:Nat}{ag:Bool}(w:World)(hv:RD ν x (.agg cs) (.agg ds))(ht:P.cellsOf t≠0)(hu:(P.underlying t).isNone=false)
  (hn:n=P.cellsOf t) (hag:ag=cH P t) (hle:off+n<=ds.length) (h1:ag=false->n=1):
  ∃v,(part t cs off).run P w=.ok v w/\RD ν x v (cut ds off n ag):=by
 cases hv with
 |agg _ _ hl hone h=>
  unfold part;rw[Sem.run_bind,uT hu];subst hag;cases hb:cH P t
  .have hn1:=h1 (by rw[hb]);have hlt:off<cs.size:=ae;refine⟨cs.getD off undef, ?_, ?_⟩
   .simp[Result.andThen,Array.getElem?_eq_getElem hlt,Array.getD,hlt]
   .simp only[cut,cond_false];exact h off ae
  .refine⟨.agg (cs.extract off (off+n)), ?_, ?_⟩
   .simp[Result.andThen,dZ ht,hn]
   .simp only[cut,cond_true];refine .agg _ _ ?_ ?_ ?_
    .simp;omega
    .intro i hi;simp at hi;have:=hone (off+i) ae;rw[<-this];congr 1;simp[Array.getD,show off+i<cs.size by omega,show i<min (off+n) cs.size-off by omega]
    .intro i hi;simp at hi;rw[fm _ _ _ _ _ ae];have:=h (off+i) ae;have e:(cs.extract off (off+n)).getD i undef=cs.getD (off+i) undef:=by
      simp[Array.getD,show off+i<cs.size by omega,show i<min (off+n) cs.size-off by omega]
     rw[e];exact this
end
end
section
variable [dS]
section
variable {x:X} {f:Nat->Option bX} {C:CC} {defs:List (Option Nat)} {J:Src->ch} {ev:Operand->Value} {Y:Ctx} {m:List (Nat×bX)} {L:Nat}
def iK {os':List Operand}(hρ:xT C defs J ev x os'):∀(os:List Operand) (ss:List Src),(∀o∈os,o∈os')->C.uY defs os=some ss->xo J ss->
  os.length=ss.length/\(jo J ss).length=os.length/\∀i,i<(jo J ss).length->RD C.ν x ((os.map ev).getD i undef) ((jo J ss).getD i .any)
 |[],ss,_,h,_=>by simp[CC.uY]at h;subst h;simp[jo]
 |o::r,ss,hm,h,hk=>by
  simp only[CC.uY]at h;split at h
  .rename_i a l h1 h2;simp only[bh]at h;subst h;simp only[xo]at hk;obtain⟨b1,b2,b3⟩:=iK hρ r l (fun o ho=>hm o (.tail _ ho)) h2 hk.2;refine⟨by simp[b1],by simp[jo,b2],fun i hi=>?_⟩;cases i with
   |zero=>simpa[jo]using hρ o (hm o (.head _)) a h1 hk.1
   |succ i=>simpa[jo]using b3 i (by simpa[jo]using hi)
  .cases h
def AQ (off:Nat):∀(new:List Value) (st:Nat) (acc:Array Value),off+st+new.length<=acc.size->
  ((new.zipIdx st).foldl (fun cs (c,j)=>cs.setIfInBounds (off+j) c) acc).size=acc.size/\
  ∀q,((new.zipIdx st).foldl (fun cs (c,j)=>cs.setIfInBounds (off+j) c) acc)[q]? =if off+st<=q/\q<off+st+new.length then new[q-(off+st)]? else acc[q]?
 |[],st,acc,_=>⟨aJ,fun q=>cZ⟩
 |c::r,st,acc,hb=>by
  simp only[aP]at hb;obtain⟨h1,h2⟩:=AQ off r (st+1) (acc.setIfInBounds (off+st) c) cZ;refine⟨by simpa[List.zipIdx_cons]using h1,fun q=>?_⟩;rw[List.zipIdx_cons,List.foldl_cons,h2 q]
  grind
def se {os':List Operand}(hρ:xT C defs J ev x os')(place:Nat->Option (Nat×Nat))(len:Nat):∀(ps:List (Nat×Operand)) (ss:List (Nat×Nat×Src)),
  (∀p∈ps,p.2∈os')->C.parts defs place ps=some ss->Di J len ss->∀(cs:Array Value) (ds:List D),cs.size=len->RD C.ν x (.agg cs) (.agg ds)->
  ∃cs',Instr.fill place cs (ps.map fun(i,o)=>(i,ev o))=some cs'/\RD C.ν x (.agg cs') (.agg (AM J ds ss))
 |[],ss,_,h,_,cs,ds,_,hr=>by simp[CC.parts]at h;subst h;exact⟨cs,by simp[Instr.fill],by simpa[AM]using hr⟩
 |(i,o)::r,ss,hm,h,hk,cs,ds,hlen,hr=>by
  simp only[CC.parts]at h;split at h
  .rename_i off n s l h1 h2 h3;split at h
   .cases h
   rename_i hn0;simp only[bh]at h;subst h;simp only[Di]at hk;obtain⟨k1,k2,k3,k4⟩:=hk;have hn:0<n:=ae;have hv:=hρ o (hm _ (.head _)) s h2 k1;obtain⟨c1,c2⟩:=hv.cells ae;have hsz:(ev o).cells.size=n:=ae;cases hr with
   |agg _ _ hl hone hh=>
   let cs1:Array Value:=((ev o).cells.toList.zipIdx 0).foldl (fun cs (c,j)=>cs.setIfInBounds (off+j) c) cs
   have harr:(ev o).cells.zipIdx.foldl (fun cs (c,j)=>cs.setIfInBounds (off+j) c) cs=cs1:=by
    rw[<-Array.foldl_toList];simp[cs1]
   have hcs1:=harr;obtain⟨hsz1,hgq⟩:=AQ off (ev o).cells.toList 0 cs cZ;have hget:∀q,q<cs.size->cs1.getD q undef=if q<off then cs.getD q undef else if q<off+n then(ev o).cells.getD (q-off) undef else cs.getD q undef:=by
    intro q hq;have:=hgq q;rw[<-cC,<-cC cs,<-cC (ev o).cells];simp only[List.getD,Array.getElem?_toList];rw[show cs1[q]? =_ from this];simp only[Array.length_toList,hsz,Nat.add_zero];by_cases q1:q<off
    .rw[aw q1,ak ae]
    .rw[ak q1];by_cases q2:q<off+n
     .rw[aw q2,aw ae];simp
     .rw[ak q2,ak ae]
   have hsz1:cs1.size=cs.size:=hsz1;have hdlen:(over ds off (J s).d.cells).length=ds.length:=by simp[over];omega
   have hdget:∀q,q<ds.length->(over ds off (J s).d.cells).getD q .any=if q<off then ds.getD q .any else if q<off+n then(J s).d.cells.getD (q-off) .any else ds.getD q .any:=by
    intro q hq;simp only[over,List.getD,List.getElem?_append,eu];by_cases q1:q<off
    .rw[aw ae,aw q1];simp[List.getElem?_take,q1]
    .rw[ak ae,ak q1,show q-min off ds.length=q-off by omega];by_cases q2:q<off+n
     .rw[aw q2,aw ae]
     .rw[ak q2,ak ae];simp only[List.getElem?_drop];congr 3;omega
   have hr1:RD C.ν x (.agg cs1) (.agg (over ds off (J s).d.cells)):=by
    refine .agg _ _ ae (fun q hq=>?_) (fun q hq=>?_)
    .rw[hdlen]at hq;rw[hget q ae];split
     .exact hone q hq
     .split
      .exact(c2 (q-off) ae).1
      .exact hone q hq
    .rw[hdlen]at hq;rw[hget q ae,hdget q hq];split
     .exact hh q hq
     .split
      .exact(c2 (q-off) ae).2
      .exact hh q hq
   obtain⟨cs',g1,g2⟩:=se hρ place len r l (fun p hp=>hm p (.tail _ hp)) h3 k4 cs1 _ ae hr1;refine⟨cs', ?_,by simpa[AM]using g2⟩;simp only[List.map_cons,Instr.fill,h1];rw[ak (by simp[hsz];omega),hcs1];exact g1
  .cases h
end
section
variable {ν:List (Nat×Nat)} {x:X} {P:Program}
def jH:∀(ks:List CK) (ds:List D),gN ks ds->ds.length=ks.length
 |[],[],_=>rfl
 |[],_::_,h=>by simp[gN]at h
 |_::_,[],h=>by simp[gN]at h
 |c::r,d::ds,h=>by have:=jH r ds (by simp[gN]at h;exact h.2);simp;omega
def k9:∀(a b:List CK) (ds:List D),gN (a++b) ds->gN a (ds.take a.length)/\gN b (ds.drop a.length)
 |[],b,ds,h=>by simpa[gN]using h
 |c::r,b,[],h=>by simp[gN]at h
 |c::r,b,d::ds,h=>by
  simp only[fD,gN]at h;obtain⟨h1,h2⟩:=k9 r b ds h.2
  grind [gN]
def uk:∀(n:Nat) (ds es:List D),ds.length=es.length->jt ds es=(jt (ds.take n) (es.take n)&&jt (ds.drop n) (es.drop n))
 |0,ds,es,_=>by simp[jt]
 |n+1,[],[],_=>by simp[jt]
 |n+1,[],_::_,h=>by simp at h
 |n+1,_::_,[],h=>by simp at h
 |n+1,d::ds,e::es,h=>by
  simp only[jt,List.take_succ_cons,List.drop_succ_cons];rw[uk n ds es (by simpa using h),Bool.and_assoc]
def GR {c:CK}{d:D}(h:c.fits d):d.cells=[d]/\d.isAgg=false:=by
 cases c<;>cases d<;>simp_all[CK.fits,D.cells,D.isAgg]
def mT {c:CK}{d:D}(h:gN [c] d.cells)(ha:d.isAgg=false):c.fits d:=by
 cases d<;>simp_all[D.cells,D.isAgg,gN]
def tc {ds:List D}{off n:Nat}{ag:Bool}{ks:List CK}(h:gN ks ((ds.drop off).take n))(hn:ag=false->n=1)(hle:off+n<=ds.length):
  (cut ds off n ag).cells=(ds.drop off).take n/\(cut ds off n ag).isAgg=ag:=by
 cases ag
 .have:=hn rfl;subst this;have hlt:off<ds.length:=ae;have e:(ds.drop off).take 1=[ds.getD off .any]:=by
   rw[je hlt];simp[List.getD,hlt,List.take]
  rw[e]at h⊢;cases ks with
  |nil=>simp[gN]at h
  |cons c r=>
   simp only[gN]at h;exact GR h.1
 .exact⟨rfl,rfl⟩
def Je (ν:List (Nat×Nat))(x:X)(P:Program)(n:Nat)(t:TypeId)(ks:List CK):Prop:=
 ∀u v d e (w:World),RD ν x u d->RD ν x v e->d.isAgg=cH P t->e.isAgg=cH P t->gN ks d.cells->gN ks e.cells->
  (Op.equalIn n t u v).run P w=.ok (jt d.cells e.cells) w
def AZ {n:Nat}{t:TypeId}{ks:List CK}(h:hY P n t=some ks)(ha:cH P t=false):ks.length=1:=by
 cases n with
 |zero=>simp[hY]at h
 |succ n=>
  grind [hY,cH]
def vI (n depth:Nat)(ih:∀t ks,hY P depth t=some ks->Je ν x P n t ks)(xs ys:Array Value)(ds es:List D)(h1:RD ν x (.agg xs) (.agg ds))(h2:RD ν x (.agg ys) (.agg es))(w:World):
  ∀(fs:List Field) (off:Nat) (ks:List CK),mZ P (fun t=>hY P depth t) off fs=some ks->off<=ds.length->off<=es.length->gN ks (ds.drop off)->gN ks (es.drop off)->
  (Op.eqFields n xs ys fs).run P w=.ok (jt (ds.drop off) (es.drop off)) w
 |[],off,ks,hk,_,_,f1,f2=>by
  simp[mZ]at hk;subst hk;have a:=jH _ _ f1;have b:=jH _ _ f2;have a':ds.drop off=[]:=mH a;have b':es.drop off=[]:=mH b;rw[a',b'];simp[Op.eqFields,jt]
 |f::fs,off,ks,hk,l1,l2,f1,f2=>by
  simp only[mZ]at hk;split at hk
  .cases hk
  .rename_i hne;have hname:f.name≠ "_" :=fun e=>hne (.inl e)
   have hoff:f.offset=off:=by
    rcases Nat.decEq f.offset off with h|h
    .exact absurd (.inr h) hne
    .exact h
   split at hk
   .rename_i a b ha hb;split at hk
    .rename_i hlen;obtain⟨hlen,hnz,hund⟩:=hlen;simp only[bh]at hk;subst hk;obtain⟨fa1,fb1⟩:=k9 a b _ f1;obtain⟨fa2,fb2⟩:=k9 a b _ f2;have la:=jH _ _ f1;have lb:=jH _ _ f2;simp only[jY,bQ]at la lb;have hag:cH P f.type=false->P.cellsOf f.type=1:=fun e=>by rw[<-hlen];exact AZ ha e
     obtain⟨u,r1,r2⟩:=qg (P:=P) (off:=off) (n:=P.cellsOf f.type) (ag:=cH P f.type) w h1 ae hund rfl rfl ae hag;obtain⟨v,s1,s2⟩:=qg (P:=P) (off:=off) (n:=P.cellsOf f.type) (ag:=cH P f.type) w h2 ae hund rfl rfl ae hag;rw[hlen]at fa1 fa2 fb1 fb2;obtain⟨c1,c2⟩:=tc (ag:=cH P f.type) fa1 hag ae;obtain⟨d1,d2⟩:=tc (ag:=cH P f.type) fa2 hag ae;have he:=ih f.type a ha u v _ _ w r2 s2 c2 d2 (by rw[c1];exact fa1) (by rw[d1];exact fa2);rw[List.drop_drop]at fb1 fb2;have hrest:=vI n depth ih xs ys ds es h1 h2 w fs (off+P.cellsOf f.type) b hb ae ae fb1 fb2;rw[uk (P.cellsOf f.type) (ds.drop off) (es.drop off) cZ];simp only[Op.eqFields,hname,ne_eq,not_false_eq_true,aW,Sem.run_bind,hoff,r1,s1,he,Result.andThen_ok,Sem.run_ite,hrest];rw[c1,d1,List.drop_drop,List.drop_drop];cases jt ((ds.drop off).take (P.cellsOf f.type)) ((es.drop off).take (P.cellsOf f.type))<;>simp
    .cases hk
   .cases hk
def yd (n:Nat)(e:TypeId)(l:List CK)(ih:Je ν x P n e l)(hc:l.length=P.cellsOf e)(hnz:l.length≠0)(hund:(P.underlying e).isNone=false)(hag:cH P e=false->P.cellsOf e=1)
  (xs ys:Array Value) (ds es:List D) (h1:RD ν x (.agg xs) (.agg ds)) (h2:RD ν x (.agg ys) (.agg es)) (w:World):
  ∀(len j:Nat),j*P.cellsOf e<=ds.length->j*P.cellsOf e<=es.length->gN (List.replicate len l).flatten (ds.drop (j*P.cellsOf e))->gN (List.replicate len l).flatten (es.drop (j*P.cellsOf e))->
  (Op.eqItems n e (P.cellsOf e) xs ys (List.range' j len)).run P w=.ok (jt (ds.drop (j*P.cellsOf e)) (es.drop (j*P.cellsOf e))) w
 |0,j,_,_,f1,f2=>by
  have a:=jH _ _ f1;have b:=jH _ _ f2;have a':ds.drop (j*P.cellsOf e)=[]:=mH (by simpa using a);have b':es.drop (j*P.cellsOf e)=[]:=mH (by simpa using b);rw[a',b'];simp[Op.eqItems,jt]
 |len+1,j,l1,l2,f1,f2=>by
  simp only[List.replicate_succ,List.flatten_cons]at f1 f2;obtain⟨fa1,fb1⟩:=k9 _ _ _ f1;obtain⟨fa2,fb2⟩:=k9 _ _ _ f2;have la:=jH _ _ f1;have lb:=jH _ _ f2;simp only[jY,bQ]at la lb;have hj:(j+1)*P.cellsOf e=j*P.cellsOf e+P.cellsOf e:=Nat.succ_mul _ _;obtain⟨u,r1,r2⟩:=qg (P:=P) (off:=j*P.cellsOf e) (n:=P.cellsOf e) (ag:=cH P e) w h1 ae hund rfl rfl ae hag;obtain⟨v,s1,s2⟩:=qg (P:=P) (off:=j*P.cellsOf e) (n:=P.cellsOf e) (ag:=cH P e) w h2 ae hund rfl rfl ae hag;rw[hc]at fa1 fa2 fb1 fb2;obtain⟨c1,c2⟩:=tc (ag:=cH P e) fa1 hag ae;obtain⟨d1,d2⟩:=tc (ag:=cH P e) fa2 hag ae;have he:=ih u v _ _ w r2 s2 c2 d2 (by rw[c1];exact fa1) (by rw[d1];exact fa2);rw[List.drop_drop,<-hj]at fb1 fb2;have hrest:=yd n e l ih hc hnz hund hag xs ys ds es h1 h2 w len (j+1) ae ae fb1 fb2;rw[uk (P.cellsOf e) (ds.drop (j*P.cellsOf e)) (es.drop (j*P.cellsOf e)) cZ];simp only[List.range'_succ,Op.eqItems,Sem.run_bind,r1,s1,he,Result.andThen_ok,Sem.run_ite,hrest];rw[c1,d1,List.drop_drop,List.drop_drop,<-hj];cases jt ((ds.drop (j*P.cellsOf e)).take (P.cellsOf e)) ((es.drop (j*P.cellsOf e)).take (P.cellsOf e))<;>simp
def rM:∀(depth:Nat) (t:TypeId) (ks:List CK),hY P depth t=some ks->∀n,depth<=n->Je ν x P n t ks
 |0,t,ks,h,_,_=>by simp[hY]at h
 |depth+1,t,ks,h,n,hn=>by
  obtain⟨n,rfl⟩:∃k,n=k+1:=⟨n-1,ae⟩
  intro u v d e w r1 r2 a1 a2 f1 f2;simp only[hY]at h;split at h
  .rename_i hu;simp only[bh]at h;subst h;have hag:cH P t=false:=by simp[cH,hu]
   rw[hag]at a1 a2;have g1:=mT f1 a1;have g2:=mT f2 a2;cases d<;>simp only[CK.fits]at g1;cases e<;>simp only[CK.fits]at g2;rw[r1.j6,r2.j6,run_equalIn_bool w n t _ _ hu];simp[D.cells,jt,YY]
  .rename_i k hu;simp only[bh]at h;subst h;have hag:cH P t=false:=by simp[cH,hu]
   rw[hag]at a1 a2;have g1:=mT f1 a1;have g2:=mT f2 a2;cases d<;>simp only[CK.fits]at g1;cases e<;>simp only[CK.fits]at g2;subst g1;subst g2;rw[r1.dX,r2.dX,run_equalIn_int w n t _ _ _ _ hu];simp[D.cells,jt,YY]
  .rename_i hu;simp only[bh]at h;subst h;have hag:cH P t=false:=by simp[cH,hu]
   rw[hag]at a1 a2;have g1:=mT f1 a1;have g2:=mT f2 a2;cases d<;>simp only[CK.fits]at g1;cases e<;>simp only[CK.fits]at g2;rw[r1.ji.1,r2.ji.1,run_equalIn_string w n t _ _ hu];simp[D.cells,jt,YY,ByteArray.toList_eq]
  .rename_i fs hu;split at h
   .cases h
   .rename_i hst;have hag:cH P t=true:=by simp[cH,hu]
    rw[hag]at a1 a2;cases d<;>simp only[D.isAgg,fS]at a1;cases e<;>simp only[D.isAgg,fS]at a2;have hf:P.fieldsOf t=fs:=by simp[Program.fieldsOf,hu]
    cases r1 with
    |agg xs _ p1 p2 p3=>
     cases r2 with
     |agg ys _ q1 q2 q3=>
      rw[run_equalIn_struct w n t xs ys (by rw[hf];exact hu) (by simpa using hst),hf];have:=vI (ν:=ν) (x:=x) n depth (fun t ks hk=>rM depth t ks hk n ae) xs ys _ _ (.agg xs _ p1 p2 p3) (.agg ys _ q1 q2 q3) w fs.toList 0 ks h aJ aJ (by simpa[D.cells]using f1) (by simpa[D.cells]using f2);simpa[D.cells]using this
  .rename_i len e' hu;split at h
   .rename_i l hl;split at h
    .rename_i hc;obtain⟨hc,hnz,hund⟩:=hc;simp only[bh]at h;subst h;have hag:cH P t=true:=by simp[cH,hu]
     rw[hag]at a1 a2;cases d<;>simp only[D.isAgg,fS]at a1;cases e<;>simp only[D.isAgg,fS]at a2;obtain⟨i,hi,_⟩:=pI (P:=P) (t:=e') ae;cases r1 with
     |agg xs _ p1 p2 p3=>
      cases r2 with
      |agg ys _ q1 q2 q3=>
       rw[run_equalIn_array w n xs ys hu hi,List.range_eq_range'];have:=yd (ν:=ν) (x:=x) n e' l (rM depth e' l hl n ae) hc hnz hund (fun e=>by rw[<-hc];exact AZ hl e) xs ys _ _ (.agg xs _ p1 p2 p3) (.agg ys _ q1 q2 q3) w len 0 aJ aJ (by simpa[D.cells]using f1) (by simpa[D.cells]using f2);simpa[D.cells]using this
    .cases h
   .cases h
  .cases h
end
end
end Go.Abs
