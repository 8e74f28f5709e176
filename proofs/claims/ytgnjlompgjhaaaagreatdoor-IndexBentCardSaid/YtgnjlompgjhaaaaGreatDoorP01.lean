/- A part of the proofs. -/
import Derived.Attr
import Derived.ChangeKeysEq
import Derived.Deep.AppendSrc
import Derived.KernelRfl
import Derived.Test.YtgnjlompgjhaaaaGreatDoorProg
import Derived.WalkKit
import GoSem.Dispatch
import GoSem.Step
set_option linter.all false
set_option maxRecDepth 60000
section
namespace Go.Abs
def aP:=@List.length_cons
def a8:=@List.length_nil
def bc:=@decide_eq_false_iff_not
def aK:=@decide_eq_true_eq
def bh:=@Option.some.injEq
def ak:=@if_neg
def aw:=@if_pos
def bB:=@Bool.and_eq_true
def bP:=@List.length_append
def bK:=@Bool.not_eq_false'
def bd:=@Bool.not_eq_true'
def aL:=@Nat.le_refl
def bM:=@Option.some.inj
def bN:=@List.length_map
def aX:=@if_false
def aW:=@if_true
def bY:=@List.drop_zero
def b9:=@decide_eq_true
def bQ:=@Nat.zero_add
def dd:=@Bool.or_eq_false_iff
def dT:=@List.forall_mem_cons
def dy:=@Bool.and_eq_false_iff
def dZ:=@Option.map_eq_some_iff
def cG:=@decide_eq_false
def cM:=@Bool.or_eq_true
def ed:=@List.take_of_length_le
def er:=@List.length_take
def eu:=@List.append_assoc
def cI:=@List.mem_singleton
def gy:=@Bool.false_eq_true
def eG:=@Prod.mk.injEq
def fk:=@Nat.mul_le_mul_right
def dm:=@Nat.le_trans
def fm:=@Nat.lt_of_lt_of_le
def fe:=@List.nil_append
def mh:=@List.eq_nil_of_length_eq_zero
def iW:=@List.drop_eq_getElem_cons
def fB:=@List.cons_append
def ca:=@List.mem_cons
def cr:=@true_and
def ct:=@and_true
def cS:=@false_and
def cW:=@and_false
def cN:=@and_self
def bR:=@Eq.trans
def aj:=@congrArg
def lC:=@List.drop_eq_nil_of_le
def gN:=@List.append_nil
def mi:=@List.suffix_refl
def jO:=@List.length_drop
def eI:=@List.not_mem_nil
def hX:=@UInt8.toNat_inj
def jt:=@List.getD_cons_zero
def gz:=@Bool.true_and
def nb:=@Bool.and_true
def ey:=@List.mem_map
def oD:=@List.cons.injEq
def qH:=@List.length_eq_zero_iff
def kl:=@List.mem_of_mem_take
def gO:=@decide_eq_decide
def hY:=@Nat.lt_or_ge
def ae {p:Prop}(h:p:=by omega):p:=h
def cb {p:Prop}(h:p:=by simp only[List.length_cons,List.length_nil];omega):p:=h
def aF {p:Prop}(h:p:=by decide):p:=h
def oE {p:Prop}(h:p:=by kernel_rfl):p:=h
def aJ {p:Prop}(h:p:=by simp):p:=h
def dE {p:Prop}(h:p:=by dsimp only;omega):p:=h
def cY {p:Prop}(h:p:=by simp;omega):p:=h
def aQ {p:Prop}(h:p:=by exact rfl):p:=h
end Go.Abs
def cO {α:Type}{a:Option α}{b c:α}(h:a=some b)(e:b=c:=by kernel_rfl):a=some c:=h.trans (congrArg some e)
end
namespace Go.Abs
inductive D where
 |any
 |bool (b:Bool)
 |int (k:IntKind) (n:Int)
 |str (s:List UInt8)
 |agg (cs:List D)
 |tup (ds:List D)
 |bq
 |sl (k:Nat) (es:List D)
 |ref (k:Nat) (es:List D) (i o:Nat)
 |ptr (l k i o:Nat)
 |own (l k i n:Nat)
 |nilp
 |fn (f:Nat) (caps:List D)
 |nilf
 |it (l:Nat)
 deriving Inhabited
inductive Src where
 |s (n:Nat)
 |l (p:Nat)
 |c (d:D)
 deriving Inhabited
inductive Sh where
 |a
 |sl (k:Nat) (cs:List Sh)
 |pt (cs:List Sh)
 deriving Inhabited
inductive CK where
 |b|i (k:IntKind)|s
 deriving Inhabited
inductive aV where
 |mv (x:Src)
 |pick (c a b:Src)
 |box (k:Nat) (x:Src)
 |build (z:List D) (parts:List (Nat×Nat×Src))
 |bsl (k:Nat) (z:D) (n:Nat) (parts:List (Nat×Src))
 |ld (n:Nat) (ag:Bool) (p:Src)
 |st (n:Nat) (p v:Src)
 |nilck (x:Src)
 |bin (op:BinOp) (x y:Src)
 |eqA (neg ag:Bool) (ks:List CK) (x y:Src)
 |un (op:UnOp) (x:Src)
 |cvi (k:IntKind) (x:Src)
 |mn (x y:Src)
 |s2b (x:Src)
 |b2s (x:Src)
 |i2s (x:Src)
 |mkf (f:Nat) (caps:List Src)
 |mks (k:Nat) (z:D) (ln cp:Src)
 |slS (x:Src) (lo hi:Option Src)
 |slA (k:Nat) (x:Src) (lo hi:Option Src)
 |slX (k:Nat) (x hi mx:Src)
 |fa (off:Nat) (p:Src)
 |fld (off n:Nat) (ag:Bool) (x:Src)
 |ia (k:Nat) (x i:Src)
 |iaP (n k:Nat) (x i:Src)
 |ixS (x i:Src)
 |ixA (n k:Nat) (ag:Bool) (x i:Src)
 |ext (x:Src) (i:Nat)
 |len (x:Src)
 |lenS (x:Src)
 |app (k:Nat) (x y:Src)
 |call (f:Nat) (args:List Src) (sh:List (List Sh))
 |callv (f:Src) (args:List Src) (sh:List (List Sh))
 |callM (f:Nat) (args:List Src)
 |callvM (f:Src) (args:List Src)
 |ldI (n:Nat) (ag:Bool) (p:Src)
 |ldU (n:Nat) (ag:Bool) (p:Src)
 |callF (f:Nat) (r:Src) (args:List Src) (sh:List (List Sh))
 |appN (k:Nat) (y:Src)
 |bslI (k:Nat) (z:D) (n:Nat) (parts:List (Nat×Src))
 |xU (x:Src)
 |FL (x:Src)
 |mkB
 |lkp (x k:Src)
 |RC (x:Src)
 |isNl (x:Src)
 deriving Inhabited
structure GI where
 i:aV
 g:Option (Nat×Bool)
 deriving Inhabited
inductive AC where
 |reg (draw:Bool) (ins:List GI) (cm:List (Nat×Nat))
 |seq (a b:AC)
 |cond (c:Src) (a b:AC)
 |block (id:Nat) (a:AC)
 |loop (a:AC)
 |exit (id:Nat)
 |ret
 |skip
 deriving Inhabited
structure NB where
 s:Nat
 mem:Option (Nat×Bool)
 deriving Inhabited
structure aC where
 np:Nat
 ns:Nat
 res:List NB
 rsh:List (List Sh)
 body:AC
 deriving Inhabited
@[go_sem] def D.cells:D->List D
 | .agg cs=>cs
 | .any=>[]
 | .tup _=>[]
 |d=>[d]
@[go_sem] def D.isBool:D->Bool
 | .bool _=>true
 |_=>false
@[go_sem] def D.isAgg:D->Bool
 | .agg _=>true
 |_=>false
mutual
@[go_sem] def D.bI:D->Bool
 | .agg cs=>bG cs
 | .tup cs=>bG cs
 | .fn _ cs=>bG cs
 | .ptr .. =>false
 | .own .. =>false
 | .it _=>false
 |_=>true
@[go_sem] def bG:List D->Bool
 |[]=>true
 |d::r=>d.bI&&bG r
end
mutual
@[go_sem] def D.fQ:D->Bool
 | .agg cs=>od cs
 | .tup cs=>od cs
 | .fn n cs=>!(Nat.beq n 2000000)&&od cs
 | .ptr .. =>false
 | .own .. =>false
 | .it _=>false
 | .sl .. =>false
 | .ref .. =>false
 |_=>true
@[go_sem] def od:List D->Bool
 |[]=>true
 |d::r=>d.fQ&&od r
end
inductive bW where
 |buf (k:Nat) (es:List D)
 |iter (s:List UInt8) (pos:Nat)
 |row (s:List UInt8)
 |bld (o:Option Nat) (n:Nat) (u:Bool)
 deriving Inhabited
structure St where
 nx:Nat
 m:List (Nat×bW)
@[go_sem] def look:List (Nat×bW)->Nat->Option bW
 |[],_=>none
 |(a,b)::r,l=>if a=l then some b else look r l
@[go_sem] def dG:List (Nat×bW)->Nat->bW->List (Nat×bW)
 |[],l,b=>[(l,b)]
 |(a,x)::r,l,b=>if a=l then(a,b)::r else(a,x)::dG r l b
@[go_sem] def cH:List (Nat×bW)->Nat->List (Nat×bW)
 |[],_=>[]
 |(a,x)::r,l=>if a=l then cH r l else(a,x)::cH r l
structure cg where
 ok:Bool
 d:D
@[go_sem] def cg.un:cg:=⟨true,.any⟩
@[go_sem] def Src.ev (env vs:List cg):Src->cg
 | .s n=>env.getD n .un
 | .l p=>vs.getD p .un
 | .c d=>⟨true,d⟩
structure Ctx where
 pre:Nat->List D->Prop
 val:Nat->List D->D
 tr:Nat->List D->St->(D->St->Prop)->Prop
 fp:Nat->D->List D->Prop
 fv:Nat->D->List D->D
 fs:Nat->D->List D->D
 lo:Nat
@[go_sem] def bC (m:List (Nat×bW))(l:Nat):List D:=match look m l with
 |some (.buf _ es)=>es
 |_=>[]
@[go_sem] def fX (m:List (Nat×bW))(l k n:Nat):Prop:=match look m l with
 |some (.buf k' es)=>k=k'/\n<=es.length
 |_=>False
@[go_sem] def qS (m:List (Nat×bW)):D->List D
 | .sl _ es=>es
 | .own l _ i n=>((bC m l).drop i).take n
 | .str s=>s.map fun b=>.int .u8 b.toNat
 |_=>[]
@[go_sem] def Em (m:List (Nat×bW))(k:Nat):D->Prop
 | .sl k' _=>k'=k
 | .own l k' i n=>k'=k/\fX m l k (i+n)
 | .str _=>k=1
 | .bq=>True
 |_=>False
mutual
@[go_sem] def pR (m:List (Nat×bW)):Sh->D->D
 | .a,d=>match d with
  | .bq=>.sl 0 []
  |d=>d
 | .sl k cs,d=>match d with
  | .bq=>.sl k []
  | .own l k' i c=>.sl k' ((((bC m l).drop i).take c).map (kH m cs))
  |d=>d
 | .pt cs,d=>match d with
  | .ptr l k i o=>.ref k ((bC m l).map (kH m cs)) i o
  |d=>d
@[go_sem] def kH (m:List (Nat×bW)):List Sh->D->D
 |[],d=>d
 |s::r,d=>match d with
  | .agg cs=>.agg (pS m (s::r) cs)
  |d=>pR m s d
@[go_sem] def pS (m:List (Nat×bW)):List Sh->List D->List D
 |[],ds=>ds
 |s::r,ds=>match ds with
  |[]=>[]
  |d::ds=>pR m s d::pS m r ds
end
mutual
@[go_sem] def mN (m:List (Nat×bW)):Sh->D->Prop
 | .a,d=>d.bI=true
 | .sl _ cs,d=>match d with
  | .own l k' i c=>fX m l k' (i+c)/\∀e∈((bC m l).drop i).take c,jo m cs e
  |d=>d.bI=true
 | .pt cs,d=>match d with
  | .ptr l k _ _=>fX m l k 0/\∀e∈bC m l,jo m cs e
  |d=>d.bI=true
@[go_sem] def jo (m:List (Nat×bW)):List Sh->D->Prop
 |[],d=>d.bI=true
 |s::r,d=>match d with
  | .agg cs=>nu m (s::r) cs
  |d=>mN m s d
@[go_sem] def nu (m:List (Nat×bW)):List Sh->List D->Prop
 |[],ds=>bG ds=true
 |s::r,ds=>match ds with
  |[]=>True
  |d::ds=>mN m s d/\nu m r ds
end
@[go_sem] def jZ (op:BinOp):D->D->D
 | .int k a,.int _ b=>match op with
  | .add=>.int k (k.wrap (a+b))
  | .sub=>.int k (k.wrap (a-b))
  | .mul=>.int k (k.wrap (a*b))
  | .quo=>.int k (k.wrap (a.tdiv b))
  | .rem=>.int k (a.tmod b)
  | .eql=>.bool (a==b)| .neq=>.bool (a !=b)| .lss=>.bool (decide (a<b))| .leq=>.bool (decide (a<=b))| .gtr=>.bool (decide (b<a))| .geq=>.bool (decide (b<=a))
  | .shl=>.int k (k.wrap (a*2^(min b.toNat k.bits)))
  | .shr=>.int k (a.fdiv (2^(min b.toNat k.bits)))
  | .and=>.int k (k.wrap (((BitVec.ofInt k.bits a)&&&(BitVec.ofInt k.bits b)).toNat))
  | .or=>.int k (k.wrap (((BitVec.ofInt k.bits a) |||(BitVec.ofInt k.bits b)).toNat))
  | .xor=>.int k (k.wrap (((BitVec.ofInt k.bits a)^^^(BitVec.ofInt k.bits b)).toNat))
  | .andNot=>.int k (k.wrap (((BitVec.ofInt k.bits a)&&& ~~~(BitVec.ofInt k.bits b)).toNat))
 | .str a,.str b=>match op with
  | .add=>.str (a++b)
  | .eql=>.bool (a==b)| .neq=>.bool (!(a==b))| .lss=>.bool (Op.bytesLess a b)| .geq=>.bool (!(Op.bytesLess a b))
  | .leq=>.bool (Op.bytesLess a b ||a==b)| .gtr=>.bool (!(Op.bytesLess a b ||a==b))
  |_=>.any
 |_,_=>.any
@[go_sem] def jI (op:BinOp):D->D->Prop
 | .int k a,.int k' b=>match op with
  | .quo=>k=k'/\b≠0
  | .rem=>k=k'/\b≠0
  | .shl=>0<=b
  | .shr=>0<=b
  |_=>k=k'
 | .str a,.str b=>match op with
  | .add=>a.length+b.length<=9223372036854775807
  | .eql=>True| .neq=>True| .lss=>True| .geq=>True| .leq=>True| .gtr=>True
  |_=>False
 |_,_=>False
@[go_sem] def D.pick (b:Bool):D->D->D
 | .bool x,.bool y=>.bool (bif b then x else y)
 |x,y=>bif b then x else y
@[go_sem] def cut (cs:List D)(o n:Nat)(ag:Bool):D:=bif ag then .agg ((cs.drop o).take n)else cs.getD o .any
@[go_sem] def oF (e:D)(k n o:Nat)(ag:Bool):D:=bif (n==k)&&(e.isAgg==ag)then e else cut e.cells o n ag
@[go_sem] def FK (m:List (Nat×bW))(n:Nat)(ag:Bool):D->D
 | .ptr l k i o=>oF ((bC m l).getD i .any) k n o ag
 | .ref k es i o=>oF (es.getD i .any) k n o ag
 |_=>.any
@[go_sem] def GQ (m:List (Nat×bW))(n:Nat):D->Prop
 | .ptr l k i o=>fX m l k (i+1)/\o+n<=k
 | .ref k es i o=>i<es.length/\o+n<=k
 |_=>False
mutual
@[go_sem] def Yq:D->D->Bool
 | .bool a,.bool b=>a==b
 | .int _ a,.int _ b=>a==b
 | .str a,.str b=>a==b
 |_,_=>false
@[go_sem] def jk:List D->List D->Bool
 |[],[]=>true
 |a::r,b::s=>Yq a b&&jk r s
 |_,_=>false
end
@[go_sem] def CK.fits:CK->D->Prop
 | .b,.bool _=>True
 | .i k,.int k' _=>k'=k
 | .s,.str _=>True
 |_,_=>False
@[go_sem] def gE:List CK->List D->Prop
 |[],[]=>True
 |c::r,d::s=>c.fits d/\gE r s
 |_,_=>False
@[go_sem] def over (cs:List D)(o:Nat)(new:List D):List D:=cs.take o++(new++cs.drop (o+new.length))
@[go_sem] def vD (e:D)(k n o:Nat)(v:D):D:=bif (n==k)&&(v.isAgg ||!e.isAgg)then v else .agg (over e.cells o v.cells)
@[go_sem] def An (J:Src->cg)(cs:List D):List (Nat×Nat×Src)->List D
 |[]=>cs
 |(o,_,s)::r=>An J (over cs o (J s).d.cells) r
@[go_sem] def CT (J:Src->cg)(len:Nat):List (Nat×Nat×Src)->Prop
 |[]=>True
 |(o,n,s)::r=>(J s).ok=true/\(J s).d.cells.length=n/\o+n<=len/\CT J len r
@[go_sem] def nq (J:Src->cg)(es:List D):List (Nat×Src)->List D
 |[]=>es
 |(i,s)::r=>nq J (es.set i (J s).d) r
@[go_sem] def tN (J:Src->cg)(k n:Nat):List (Nat×Src)->Prop
 |[]=>True
 |(i,s)::r=>i<n/\(J s).ok=true/\(J s).d.cells.length=k/\tN J k n r
@[go_sem] def D.nat:D->Nat
 | .int _ n=>n.toNat
 |_=>0
@[go_sem] def e8 (o:Option D)(dflt:Nat):Nat:=match o with
 |some (.int _ n)=>n.toNat
 |_=>dflt
@[go_sem] def py (o:Option D)(hi:Nat):Prop:=match o with
 |none=>True
 |some (.int _ n)=>0<=n/\n<=hi
 |_=>False
@[go_sem] def O1 (J:Src->cg):Option Src->Prop
 |none=>True
 |some s=>(J s).ok=true
@[go_sem] def dO (J:Src->cg):Option Src->Option D
 |none=>none
 |some s=>some (J s).d
@[go_sem] def xP (J:Src->cg):List Src->Prop
 |[]=>True
 |s::r=>(J s).ok=true/\xP J r
@[go_sem] def jj (J:Src->cg):List Src->List D
 |[]=>[]
 |s::r=>(J s).d::jj J r
@[go_sem] def D.u8:D->UInt8
 | .int _ n=>UInt8.ofNat n.toNat
 |_=>0
@[go_sem] def D.OC:D->Prop
 | .int k n=>k=.u8/\0<=n/\n<256
 |_=>False
def vZ (s:List UInt8)(pos:Nat):Nat×Nat:=Utf8.decode ⟨⟨s⟩⟩ pos
def Tp (n:Int):List UInt8:=(Utf8.encode n).data.toList
@[go_sem] def je (m:List (Nat×bW)):List (List Sh)->List D->List D
 |_,[]=>[]
 |[],d::r=>kH m [.a] d::je m [] r
 |s::ss,d::r=>kH m s d::je m ss r
@[go_sem] def kr (m:List (Nat×bW)):List (List Sh)->List D->Prop
 |_,[]=>True
 |[],d::r=>jo m [.a] d/\kr m [] r
 |s::ss,d::r=>jo m s d/\kr m ss r
@[go_sem] def RW (s:List UInt8):List D->D
 | .str a::f::r=>bif a==s then f else RW s r
 |_=>.nilf
@[go_sem] def YJ:List D->Prop
 |[]=>True
 | .str _::_::r=>YJ r
 |_=>False
@[go_sem] def aV.val (Y:Ctx)(J:Src->cg)(m:List (Nat×bW))(L:Nat):aV->D
 | .mv x=>(J x).d
 | .pick c a b=>match(J c).d with| .bool t=>D.pick t (J a).d (J b).d|_=>.any
 | .box k _=>.ptr L k 0 0
 | .build z ps=>.agg (An J z ps)
 | .bsl k _ n _=>.own L k 0 n
 | .ld n ag p=>FK m n ag (J p).d
 | .st _ _ _=>.any
 | .nilck x=>(J x).d
 | .bin op x y=>jZ op (J x).d (J y).d
 | .eqA neg _ _ x y=>.bool (bif neg then !(jk (J x).d.cells (J y).d.cells)else jk (J x).d.cells (J y).d.cells)
 | .un op x=>match op,(J x).d with
  | .not,.bool b=>.bool (!b)
  | .neg,.int k n=>.int k (k.wrap (0-n))
  |_,_=>.any
 | .cvi k x=>match(J x).d with| .int _ n=>.int k (k.wrap n)|_=>.any
 | .mn x y=>match(J x).d,(J y).d with| .int k a,.int _ b=>.int k (if b<a then b else a)|_,_=>.any
 | .s2b x=>match(J x).d with| .str s=>.own L 1 0 s.length|_=>.any
 | .b2s x=>.str ((qS m (J x).d).map D.u8)
 | .i2s x=>match(J x).d with| .int _ n=>.str (Tp n)|_=>.any
 | .mkf f caps=>.fn f (jj J caps)
 | .mks k _ ln _=>.own L k 0 (J ln).d.nat
 | .slS x lo hi=>match(J x).d with
  | .str s=>.str ((s.take (e8 (dO J hi) s.length)).drop (e8 (dO J lo) 0))
  |_=>.any
 | .slA _ x lo hi=>match(J x).d with
  | .sl k es=>.sl k ((es.take (e8 (dO J hi) es.length)).drop (e8 (dO J lo) 0))
  | .own l k i n=>.own l k (i+e8 (dO J lo) 0) (e8 (dO J hi) n-e8 (dO J lo) 0)
  | .bq=>.bq
  |_=>.any
 | .slX _ x hi _=>match(J x).d,(J hi).d with
  | .sl k es,.int _ h=>.sl k (es.take h.toNat)
  | .own l k i _,.int _ h=>.own l k i h.toNat
  | .bq,_=>.bq
  |_,_=>.any
 | .fa off p=>match(J p).d with
  | .ptr l k i o=>.ptr l k i (o+off)
  | .ref k es i o=>.ref k es i (o+off)
  |_=>.any
 | .fld off n ag x=>cut (J x).d.cells off n ag
 | .ia _ x i=>match(J x).d,(J i).d with
  | .sl k es,.int _ n=>.ref k es n.toNat 0
  | .own l k j _,.int _ n=>.ptr l k (j+n.toNat) 0
  |_,_=>.any
 | .iaP _ k x i=>match(J x).d,(J i).d with
  | .ptr l k' j o,.int _ n=>.ptr l k' j (o+n.toNat*k)
  | .ref k' es j o,.int _ n=>.ref k' es j (o+n.toNat*k)
  |_,_=>.any
 | .ixS x i=>match(J x).d,(J i).d with
  | .str s,.int _ n=>.int .u8 (s.getD n.toNat 0).toNat
  |_,_=>.any
 | .ixA _ k ag x i=>match(J i).d with
  | .int _ n=>cut (J x).d.cells (n.toNat*k) k ag
  |_=>.any
 | .ext x i=>match(J x).d with| .tup ds=>ds.getD i .any|_=>.any
 | .len x=>match(J x).d with
  | .sl _ es=>.int .i64 es.length
  | .own _ _ _ n=>.int .i64 n
  | .bq=>.int .i64 0
  |_=>.any
 | .lenS x=>match(J x).d with
  | .str s=>.int .i64 s.length
  |_=>.any
 | .app k x y=>match(J x).d with
  | .own _ _ _ n=>.own L k 0 (n+(qS m (J y).d).length)
  |_=>.own L k 0 (qS m (J y).d).length
 | .call f args sh=>Y.val f (je m sh (jj J args))
 | .callv f args sh=>match(J f).d with
  | .fn n caps=>Y.val n (je m sh (jj J args++caps))
  |_=>.any
 | .callM _ _=>.any
 | .callvM _ _=>.any
 | .ldU n ag p=>FK m n ag (J p).d
 | .ldI n ag p=>match(J p).d with
  | .ref k es i o=>oF (es.getD i .any) k n o ag
  |_=>.any
 | .appN k y=>.own L k 0 (qS m (J y).d).length
 | .bslI k z n ps=>.sl k (nq J (List.replicate n z) ps)
 | .callF f r args sh=>match(J r).d with
  | .ptr l _ _ _=>Y.fv f ((bC m l).getD 0 .any) (je [] sh (jj J args))
  |_=>.any
 | .xU _=>.it L
 | .mkB=>.ptr L 2 0 0
 | .lkp x k=>match(J x).d,(J k).d with| .fn _ es,.str s=>RW s es|_,_=>.any
 | .RC x=>match(J x).d with| .nilf=>.bool true|_=>.bool false
 | .isNl _=>.any
 | .FL x=>match(J x).d with
  | .it l=>match look m l with
   |some (.iter s pos)=>bif decide (pos<s.length)then .tup [.bool true,.int .i64 pos,.int .i32 (vZ s pos).1]else .tup [.bool false]
   |_=>.any
  |_=>.any
@[go_sem] def tG (args:List D)(r:D):Bool:=bG args ||r.fQ
@[go_sem] def aV.ez (Y:Ctx)(J:Src->cg)(m:List (Nat×bW)):aV->Prop
 | .mv x=>(J x).ok=true
 | .pick c a b=>(J c).ok=true/\match(J c).d with
  | .bool t=>(t=true->(J a).ok=true)/\(t=false->(J b).ok=true)
  |_=>False
 | .box k x=>(J x).ok=true/\(J x).d.cells.length=k
 | .build z ps=>CT J z.length ps
 | .bsl k z n ps=>z.cells.length=k/\tN J k n ps
 | .ld n _ p=>(J p).ok=true/\GQ m n (J p).d
 | .st n p v=>(J p).ok=true/\(J v).ok=true/\(J v).d.cells.length=n/\match(J p).d with
  | .ptr l k i o=>fX m l k (i+1)/\o+n<=k
  |_=>False
 | .nilck x=>(J x).ok=true/\match(J x).d with| .ptr .. =>True| .ref .. =>True|_=>False
 | .bin op x y=>(J x).ok=true/\(J y).ok=true/\jI op (J x).d (J y).d
 | .eqA _ ag ks x y=>(J x).ok=true/\(J y).ok=true/\(J x).d.isAgg=ag/\(J y).d.isAgg=ag/\gE ks (J x).d.cells/\gE ks (J y).d.cells
 | .un op x=>(J x).ok=true/\match op,(J x).d with
  | .not,.bool _=>True
  | .neg,.int _ _=>True
  |_,_=>False
 | .cvi _ x=>(J x).ok=true/\match(J x).d with| .int _ _=>True|_=>False
 | .mn x y=>(J x).ok=true/\(J y).ok=true/\match(J x).d,(J y).d with| .int _ _,.int _ _=>True|_,_=>False
 | .s2b x=>(J x).ok=true/\match(J x).d with| .str _=>True|_=>False
 | .b2s x=>(J x).ok=true/\(match(J x).d with| .str _=>False|_=>True)/\Em m 1 (J x).d/\∀e∈qS m (J x).d,e.OC
 | .i2s x=>(J x).ok=true/\match(J x).d with| .int _ _=>True|_=>False
 | .mkf _ caps=>xP J caps
 | .mks k z ln cp=>(J ln).ok=true/\(J cp).ok=true/\z.cells.length=k/\match(J ln).d,(J cp).d with
  | .int _ n,.int _ c=>0<=n/\n<=c/\c<=1073741824
  |_,_=>False
 | .slS x lo hi=>(J x).ok=true/\O1 J lo/\O1 J hi/\match(J x).d with
  | .str s=>py (dO J hi) s.length/\py (dO J lo) (e8 (dO J hi) s.length)
  |_=>False
 | .slA k x lo hi=>(J x).ok=true/\O1 J lo/\O1 J hi/\match(J x).d with
  | .sl k' es=>k'=k/\py (dO J hi) es.length/\py (dO J lo) (e8 (dO J hi) es.length)
  | .own _ k' _ n=>k'=k/\py (dO J hi) n/\py (dO J lo) (e8 (dO J hi) n)
  | .bq=>py (dO J hi) 0/\py (dO J lo) 0
  |_=>False
 | .slX k x hi mx=>(J x).ok=true/\(J hi).ok=true/\(J mx).ok=true/\match(J hi).d,(J mx).d with
  | .int _ h,.int _ m=>0<=h/\h<=m/\(match(J x).d with
    | .sl k' es=>k'=k/\m<=es.length
    | .own _ k' _ n=>k'=k/\m<=n
    | .bq=>m=0
    |_=>False)
  |_,_=>False
 | .fa off p=>(J p).ok=true/\match(J p).d with| .ptr .. =>True| .ref .. =>True|_=>False
 | .fld off n ag x=>(J x).ok=true/\match(J x).d with| .agg cs=>off+n<=cs.length/\(ag=false->n=1)|_=>False
 | .ia k x i=>(J x).ok=true/\(J i).ok=true/\match(J x).d,(J i).d with
  | .sl k' es,.int _ n=>k'=k/\0<=n/\n<es.length
  | .own _ k' _ c,.int _ n=>k'=k/\0<=n/\n<c
  |_,_=>False
 | .iaP n k x i=>(J x).ok=true/\(J i).ok=true/\match(J x).d,(J i).d with
  | .ptr ..,.int _ c=>0<=c/\c<n
  | .ref ..,.int _ c=>0<=c/\c<n
  |_,_=>False
 | .ixS x i=>(J x).ok=true/\(J i).ok=true/\match(J x).d,(J i).d with
  | .str s,.int _ n=>0<=n/\n<s.length
  |_,_=>False
 | .ixA n k ag x i=>(J x).ok=true/\(J i).ok=true/\(ag=false->k=1)/\match(J x).d,(J i).d with
  | .agg cs,.int _ c=>0<=c/\c<n/\cs.length=n*k
  |_,_=>False
 | .ext x i=>(J x).ok=true/\match(J x).d with| .tup ds=>i<ds.length|_=>False
 | .len x=>(J x).ok=true/\match(J x).d with| .sl _ _=>True| .own .. =>True| .bq=>True|_=>False
 | .lenS x=>(J x).ok=true/\match(J x).d with| .str _=>True|_=>False
 | .app k x y=>(J x).ok=true/\(J y).ok=true/\Em m k (J y).d/\match(J x).d with
  | .own l k' i n=>k'=k/\fX m l k (i+n)/\n+(qS m (J y).d).length<=1073741824
  | .bq=>(qS m (J y).d).length<=1073741824
  |_=>False
 | .call f args sh=>xP J args/\kr m sh (jj J args)/\Y.pre f (je m sh (jj J args))/\tG (jj J args) (Y.val f (je m sh (jj J args)))=true
 | .callv f args sh=>(J f).ok=true/\xP J args/\match(J f).d with
  | .fn n caps=>n<1000000/\kr m sh (jj J args++caps)/\Y.pre n (je m sh (jj J args++caps))/\tG (jj J args++caps) (Y.val n (je m sh (jj J args++caps)))=true
  |_=>False
 | .callM _ args=>xP J args
 | .callvM _ args=>xP J args
 | .ldU n _ p=>(J p).ok=true/\match(J p).d with
  | .ptr l k i o=>(fX m l k (i+1)/\o+n<=k)/\bG (bC m l)=false
  | .ref k es i o=>i<es.length/\o+n<=k
  |_=>False
 | .ldI n _ p=>(J p).ok=true/\match(J p).d with
  | .ref k es i o=>i<es.length/\o+n<=k
  |_=>False
 | .appN k y=>(J y).ok=true/\Em m k (J y).d/\(qS m (J y).d).length<=1073741824
 | .bslI k z n ps=>z.cells.length=k/\tN J k n ps/\bG (nq J (List.replicate n z) ps)=true
 | .callF f r args sh=>(J r).ok=true/\xP J args/\bG (jj J args)=true/\match(J r).d with
  | .ptr l k i o=>i=0/\o=0/\fX m l k 1/\(bC m l).length=1/\((bC m l).getD 0 .any).bI=true/\Y.fp f ((bC m l).getD 0 .any) (je [] sh (jj J args))
  |_=>False
 | .xU x=>(J x).ok=true/\match(J x).d with| .str _=>True|_=>False
 | .mkB=>True
 | .lkp x k=>(J x).ok=true/\(J k).ok=true/\match(J x).d,(J k).d with
  | .fn n es,.str _=>n=2000000/\YJ es
  |_,_=>False
 | .isNl _=>True
 | .RC x=>(J x).ok=true/\match(J x).d with| .nilf=>True| .fn n _=>n<2000000|_=>False
 | .FL x=>(J x).ok=true/\match(J x).d with
  | .it l=>match look m l with
   |some (.iter _ _)=>True
   |_=>False
  |_=>False
@[go_sem] def Src.RE:Src->Bool
 | .s _=>true
 |_=>false
@[go_sem] def aV.IC (draw:Bool)(J:Src->cg):aV->Prop
 | .len x=>bif draw&& !x.RE then True else(J x).ok=true->match(J x).d with
  | .sl _ es=>es.length<=9223372036854775807
  | .own _ _ _ n=>n<=9223372036854775807
  |_=>True
 | .lenS x=>bif draw&& !x.RE then True else(J x).ok=true->match(J x).d with
  | .str s=>s.length<=9223372036854775807
  |_=>True
 |_=>True
@[go_sem] def aV.c7 (Y:Ctx)(J:Src->cg)(m:List (Nat×bW))(L:Nat):aV->List (Nat×bW)
 | .box k x=>dG m L (.buf k [(J x).d])
 | .bsl k z n ps=>dG m L (.buf k (nq J (List.replicate n z) ps))
 | .mks k z ln _=>dG m L (.buf k (List.replicate (J ln).d.nat z))
 | .s2b x=>match(J x).d with
  | .str s=>dG m L (.buf 1 (s.map fun b=>.int .u8 b.toNat))
  |_=>m
 | .st n p v=>match(J p).d with
  | .ptr l k i o=>dG m l (.buf k ((bC m l).set i (vD ((bC m l).getD i .any) k n o (J v).d)))
  |_=>m
 | .app k x y=>match(J x).d with
  | .own l k' i n=>dG (cH m l) L (.buf k ((((bC m l).drop i).take n)++qS m (J y).d))
  |_=>dG m L (.buf k (qS m (J y).d))
 | .appN k y=>dG m L (.buf k (qS m (J y).d))
 | .callF f r args sh=>match(J r).d with
  | .ptr l k _ _=>dG m l (.buf k [Y.fs f ((bC m l).getD 0 .any) (je [] sh (jj J args))])
  |_=>m
 | .xU x=>match(J x).d with
  | .str s=>dG m L (.iter s 0)
  |_=>m
 | .mkB=>dG m L (.bld none 0 false)
 | .FL x=>match(J x).d with
  | .it l=>match look m l with
   |some (.iter s pos)=>bif decide (pos<s.length)then dG m l (.iter s (pos+(vZ s pos).2))else m
   |_=>m
  |_=>m
 |_=>m
@[go_sem] def dw:D->List Nat
 | .ptr l _ _ _=>[l]
 | .own l _ _ _=>[l]
 | .it l=>[l]
 |_=>[]
@[go_sem] def aV.nH (J:Src->cg):aV->Option (List Nat)
 | .ld _ _ p=>some (dw (J p).d)
 | .ldU _ _ p=>some (dw (J p).d)
 | .st _ p _=>some (dw (J p).d)
 | .b2s x=>some (dw (J x).d)
 | .app _ x y=>some (dw (J x).d++dw (J y).d)
 | .FL x=>some (dw (J x).d)
 | .call _ args _=>bif bG (jj J args)then some []else none
 | .callv f args _=>match(J f).d with
  | .fn _ caps=>bif bG (jj J args++caps)then some []else none
  |_=>none
 | .callM _ _=>none
 | .callvM _ _=>none
 | .isNl _=>none
 | .callF _ r _ _=>some (dw (J r).d)
 | .appN _ y=>some (dw (J y).d)
 |_=>some []
@[go_sem] def aV.wr (J:Src->cg)(L:Nat):aV->List Nat
 | .box .. =>[L]
 | .bsl .. =>[L]
 | .mks .. =>[L]
 | .s2b _=>[L]
 | .xU _=>[L]
 | .mkB=>[L]
 | .st _ p _=>dw (J p).d
 | .app _ x _=>L::dw (J x).d
 | .FL x=>dw (J x).d
 | .callF _ r _ _=>dw (J r).d
 | .appN .. =>[L]
 |_=>[]
@[go_sem] def aV.calm:aV->Bool
 | .st .. =>false
 | .app .. =>false
 | .FL .. =>false
 | .callM .. =>false
 | .callvM .. =>false
 | .isNl _=>false
 | .callF .. =>false
 |_=>true
@[go_sem] def flag (vs:List cg):Option (Nat×Bool)->Bool
 |none=>true
 |some (j,w)=>(vs.getD j .un).ok&&match(vs.getD j .un).d with
  | .bool b=>b==w
  |_=>false
@[go_sem] def Rr (vs:List cg)(i:aV):Option (Nat×Bool)->Prop
 |none=>True
 |some (j,_)=>i.calm=true/\((vs.getD j .un).ok=true->(vs.getD j .un).d.isBool=true)
@[go_sem] def aV.vk (draw:Bool)(g:Option (Nat×Bool))(i:aV):Bool:=!draw&&(!i.calm&&g.isSome)
@[go_sem] def Ce (vs:List cg):Option (Nat×Bool)->Prop
 |none=>True
 |some (j,_)=>(vs.getD j .un).ok=true->(vs.getD j .un).d.isBool=true
@[go_sem] def nlB (d:D)(b:Bool):Prop:=match d with
 | .bq=>b=true
 | .sl _ es=>b=true->es=[]
 | .own _ _ _ n=>b=true->n=0
 |_=>True
@[go_sem] def slB:D->Prop
 | .bq=>True
 | .sl .. =>True
 | .own .. =>True
 |_=>False
@[go_sem] def Ed (n:Nat):Nat:=if n<1000000 then n else n-1000000
@[go_sem] def B7 (n:Nat)(aoF caps:List D):List D:=if n<1000000 then aoF++caps else caps++aoF
def hZ (Y:Ctx)(draw:Bool):List GI->(env vs:List cg)->St->(List cg->St->Prop)->Prop
 |[],_,vs,st,K=>K vs {st with nx:=st.nx+vs.length}
 |⟨.callM f args,g⟩::r,env,vs,st,K=>
  Ce vs g/\(flag vs g=true->xP (Src.ev env vs) args/\
   Y.tr f (jj (Src.ev env vs) args) {st with nx:=st.nx+vs.length} fun d st'=>st.nx+vs.length<=st'.nx/\hZ Y draw r env (vs++[⟨true,d⟩]) {st' with nx:=st'.nx-vs.length} K)/\
   (flag vs g=false->hZ Y draw r env (vs++[⟨false,.any⟩]) st K)
 |⟨.callvM f args,g⟩::r,env,vs,st,K=>
  Rr vs (.callvM f args) g/\(Src.ev env vs f).ok=true/\xP (Src.ev env vs) args/\match(Src.ev env vs f).d with
   | .fn n caps=>n<2000000/\Y.tr (Ed n) (B7 n (jj (Src.ev env vs) args) caps) {st with nx:=st.nx+vs.length} fun d st'=>st.nx+vs.length<=st'.nx/\hZ Y draw r env (vs++[⟨true,d⟩]) {st' with nx:=st'.nx-vs.length} K
   |_=>False
 |⟨.isNl x,g⟩::r,env,vs,st,K=>g=none/\(Src.ev env vs x).ok=true/\slB (Src.ev env vs x).d/\∀b,nlB (Src.ev env vs x).d b->hZ Y draw r env (vs++[⟨true,.bool b⟩]) st K
 |⟨i,g⟩::r,env,vs,st,K=>
  if i.vk draw g=true then
   Ce vs g/\(flag vs g=true->i.ez Y (Src.ev env vs) st.m/\
     hZ Y draw r env (vs++[⟨true,i.val Y (Src.ev env vs) st.m (st.nx+vs.length)⟩]) {st with m:=i.c7 Y (Src.ev env vs) st.m (st.nx+vs.length)} K)/\
    (flag vs g=false->hZ Y draw r env (vs++[⟨false,.any⟩]) st K)
  else
  Rr vs i g/\(flag vs g=true->i.ez Y (Src.ev env vs) st.m)/\
   ((flag vs g=true->i.IC draw (Src.ev env vs))->∃d,(flag vs g=true->i.val Y (Src.ev env vs) st.m (st.nx+vs.length)=d)/\
     hZ Y draw r env (vs++[⟨flag vs g,d⟩]) {st with m:=i.c7 Y (Src.ev env vs) st.m (st.nx+vs.length)} K)
mutual
@[go_sem] def iD (l k:Nat)(es:List D):D->D
 | .own l' k' i n=>if l'=l/\k'=k/\i+n<=es.length then .sl k ((es.drop i).take n)else .own l' k' i n
 | .ptr l' k' i o=>if l'=l/\k'=k then .ref k es i o else .ptr l' k' i o
 | .agg cs=>.agg (iN l k es cs)
 | .tup cs=>.tup (iN l k es cs)
 | .fn f cs=>.fn f (iN l k es cs)
 | .any=>.any
 | .bool b=>.bool b
 | .int k n=>.int k n
 | .str s=>.str s
 | .bq=>.bq
 | .sl k es=>.sl k es
 | .ref k es i o=>.ref k es i o
 | .nilp=>.nilp
 | .nilf=>.nilf
 | .it l=>.it l
@[go_sem] def iN (l k:Nat)(es:List D):List D->List D
 |[]=>[]
 |d::r=>iD l k es d::iN l k es r
end
@[go_sem] def mU (l k:Nat)(es:List D):bW->bW
 | .buf k' es'=>.buf k' (iN l k es es')
 |b=>b
@[go_sem] def lG (l k:Nat)(es:List D):List (Nat×bW)->List (Nat×bW)
 |[]=>[]
 |(a,b)::r=>(a,mU l k es b)::lG l k es r
@[go_sem] def kS (l k:Nat)(es:List D):List cg->List cg
 |[]=>[]
 |⟨ok,d⟩::r=>⟨ok,iD l k es d⟩::kS l k es r
@[go_sem] def Qd (l:Nat)(s:List cg×List (Nat×bW)):List cg×List (Nat×bW):=match look s.2 l with
 |some (.buf k es)=>bif bG es then(kS l k es s.1,lG l k es (cH s.2 l))else s
 |_=>s
@[go_sem] def frzs:List Nat->List cg×List (Nat×bW)->List cg×List (Nat×bW)
 |[],s=>s
 |l::r,s=>frzs r (Qd l s)
inductive Ex where
 |normal|exit (id:Nat)|ret
@[go_sem] def iS (env vs:List cg):List (Nat×Nat)->List cg
 |[]=>env
 |(s,p)::r=>iS (env.set s (vs.getD p .un)) vs r
@[go_sem] def lK (lo:Nat)(σ:List (Nat×Nat))(l:Nat):Option Nat:=match σ with
 |[]=>bif Nat.blt l lo then some l else none
 |(a,b)::r=>bif Nat.beq a l then some b else lK lo r l
@[go_sem] def Co (lo:Nat)(σ:List (Nat×Nat))(l:Nat)(f:Nat->D):Option D:=match lK lo σ l with
 |some l'=>some (f l')
 |none=>none
mutual
@[go_sem] def qY (lo:Nat)(σ:List (Nat×Nat)):D->Option D
 | .own l k i n=>Co lo σ l fun l=>.own l k i n
 | .ptr l k i o=>Co lo σ l fun l=>.ptr l k i o
 | .it l=>Co lo σ l fun l=>.it l
 | .agg cs=>match ox lo σ cs with
  |some cs=>some (.agg cs)
  |none=>none
 | .tup cs=>match ox lo σ cs with
  |some cs=>some (.tup cs)
  |none=>none
 | .fn f cs=>match ox lo σ cs with
  |some cs=>some (.fn f cs)
  |none=>none
 | .any=>some .any
 | .bool b=>some (.bool b)
 | .int k n=>some (.int k n)
 | .str s=>some (.str s)
 | .bq=>some .bq
 | .sl k es=>some (.sl k es)
 | .ref k es i o=>some (.ref k es i o)
 | .nilp=>some .nilp
 | .nilf=>some .nilf
@[go_sem] def ox (lo:Nat)(σ:List (Nat×Nat)):List D->Option (List D)
 |[]=>some []
 |d::r=>match qY lo σ d,ox lo σ r with
  |some d,some r=>some (d::r)
  |_,_=>none
end
mutual
def uL:D->D->Prop
 | .bq,d'=>d'=.bq\/∃l k i,d'=.own l k i 0
 | .agg a,d'=>∃b,d'=.agg b/\D8 a b
 |d,d'=>d'=d/\d.bI=true
def D8:List D->List D->Prop
 |[],b=>b=[]
 |d::r,b=>∃d' r',b=d'::r'/\uL d d'/\D8 r r'
end
def T1 (lo:Nat)(σ:List (Nat×Nat))(d d':D):Prop:=d'=d/\d.bI=true\/qY lo σ d=some d'\/uL d d'
def sB (lo:Nat)(σ:List (Nat×Nat)):bW->bW->Prop
 | .buf k es,.buf k' es'=>k'=k/\(es'=es/\bG es=true\/ox lo σ es=some es'\/D8 es es')
 | .iter s p,.iter s' p'=>s'=s/\p'=p
 | .row s,.row s'=>s'=s
 | .bld o n u,.bld o' n' u'=>(match o with
  |none=>o'=none
  |some l=>∃l',lK lo σ l=some l'/\o'=some l')/\n'=n/\u'=u
 |_,_=>False
def dp (lo:Nat)(σ:List (Nat×Nat)):List cg->List cg->Prop
 |[],[]=>True
 |a::r,b::s=>(b.ok=a.ok/\T1 lo σ a.d b.d\/b=.un)/\dp lo σ r s
 |_,_=>False
def bo (lo c:Nat)(σ:List (Nat×Nat))(m:List (Nat×bW)):List (Nat×bW)->Prop
 |[]=>True
 |(l',b')::r=>((∃l b,lK lo σ l=some l'/\look m l=some b/\sB lo σ b b')\/(Nat.ble lo l'=true/\Nat.blt l' c=true/\σ.all (fun p=>!Nat.beq p.2 l')=true/\∃k,b'=.buf k []))/\bo lo c σ m r
def gI (lo c:Nat):List (Nat×Nat)->Bool
 |[]=>Nat.ble lo c
 |(a,b)::r=>(Nat.ble lo b&&(Nat.blt b c&&(r.all (fun p=>!Nat.beq p.1 a&& !Nat.beq p.2 b)&&gI lo c r)))
@[go_sem] def YH:List cg->List cg->Prop
 |[],[]=>True
 |a::r,b::s=>(b=a\/b=.un)/\YH r s
 |_,_=>False
@[go_sem] def Tt (m:List (Nat×bW)):List (Nat×bW)->Prop
 |[]=>True
 |(l,b)::r=>look m l=some b/\Tt m r
inductive yz:D->D->Prop
 |refl (d:D):yz d d
 |nil (k:Nat):yz .bq (.sl k [])
 |agg (a b:List D) (hl:b.length=a.length) (h:∀i,yz (a.getD i .any) (b.getD i .any)):yz (.agg a) (.agg b)
 |sl (k:Nat) (a b:List D) (hl:b.length=a.length) (h:∀i,yz (a.getD i .any) (b.getD i .any)):yz (.sl k a) (.sl k b)
def IB (a b:List D):Prop:=b.length=a.length/\∀i,yz (a.getD i .any) (b.getD i .any)
def Zy:bW->bW->Prop
 | .buf k es,.buf k' es'=>k'=k/\IB es es'
 |b,b'=>b'=b
def Wt:List cg->List cg->Prop
 |[],[]=>True
 |a::r,b::s=>(b.ok=a.ok/\yz a.d b.d)/\Wt r s
 |_,_=>False
def NR (m:List (Nat×bW)):List (Nat×bW)->Prop
 |[]=>True
 |(l,b')::r=>(∃b,look m l=some b/\Zy b b')/\NR m r
inductive a7 (lo:Nat):List cg->St->List cg->St->Prop
 |refl (env:List cg) (st:St):a7 lo env st env st
 |Qd (l:Nat) (env:List cg) (st:St):a7 lo env st (Qd l (env,st.m)).1 ⟨st.nx,(Qd l (env,st.m)).2⟩
 |ren (σ:List (Nat×Nat)) (c:Nat) (env env':List cg) (nx:Nat) (m m':List (Nat×bW)) (h:gI lo c σ=true) (he:dp lo σ env env') (hm:bo lo c σ m m'):a7 lo env ⟨nx,m⟩ env' ⟨c,m'⟩
 |wk (env env':List cg) (nx:Nat) (m m':List (Nat×bW)) (he:YH env env') (hm:Tt m m'):a7 lo env ⟨nx,m⟩ env' ⟨nx,m'⟩
 |nz (env env':List cg) (nx:Nat) (m m':List (Nat×bW)) (he:Wt env env') (hm:NR m m'):a7 lo env ⟨nx,m⟩ env' ⟨nx,m'⟩
 |trans (env1 env2 env3:List cg) (st1 st2 st3:St) (h:a7 lo env1 st1 env2 st2) (h':a7 lo env2 st2 env3 st3):a7 lo env1 st1 env3 st3
def Gh (lo:Nat)(p:List cg->St->Prop)(env:List cg)(st:St):Prop:=∃env' st',a7 lo env st env' st'/\p env' st'
def bJ (Y:Ctx):AC->(Ex->List cg->St->Prop)->List cg->St->Prop
 | .reg draw ins cm,Q=>Gh Y.lo fun env st=>hZ Y draw ins env [] st fun vs st'=>Q .normal (iS env vs cm) st'
 | .seq a b,Q=>Gh Y.lo (bJ Y a (fun e env st=>match e with
   | .normal=>bJ Y b Q env st
   |e=>Q e env st))
 | .cond c a b,Q=>Gh Y.lo fun env st=>(c.ev env []).ok=true/\match(c.ev env []).d with
  | .bool t=>(t=true->bJ Y a Q env st)/\(t=false->bJ Y b Q env st)
  |_=>False
 | .block id a,Q=>Gh Y.lo (bJ Y a (fun e env st=>match e with
   | .exit j=>if j=id then Q .normal env st else Q (.exit j) env st
   |e=>Q e env st))
 | .loop a,Q=>Gh Y.lo fun env st=>∃(I:List cg->St->Prop) (μ:List cg->St->Nat),
   I env st/\∀env st,I env st->
   bJ Y a (fun e env' st'=>match e with
    | .normal=>∃env2 st2,a7 Y.lo env' st' env2 st2/\I env2 st2/\μ env2 st2<μ env st
    |e=>Q e env' st') env st
 | .exit id,Q=>Gh Y.lo (Q (.exit id))
 | .ret,Q=>Gh Y.lo (Q .ret)
 | .skip,Q=>Gh Y.lo (Q .normal)
def Ctx.at (Y:Ctx)(n:Nat):Ctx:={Y with lo:=n}
@[go_sem] def HJ (m:List (Nat×bW))(env:List cg)(r:NB):D:=match r.mem with
 |none=>(env.getD r.s .un).d
 |some (n,ag)=>FK m n ag (env.getD r.s .un).d
@[go_sem] def qW (m:List (Nat×bW))(env:List cg):List NB->Prop
 |[]=>True
 |r::rs=>(env.getD r.s .un).ok=true/\(match r.mem with
   |none=>True
   |some (n,_)=>GQ m n (env.getD r.s .un).d)/\qW m env rs
@[go_sem] def qX (m:List (Nat×bW))(env:List cg):List NB->List D
 |[]=>[]
 |r::rs=>HJ m env r::qX m env rs
@[go_sem] def me (a:aC)(env:List cg)(st:St):D:=match a.res with
 |[r]=>HJ st.m env r
 |rs=>.tup (qX st.m env rs)
@[go_sem] def VN (a:aC)(env:List cg)(st:St):D:=match a.res with
 |[r]=>kH st.m (a.rsh.getD 0 []) (HJ st.m env r)
 |rs=>.tup (je st.m a.rsh (qX st.m env rs))
@[go_sem] def LN (a:aC)(env:List cg)(st:St):Prop:=match a.res with
 |[r]=>jo st.m (a.rsh.getD 0 []) (HJ st.m env r)
 |rs=>kr st.m a.rsh (qX st.m env rs)
@[go_sem] def Ex.home:Ex->Prop
 | .exit _=>False
 |_=>True
@[go_sem] def fD (a:aC)(ds:List D):List cg:=(ds.map fun d=>⟨true,d⟩)++List.replicate (a.ns-a.np) .un
mutual
def fY:Value->Option D
 | .bool b=>some (.bool b)
 | .int k n=>some (.int k n)
 | .string s=>if s.size<=9223372036854775807 then some (.str s.data.toList)else none
 | .pointer none=>some .nilp
 | .slice none 0 0=>some .bq
 | .nilFunc=>some .nilf
 | .agg ⟨cs⟩=>if uT cs then(sJ cs).map .agg else none
 |_=>none
def sJ:List Value->Option (List D)
 |[]=>some []
 |v::r=>match fY v,sJ r with
  |some d,some ds=>some (d::ds)
  |_,_=>none
def uT:List Value->Bool
 |[]=>true
 |v::r=>(match v with
  | .agg _=>false
  | .tuple _=>false
  |_=>true)&&uT r
end
def HP (P:Program):Nat->TypeId->List Sh
 |0,_=>[.a]
 |d+1,t=>match P.underlying t with
  |some (.struct fs)=>(fs.toList.map fun f=>HP P d f.type).flatten
  |some (.array n e)=>(List.replicate n (HP P d e)).flatten
  |some (.slice e)=>[.sl (P.cellsOf e) (HP P d e)]
  |some (.pointer e)=>[.pt (HP P d e)]
  |_=>[.a]
structure CC where
 P:Program
 ν:List (Nat×Nat)
 c7:List Nat
 slots:List Nat
 ntmps:Nat
 vm:Bool
def yl:List Nat->Nat->Option Nat
 |[],_=>none
 |a::r,t=>if a=t then some 0 else(yl r t).map (· +1)
def fI:List (Nat×Nat)->Nat->Option Nat
 |[],_=>none
 |(a,b)::r,l=>if a=l then some b else fI r l
def posOf (t:Nat):List (Option Nat)->Option Nat
 |[]=>none
 |a::r=>if a=some t then some 0 else(posOf t r).map (· +1)
def CC.src (C:CC)(defs:List (Option Nat)):Operand->Option Src
 | .tmp t=>match posOf t defs with
  |some p=>some (.l p)
  |none=>(yl C.slots t).map .s
 | .const v=>(fY v).map .c
 | .func f=>(fI C.ν f).map fun n=>.c (.fn n [])
 | .global _=>none
def CC.uA (C:CC)(defs:List (Option Nat)):List Operand->Option (List Src)
 |[]=>some []
 |x::r=>match C.src defs x,C.uA defs r with
  |some a,some l=>some (a::l)
  |_,_=>none
def CC.opt (C:CC)(defs:List (Option Nat)):Option Operand->Option (Option Src)
 |none=>some none
 |some x=>(C.src defs x).map some
def cL (P:Program)(t:TypeId):Bool:=match P.underlying t with
 |some (.struct _)=>true
 |some (.array ..)=>true
 |_=>false
def mK (P:Program)(k:TypeId->Option (List CK)):Nat->List Field->Option (List CK)
 |_,[]=>some []
 |off,f::r=>if f.name= "_" \/f.offset≠off then none else
  match k f.type,mK P k (off+P.cellsOf f.type) r with
  |some a,some b=>if a.length=P.cellsOf f.type/\a.length≠0/\(P.underlying f.type).isNone=false then some (a++b)else none
  |_,_=>none
def gT (P:Program):Nat->TypeId->Option (List CK)
 |0,_=>none
 |d+1,t=>match P.underlying t with
  |some .bool=>some [.b]
  |some (.int k)=>some [.i k]
  |some .string=>some [.s]
  |some (.struct fs)=>if P.stoodInHeld t then none else mK P (fun t=>gT P d t) 0 fs.toList
  |some (.array n e)=>match gT P d e with
   |some l=>if l.length=P.cellsOf e/\l.length≠0/\(P.underlying e).isNone=false then some (List.replicate n l).flatten else none
   |none=>none
  |_=>none
def CC.parts (C:CC)(defs:List (Option Nat))(place:Nat->Option (Nat×Nat)):List (Nat×Operand)->Option (List (Nat×Nat×Src))
 |[]=>some []
 |(i,x)::r=>match place i,C.src defs x,C.parts defs place r with
  |some (o,n),some s,some l=>if n=0 then none else some ((o,n,s)::l)
  |_,_,_=>none
def CC.wT (C:CC)(defs:List (Option Nat)):List (Nat×Operand)->Option (List (Nat×Src))
 |[]=>some []
 |(i,x)::r=>match C.src defs x,C.wT defs r with
  |some s,some l=>some ((i,s)::l)
  |_,_=>none
def sx (P:Program)(t:TypeId):Option D:=((P.info? t).bind (·.zero)).bind fY
def p9 (P:Program)(t:TypeId):Bool:=match sx P t with
 |some z=>z.cells.length==P.cellsOf t
 |none=>false
def CC.op (C:CC)(defs:List (Option Nat))(o:Oper):Option aV:=
 match o.op with
 | .move x=>(C.src defs x).map .mv
 | .assign x=>(C.src defs x).map .mv
 | .pick c a b=>match C.src defs c,C.src defs a,C.src defs b with
  |some c,some a,some b=>some (.pick c a b)
  |_,_,_=>none
 | .alloc t=>match sx C.P t with
  |some z=>if C.P.cellsOf t=0 then none else if C.c7.contains (1000000000+t)then(match z with
   | .agg [.nilp,.bq]=>some .mkB
   |_=>none)else some (.box (C.P.cellsOf t) (.c z))
  |none=>none
 | .box t x=>match C.src defs x with
  |some s=>if C.P.cellsOf t=0 then none else some (.box (C.P.cellsOf t) s)
  |none=>none
 | .build t ps=>match sx C.P t,C.P.underlying t with
  |some (.agg z),some (.struct fs)=>if fs.toList.all (fun f=>(C.P.info? f.type).isSome)then(C.parts defs (fun i=>(fs[i]?).map fun f=>(f.offset,C.P.cellsOf f.type)) ps.toList).map (.build z)else none
  |some (.agg z),some (.array _ e)=>if C.P.cellsOf e=0 then none else(C.parts defs (fun i=>some (i*C.P.cellsOf e,C.P.cellsOf e)) ps.toList).map (.build z)
  |_,_=>none
 | .buildSlice t n ps=>match C.P.underlying t with
  |some (.slice e)=>match sx C.P e,C.wT defs ps.toList with
   |some z,some l=>if C.P.cellsOf e=0\/n*C.P.cellsOf e>16777216 then none else some (.bsl (C.P.cellsOf e) z n l)
   |_,_=>none
  |_=>none
 | .load t a=>match C.src defs a with
  |some s=>if C.P.cellsOf t=0\/(C.P.underlying t).isNone\/(cL C.P t=false/\C.P.cellsOf t≠1)then none else some (.ld (C.P.cellsOf t) (cL C.P t) s)
  |none=>none
 | .store t a x=>match C.src defs a,C.src defs x with
  |some a,some x=>if C.P.cellsOf t=0 then none else some (.st (C.P.cellsOf t) a x)
  |_,_=>none
 | .nilCheck x=>(C.src defs x).map .nilck
 | .binOp op t x y _=>match C.src defs x,C.src defs y with
  |some a,some b=>match C.P.underlying t with
   |some (.int _)=>some (.bin op a b)
   |some .string=>some (.bin op a b)
   |_=>if C.P.eqGuardType C.P.depth t then none else match gT C.P 30 t,op with
    |some ks,.eql=>some (.eqA false (cL C.P t) ks a b)
    |some ks,.neq=>some (.eqA true (cL C.P t) ks a b)
    |none,.eql=>match C.P.underlying t,b with
     |some (.func ..),.c .nilf=>some (.RC a)
     |some (.slice _),.c .bq=>some (.isNl a)
     |_,_=>none
    |_,_=>none
  |_,_=>none
 | .unOp op _ x=>(C.src defs x).map (.un op)
 | .convert s d x=>match C.P.underlying s,C.P.underlying d,C.src defs x with
  |some (.int _),some (.int k),some a=>some (.cvi k a)
  |some (.int _),some .string,some a=>some (.i2s a)
  |some .string,some (.slice e),some a=>match C.P.underlying e with
   |some (.int .u8)=>some (.s2b a)
   |_=>none
  |some (.slice e),some .string,some a=>match C.P.underlying e with
   |some (.int .u8)=>some (.b2s a)
   |_=>none
  |_,_,_=>none
 | .makeFunc (.func f) first caps=>match fI C.ν f,C.uA defs caps.toList with
  |some n,some l=>if first.isEmpty then some (.mkf n l)else if l.isEmpty then(C.uA defs first.toList).map (.mkf (n+1000000))else none
  |_,_=>none
 | .makeSlice t l c=>match C.P.underlying t with
  |some (.slice e)=>match sx C.P e,C.src defs l,C.src defs c with
   |some z,some l,some c=>if C.P.cellsOf e=0\/C.P.bytesOf e>65536 then none else some (.mks (C.P.cellsOf e) z l c)
   |_,_,_=>none
  |_=>none
 | .slice t x lo hi mx=>match C.P.underlying t,C.src defs x,C.opt defs lo,C.opt defs hi,mx with
  |some .string,some a,some l,some h,none=>some (.slS a l h)
  |some (.slice e),some a,some l,some h,none=>if C.P.cellsOf e=0 then none else some (.slA (C.P.cellsOf e) a l h)
  |some (.slice e),some a,some none,some (some h),some m=>match C.src defs m with
   |some m=>if C.P.cellsOf e=0 then none else some (.slX (C.P.cellsOf e) a h m)
   |none=>none
  |_,_,_,_,_=>none
 | .fieldAddr t x f=>match C.P.underlying t,C.src defs x with
  |some (.struct fs),some a=>match fs[f]? with
   |some f=>if C.P.cellsOf f.type=0 then none else some (.fa f.offset a)
   |none=>none
  |_,_=>none
 | .field t x f=>match C.P.underlying t,C.src defs x with
  |some (.struct fs),some a=>match fs[f]? with
   |some f=>if C.P.cellsOf f.type=0\/(C.P.underlying f.type).isNone then none else some (.fld f.offset (C.P.cellsOf f.type) (cL C.P f.type) a)
   |none=>none
  |_,_=>none
 | .indexAddr t x i=>match C.P.underlying t,C.src defs x,C.src defs i with
  |some (.slice e),some a,some b=>if C.P.cellsOf e=0 then none else some (.ia (C.P.cellsOf e) a b)
  |some (.array n e),some a,some b=>if C.P.cellsOf e=0 then none else some (.iaP n (C.P.cellsOf e) a b)
  |_,_,_=>none
 | .index t x i=>match C.P.underlying t,C.src defs x,C.src defs i with
  |some .string,some a,some b=>some (.ixS a b)
  |some (.array n e),some a,some b=>if C.P.cellsOf e=0\/(C.P.underlying e).isNone then none else some (.ixA n (C.P.cellsOf e) (cL C.P e) a b)
  |_,_,_=>none
 | .lookup t x y false=>match C.src defs x,C.src defs y,C.P.underlying t with
  |some a,some b,some (.map k e)=>match C.P.underlying k,sx C.P e with
   |some .string,some .nilf=>some (.lkp a b)
   |_,_=>none
  |_,_,_=>none
 | .range t x=>match C.P.underlying t,C.src defs x with
  |some .string,some a=>some (.xU a)
  |_,_=>none
 | .next it true=>(C.src defs it).map .FL
 | .extract t i=>(C.src defs t).map fun s=>.ext s i
 | .call c=>match c.callee with
  | .builtin .len=>match c.args.toList,c.argTypes.toList with
   |[x],[t]=>match C.src defs x,C.P.underlying t with
    |some a,some .string=>some (.lenS a)
    |some a,some (.slice _)=>some (.len a)
    |_,_=>none
   |_,_=>none
  | .builtin .min=>match c.args.toList with
   |[x,y]=>match C.src defs x,C.src defs y with
    |some a,some b=>some (.mn a b)
    |_,_=>none
   |_=>none
  | .builtin .append=>match c.args.toList,c.argTypes.toList with
   |[x,y],[t,u]=>match C.src defs x,C.src defs y,C.P.underlying t,C.P.underlying u with
    |some a,some b,some (.slice e),some (.slice _)=>if C.P.cellsOf e=0\/C.P.bytesOf e>65536\/C.P.bytesOf e=0\/p9 C.P e=false then none else some (.app (C.P.cellsOf e) a b)
    |some a,some b,some (.slice e),some .string=>if C.P.cellsOf e=0\/C.P.bytesOf e>65536\/C.P.bytesOf e=0\/p9 C.P e=false then none else some (.app (C.P.cellsOf e) a b)
    |_,_,_,_=>none
   |_,_=>none
  | .value (.func f)=>match fI C.ν f,C.uA defs c.args.toList with
   |some n,some l=>if C.c7.contains (2*n)then some (.callM n l)else if C.c7.contains (2*n+1)then(match l with
     |r::rest=>some (.callF n r rest ((c.argTypes.toList.map (HP C.P 8)).drop 1))
     |[]=>none)else some (.call n l (c.argTypes.toList.map (HP C.P 8)))
   |_,_=>none
  | .value (.tmp t)=>match C.src defs (.tmp t),C.uA defs c.args.toList with
   |some s,some l=>if C.vm then some (.callvM s l)else some (.callv s l (c.argTypes.toList.map (HP C.P 8)))
   |_,_=>none
  |_=>none
 |_=>none
def CC.guard (defs:List (Option Nat)):Option (Nat×Bool)->Option (Option (Nat×Bool))
 |none=>some none
 |some (j,w)=>match defs[j]? with
  |some (some _)=>some (some (j,w))
  |_=>none
def CC.ops (C:CC):(defs:List (Option Nat))->List Oper->Option (List GI)
 |_,[]=>some []
 |defs,o::r=>match C.op defs o,CC.guard defs o.guard,C.ops (defs++[o.dst]) r with
  |some i,some g,some l=>if o.dst.all (fun d=>d<C.ntmps&& !defs.contains (some d))then some (⟨i,g⟩::l)else none
  |_,_,_=>none
def CC.ir (C:CC):Nat->List Oper->List (Nat×Nat)
 |_,[]=>[]
 |p,o::r=>match o.dst.bind (yl C.slots)with
  |some s=>(s,p)::C.ir (p+1) r
  |none=>C.ir (p+1) r
def qJ (acc:List Nat):List Edge->Nat
 |[]=>0
 |e::r=>if Region.binds .any e then(2^e.on |||acc.getD e.on 0) |||qJ acc r else qJ acc r
def px:List Nat->List Oper->List Nat
 |acc,[]=>acc
 |acc,o::r=>px (acc++[qJ acc o.after.toList]) r
def tmpsOf (ops:List Oper)(o:Oper):List Nat:=
 (o.op.operands.toList.filterMap fun
   | .tmp t=>some t
   |_=>none)++(match o.guard with
   |some (g,_)=>((ops[g]?).bind (·.dst)).toList
   |none=>[])
def LM (ops:List Oper)(bs:List Nat):Bool:=
 (List.range ops.length).all fun j=>(List.range ops.length).all fun p=>match ops[j]?,ops[p]? with
   |some oj,some op=>match op.dst with
    |some t=>p==j ||!(tmpsOf ops oj).contains t ||(bs.getD (max j p) 0).testBit (min j p)
    |none=>true
   |_,_=>false
def aV.pure:aV->Bool
 | .mv _=>true
 | .pick .. =>true
 | .build .. =>true
 | .nilck _=>true
 | .bin .. =>true
 | .eqA .. =>true
 | .un .. =>true
 | .cvi .. =>true
 | .mn .. =>true
 | .i2s _=>true
 | .mkf .. =>true
 | .slS .. =>true
 | .slA .. =>true
 | .slX .. =>true
 | .fa .. =>true
 | .fld .. =>true
 | .ia .. =>true
 | .iaP .. =>true
 | .ixS .. =>true
 | .ixA .. =>true
 | .ext .. =>true
 | .len _=>true
 | .lenS _=>true
 | .ldI .. =>true
 | .bslI .. =>true
 | .lkp .. =>true
 | .RC _=>true
 |_=>false
def Sh.ZB:Sh->Bool
 | .a=>true
 |_=>false
def aV.free:aV->Bool
 | .call _ _ sh=>sh.all fun s=>s.all Sh.ZB
 |i=>i.pure
def aV.kp:aV->Bool
 | .box .. =>true
 | .bsl .. =>true
 | .mks .. =>true
 | .s2b .. =>true
 | .xU .. =>true
 | .mkB=>true
 |_=>false
def aV.isApp:aV->Bool
 | .app .. =>true
 |_=>false
def aV.nD:aV->Bool
 | .callF .. =>true
 |_=>false
def aV.vu:aV->Bool
 | .ldU .. =>true
 |_=>false
def exU (l:List GI)(gj gi:aV)(j i:Nat):Bool:=gj.nD&&(gi.vu&&(decide (i<j)&&(List.range j).all fun q=>decide (q<=i) ||match l[q]? with
 |some g=>g.i.calm ||g.i.nD
 |none=>true))
def Wx (l:List GI)(bs:List Nat):Bool:=
 (List.range l.length).all fun j=>(List.range l.length).all fun i=>match l[j]?,l[i]? with
   |some gj,some gi=>gj.i.calm ||gi.i.free ||(gi.i.kp&& !gj.i.isApp) ||i==j ||(bs.getD (max j i) 0).testBit (min j i) ||exU l gj.i gi.i j i
   |_,_=>false
def aV.dC:aV->Bool
 | .callM .. =>true
 | .callvM .. =>true
 | .isNl _=>true
 |_=>false
def yD:Nat->List Oper->Bool
 |_,[]=>true
 |p,o::r=>o.after.toList.all (fun e=>!Region.binds .any e ||decide (e.on<p))&&yD (p+1) r
def LV:List GI->Bool
 |⟨.callM ..,none⟩::r=>r.all fun g=>match g with
  |⟨.mv _,none⟩=>true
  |_=>false
 |_=>false
def Lb (l:List GI)(bs:List Nat):Bool:=
 let n:=l.findIdx fun g=>g.i.dC
 LV (l.drop n)&&((l.take n).all (fun g=>!g.i.dC)&&(List.range (l.length-n)).all fun q=>(List.range (n+q)).all fun p=>(bs.getD (n+q) 0).testBit p)
def Ah (ops:List Oper)(l:List GI):Bool:=
 let bs:=px [] ops
 LM ops bs&&(Wx l bs&&(((l.all fun g=>!g.i.dC) ||Lb l bs)&&yD 0 ops))
def aV.Zo:aV->aV
 | .app k (.c .bq) y=>.appN k y
 |i=>i
def looseAt (bs:List Nat)(l:List GI)(i:Nat):Bool:=
 (List.range l.length).any fun j=>match l[j]? with
   |some gj=>!(gj.i.Zo.calm ||i==j ||(bs.getD (max j i) 0).testBit (min j i))
   |none=>false
def YI (bs:List Nat)(l:List GI)(i:Nat):Bool:=
 (List.range l.length).all fun j=>match l[j]? with
   |some gj=>gj.i.Zo.calm ||i==j ||(bs.getD (max j i) 0).testBit (min j i) ||(gj.i.nD&&(decide (i<j)&&(List.range j).all fun q=>decide (q<=i) ||match l[q]? with
    |some g=>g.i.Zo.calm ||g.i.nD
    |none=>true))
   |none=>true
def YB (bs:List Nat)(l:List GI)(p:Nat):Bool:=
 (List.range l.length).any fun j=>match l[j]? with
   |some ⟨.ia _ (.l q) _,_⟩=>Nat.beq q p&&(List.range l.length).any fun i=>match l[i]? with
    |some ⟨.ld _ _ (.l r),_⟩=>Nat.beq r j&&looseAt bs l i
    |_=>false
   |_=>false
def mY (bs:List Nat)(l0:List GI):Nat->List GI->List GI
 |_,[]=>[]
 |p,g::r=>(match g.i with
  | .ld n ag x=>if looseAt bs l0 p then(if YI bs l0 p then⟨.ldU n ag x,g.g⟩else⟨.ldI n ag x,g.g⟩)else g
  | .bsl k z n ps=>if YB bs l0 p then⟨.bslI k z n ps,g.g⟩else g
  |i=>⟨i.Zo,g.g⟩)::mY bs l0 (p+1) r
def CC.code (C:CC):Code->Option AC
 | .skip=>some .skip
 | .region _ ops draw=>match C.ops [] ops.toList with
  |some l=>if draw then
    if Ah ops.toList (mY (px [] ops.toList) l 0 l)then some (.reg true (mY (px [] ops.toList) l 0 l) (C.ir 0 ops.toList))else none
   else some (.reg false l (C.ir 0 ops.toList))
  |none=>none
 | .seq a b=>match C.code a,C.code b with
  |some a,some b=>some (.seq a b)
  |_,_=>none
 | .cond c a b=>match C.src [] c,C.code a,C.code b with
  |some c,some a,some b=>some (.cond c a b)
  |_,_,_=>none
 | .block id a=>(C.code a).map (.block id)
 | .loop a=>(C.code a).map .loop
 | .exit id=>some (.exit id)
 | .ret=>some .ret
 | .scope a=>C.code a
 | .label _=>some .skip
 |_=>none
def L4:(defs:List (Option Nat))->List Oper->List Nat
 |_,[]=>[]
 |defs,o::r=>(o.op.operands.toList.filterMap fun
   | .tmp t=>if(posOf t defs).isNone then some t else none
   |_=>none)++L4 (defs++[o.dst]) r
def BL:Code->List Nat
 | .region _ ops _=>L4 [] ops.toList
 | .seq a b=>BL a++BL b
 | .cond c a b=>(match c with
  | .tmp t=>[t]
  |_=>[])++BL a++BL b
 | .block _ a=>BL a
 | .loop a=>BL a
 | .scope a=>BL a
 |_=>[]
def sW:List ResultVar->List Nat
 |[]=>[]
 | .tmp t::r=>t::sW r
 | .cell t _::r=>t::sW r
def dedup:List Nat->List Nat->List Nat
 |acc,[]=>acc.reverse
 |acc,a::r=>if acc.contains a then dedup acc r else dedup (a::acc) r
def vB (P:Program)(sl:List Nat):List ResultVar->Option (List NB)
 |[]=>some []
 | .tmp t::r=>match yl sl t,vB P sl r with
  |some a,some l=>some (⟨a,none⟩::l)
  |_,_=>none
 | .cell t ty::r=>match yl sl t,vB P sl r with
  |some a,some l=>if P.cellsOf ty=0\/(P.underlying ty).isNone\/(cL P ty=false/\P.cellsOf ty≠1)then none else some (⟨a,some (P.cellsOf ty,cL P ty)⟩::l)
  |_,_=>none
def slotsOf (fn:Func):List Nat:=dedup [] (List.range (fn.params.size+fn.nfree)++sW fn.results.toList++BL (fn.body.getD .skip))
def vmOps (P:Program)(ops:List Oper):Bool:=ops.any fun o=>match o.op with
 | .makeFunc _ first _=>!first.isEmpty
 | .call c=>(match c.callee with
  | .value (.tmp _)=>c.argTypes.toList.any fun t=>match P.underlying t with
   |some (.pointer _)=>true
   |_=>false
  |_=>false)
 |_=>false
def Ib (P:Program):Code->Bool
 | .region _ ops _=>vmOps P ops.toList
 | .seq a b=>Ib P a ||Ib P b
 | .cond _ a b=>Ib P a ||Ib P b
 | .block _ a=>Ib P a
 | .loop a=>Ib P a
 | .scope a=>Ib P a
 |_=>false
def P3 (P:Program)(fn:Func):Bool:=Ib P (fn.body.getD .skip)
def compile (P:Program)(ν:List (Nat×Nat))(c7:List Nat)(fn:Func):Option aC:=
 match fn.body with
 |some body=>
  match CC.code {P,ν,c7,slots:=slotsOf fn,ntmps:=fn.ntmps,vm:=P3 P fn} body,vB P (slotsOf fn) fn.results.toList with
  |some a,some res=>
   if fn.params.size+fn.nfree<=fn.ntmps then some {np:=fn.params.size+fn.nfree,ns:=(slotsOf fn).length,res,rsh:=fn.resultTypes.toList.map (HP P 8),body:=a}else none
  |_,_=>none
 |none=>none
def xK:List (Nat×Nat):=[(5,1197),(10,85),(11,251),(12,1202),(13,86),(14,87),(15,88),(16,1203),(17,478),(19,79),(20,353),(21,489),(22,72),(23,497),(24,452),(25,358),(26,73),(27,313),(28,252),(29,253),(30,254),(31,208),(32,255),(33,256),(34,76),(35,242),(36,257),(37,223),(38,258),(39,259),(40,260),(41,261),(42,262),(43,263),(44,228),(45,504),(46,74),(47,511),(50,227),(51,229),(52,230),(53,231),(54,232),(56,70),(57,215),(58,686),(59,216),(60,75),(61,580),(62,71),(63,219),(64,239),(65,244),(67,124),(68,499),(69,487),(70,222),(72,295),(73,470),(74,500),(75,77),(76,501),(77,249),(78,78),(79,479),(80,220),(81,699),(82,700),(83,701),(86,469),(89,480),(90,481),(91,482),(92,483),(94,209),(95,210),(96,211),(97,212),(98,213),(99,214),(100,450),(101,451),(102,453),(103,454),(104,221),(105,217),(106,218),(107,316),(108,461),(109,462),(110,331),(114,465),(115,466),(116,467),(117,468),(119,530),(120,531),(121,532),(122,533),(123,534),(124,688),(125,224),(126,424),(127,225),(128,226),(129,463),(130,676),(131,677),(132,678),(133,440),(134,441),(135,442),(136,443),(137,349),(138,444),(139,445),(140,446),(141,447),(142,448),(143,449),(144,664),(145,665),(146,464),(147,455),(148,456),(149,457),(150,458),(151,459),(152,460),(153,554),(159,245),(160,246),(161,675),(162,658),(164,714),(165,659),(166,516),(167,471),(168,472),(169,473),(170,474),(171,475),(172,476),(173,630),(174,631),(175,477),(176,734),(177,495),(178,496),(179,660),(180,661),(181,662),(182,663),(183,336),(184,666),(185,667),(186,668),(187,669),(188,670),(189,357),(190,572),(191,671),(192,672),(193,673),(194,674),(202,494),(203,704),(204,568),(205,783),(206,882),(207,682),(208,683),(209,684),(210,685),(211,808),(212,809),(213,810),(214,811),(216,812),(217,813),(218,814),(219,744),(220,745),(221,815),(222,816),(226,741),(227,742),(228,927),(229,819),(237,827),(238,828),(239,946),(240,947),(241,948),(242,949),(243,950),(244,951),(246,952),(247,953),(248,954),(249,896),(250,897),(251,898),(252,899),(253,900),(254,901),(255,955),(256,956),(257,957),(261,1031),(266,1032),(267,1033),(268,1034),(269,1035),(270,1036),(271,1006),(272,1007),(273,1008),(281,1097),(282,1098),(283,1099),(284,1100),(285,1079),(290,1126),(291,1141)]
def N9:List Nat:=[219,1091,1354,1894,1896,1616,1320,1618,1898,2062,2066,2282,2068,2252,2194,2064,1904,900,931,937,935,445,978,1328,904,942,944,946,952,448,522,1008,1000000060]
noncomputable def cfY (f:Nat):Option aC:=((Go.Proofs.Tryz.prog).funcs[f]?).bind (compile Go.Proofs.Tryz.prog xK N9)
def zofN (n:Nat):Int.ofNat (no_index (@OfNat.ofNat Nat n (instOfNatNat n)))=@OfNat.ofNat Int n (@instOfNat n):=rfl
def zofU (n:Nat)(h:n<2^8):UInt8.ofBitVec (BitVec.ofFin (Fin.mk (no_index (@OfNat.ofNat Nat n (instOfNatNat n))) h))=(OfNat.ofNat n:UInt8):=hX.1 (by show n=(UInt8.ofNat n).toNat;rw[UInt8.toNat_ofNat'];exact(Nat.mod_eq_of_lt h).symm)
def zofM:Int.negSucc 0=-1:=rfl
noncomputable def cP (f:Nat)(s:{a:aC//cfY f=some a}:=by refine⟨?_, ?_⟩;rotate_left;conv=>lhs;reduce;dsimp only[zofN,zofM];try simp only[zofU]):aC:=s.1
section
structure X where
 w:World
 I:Nat->Prop
 β:Nat->Option (Nat×Nat×Nat)
def ZD (es:List MapEntry)(i:Nat):Value:=match es[i/2]? with
 |some e=>if i%2=0 then e.key else e.val
 |none=>undef
inductive RD (ν:List (Nat×Nat))(x:X):Value->D->Prop
 |any (v:Value):RD ν x v .any
 |bool (b:Bool):RD ν x (.bool b) (.bool b)
 |int (k:IntKind) (n:Int):RD ν x (.int k n) (.int k n)
 |str (s:List UInt8) (h:s.length<=maxLen):RD ν x (.string ⟨⟨s⟩⟩) (.str s)
 |agg (cs:Array Value) (ds:List D) (hl:cs.size=ds.length) (h1:∀i,i<ds.length->(cs.getD i undef).oneCell'=true)
   (h:∀i,i<ds.length->RD ν x (cs.getD i undef) (ds.getD i .any)):RD ν x (.agg cs) (.agg ds)
 |tup (cs:Array Value) (ds:List D) (hl:cs.size=ds.length)
   (h:∀i,i<ds.length->RD ν x (cs.getD i undef) (ds.getD i .any)):RD ν x (.tuple cs) (.tup ds)
 |bq:RD ν x (.slice none 0 0) .bq
 |sl (a:Option Addr) (b off len cap k:Nat) (es:List D) (c:Nat->Nat->Value) (hlen:len=es.length)
   (ha:es=[]\/(a=some ⟨b,off,none⟩/\x.I b)) (hcap:len<=cap) (hm:cap<=maxLen)
   (hk:∀i,i<len->(es.getD i .any).cells.length=k) (hn:∀i,i<len->(es.getD i .any).bI=true)
   (hc:∀i j,i<len->j<k->x.w.cell? ⟨b,off+i*k+j,none⟩=some (c i j))
   (h1:∀i j,i<len->j<k->(c i j).oneCell'=true)
   (h:∀i j,i<len->j<k->RD ν x (c i j) ((es.getD i .any).cells.getD j .any)):RD ν x (.slice a len cap) (.sl k es)
 |ref (b off k i o at_:Nat) (es:List D) (c:Nat->Nat->Value) (hI:x.I b) (hat:at_=off+i*k+o)
   (hk:∀i,i<es.length->(es.getD i .any).cells.length=k) (hn:∀i,i<es.length->(es.getD i .any).bI=true)
   (hc:∀i j,i<es.length->j<k->x.w.cell? ⟨b,off+i*k+j,none⟩=some (c i j))
   (h1:∀i j,i<es.length->j<k->(c i j).oneCell'=true)
   (h:∀i j,i<es.length->j<k->RD ν x (c i j) ((es.getD i .any).cells.getD j .any)):RD ν x (.pointer (some ⟨b,at_,none⟩)) (.ref k es i o)
 |ptr (l k i o b base tot at_:Nat) (hβ:x.β l=some (b,base,tot)) (hat:at_=base+i*k+o):RD ν x (.pointer (some ⟨b,at_,none⟩)) (.ptr l k i o)
 |own (l k i n b base tot cap:Nat) (a:Addr) (hβ:x.β l=some (b,base,tot)) (ha:0<cap->a=⟨b,base+i*k,none⟩)
   (hcap:n<=cap) (hm:cap<=maxLen) (ht:i+cap<=tot):RD ν x (.slice (some a) n cap) (.own l k i n)
 |own0 (l k i:Nat) (a:Option Addr):RD ν x (.slice a 0 0) (.own l k i 0)
 |nilp:RD ν x (.pointer none) .nilp
 |fn (fid n:Nat) (cs:Array Value) (ds:List D) (hν:fI ν fid=some n) (hl:cs.size=ds.length)
   (h:∀i,i<ds.length->RD ν x (cs.getD i undef) (ds.getD i .any)):RD ν x (.func (.func fid) #[] cs) (.fn n ds)
 |e8 (fid n:Nat) (fs:Array Value) (ds:List D) (hν:fI ν fid=some n) (hl:fs.size=ds.length)
   (h:∀i,i<ds.length->RD ν x (fs.getD i undef) (ds.getD i .any)):RD ν x (.func (.func fid) fs #[]) (.fn (n+1000000) ds)
 |nilf:RD ν x .nilFunc .nilf
 |mp (r:Nat) (es:Array MapEntry) (cl:Nat) (ds:List D) (hI:x.I r) (hh:x.w.heap[r]? =some (.map es cl)) (hl:2*es.size=ds.length)
   (h:∀i,i<ds.length->RD ν x (ZD es.toList i) (ds.getD i .any)):RD ν x (.map (some r)) (.fn 2000000 ds)
 |it (l b base tot:Nat) (hβ:x.β l=some (b,base,tot)):RD ν x (.pointer (some ⟨b,0,none⟩)) (.it l)
section
variable {ν:List (Nat×Nat)} {x x':X}
structure Le (x x':X):Prop where
 I:∀b,x.I b->x'.I b
 pk:∀b,x.I b->x'.w.heap[b]? =x.w.heap[b]?
 β:∀l p,x.β l=some p->x'.β l=some p
theorem pA {w w':World}{b o:Nat}{v:Value}(h:w'.heap[b]? =w.heap[b]?)(hc:w.cell? ⟨b,o,none⟩=some v):w'.cell? ⟨b,o,none⟩=some v:=by
 rw[<-hc];unfold World.cell?;simp only[h]
def Le.refl (x:X):Le x x:=⟨fun _ h=>h,fun _ _=>rfl,fun _ _ h=>h⟩
def Le.trans {x'':X}(h:Le x x')(h':Le x' x''):Le x x'':=
 ⟨fun b hb=>h'.I b (h.I b hb),fun b hb=>(h'.pk b (h.I b hb)).trans (h.pk b hb),fun l p hp=>h'.β l p (h.β l p hp)⟩
def RD.mono {v:Value}{d:D}(h:RD ν x v d)(hl:Le x x'):RD ν x' v d:=by
 induction h with
 |any v=>exact .any v
 |bool b=>exact .bool b
 |int k n=>exact .int k n
 |str s h=>exact .str s h
 |agg cs ds hl' h1 _ ih=>exact .agg cs ds hl' h1 ih
 |tup cs ds hl' _ ih=>exact .tup cs ds hl' ih
 |bq=>exact .bq
 |sl a b off len cap k es c hlen ha hcap hm hk hn hc h1 _ ih=>
  refine .sl a b off len cap k es c hlen (ha.imp id fun⟨p,q⟩=>⟨p,hl.I _ q⟩) hcap hm hk hn (fun i j hi hj=>?_) h1 ih;rcases ha with rfl|⟨_,hI⟩
  .simp at hlen;omega
  .exact pA (hl.pk _ hI) (hc i j hi hj)
 |ref b off k i o at_ es c hI hat hk hn hc h1 _ ih=>
  exact .ref b off k i o at_ es c (hl.I _ hI) hat hk hn (fun i j hi hj=>pA (hl.pk _ hI) (hc i j hi hj)) h1 ih
 |ptr l k i o b base tot at_ hβ hat=>exact .ptr l k i o b base tot at_ (hl.β _ _ hβ) hat
 |own l k i n b base tot cap a hβ ha hcap hm ht=>exact .own l k i n b base tot cap a (hl.β _ _ hβ) ha hcap hm ht
 |own0 l k i a=>exact .own0 l k i a
 |nilp=>exact .nilp
 |fn fid n cs ds hν hl' _ ih=>exact .fn fid n cs ds hν hl' ih
 |e8 fid n cs ds hν hl' _ ih=>exact .e8 fid n cs ds hν hl' ih
 |nilf=>exact .nilf
 |mp r es cl ds hI hh hl' _ ih=>exact .mp r es cl ds (hl.I _ hI) ((hl.pk _ hI).trans hh) hl' ih
 |it l b base tot hβ=>exact .it l b base tot (hl.β _ _ hβ)
def dq:∀{ds:List D},bG ds=true->∀i,(ds.getD i .any).bI=true
 |[],_,i=>by simp[D.bI]
 |d::r,h,0=>by simp[bG]at h;simpa using h.1
 |d::r,h,i+1=>by simp[bG]at h;simpa using dq h.2 i
def jV:∀{ds:List D},od ds=true->∀i,(ds.getD i .any).fQ=true
 |[],_,i=>by simp[D.fQ]
 |d::r,h,0=>by simp[od]at h;simpa using h.1
 |d::r,h,i+1=>by simp[od]at h;simpa using jV h.2 i
def rN:∀{ds:List D},(∀i,i<ds.length->(ds.getD i .any).bI=true)->bG ds=true
 |[],_=>rfl
 |d::r,h=>by
  simp only[bG,bB];exact⟨by simpa using h 0 aJ,rN fun i hi=>by simpa using h (i+1) cY⟩
def l6 {d:D}(h:d.bI=true)(j:Nat):(d.cells.getD j .any).bI=true:=by
 cases d<;>simp only[D.cells]<;>first
  |(simp only[D.bI]at h;exact dq h j)
  |(cases j<;>simp_all[D.bI])
def RD.bI {v:Value}{d:D}(h:RD ν x v d)(hn:d.bI=true)(hI:∀b,x.I b->x'.I b)(hk:∀b,x.I b->x'.w.heap[b]? =x.w.heap[b]?):RD ν x' v d:=by
 induction h with
 |any v=>exact .any v
 |bool b=>exact .bool b
 |int k n=>exact .int k n
 |str s h=>exact .str s h
 |agg cs ds hl' h1 _ ih=>exact .agg cs ds hl' h1 fun i hi=>ih i hi (dq (by simpa[D.bI]using hn) i)
 |tup cs ds hl' _ ih=>exact .tup cs ds hl' fun i hi=>ih i hi (dq (by simpa[D.bI]using hn) i)
 |bq=>exact .bq
 |sl a b off len cap k es c hlen ha hcap hm hk' hn' hc h1 _ ih=>
  refine .sl a b off len cap k es c hlen (ha.imp id fun⟨p,q⟩=>⟨p,hI _ q⟩) hcap hm hk' hn' (fun i j hi hj=>?_) h1 fun i j hi hj=>ih i j hi hj (l6 (hn' i hi) j)
  grind [pA]
 |ref b off k i o at_ es c hIb hat hk' hn' hc h1 _ ih=>
  exact .ref b off k i o at_ es c (hI _ hIb) hat hk' hn' (fun i j hi hj=>pA (hk _ hIb) (hc i j hi hj)) h1 fun i j hi hj=>ih i j hi hj (l6 (hn' i hi) j)
 |ptr=>simp[D.bI]at hn
 |own=>simp[D.bI]at hn
 |own0=>simp[D.bI]at hn
 |nilp=>exact .nilp
 |fn fid n cs ds hν hl' _ ih=>exact .fn fid n cs ds hν hl' fun i hi=>ih i hi (dq (by simpa[D.bI]using hn) i)
 |e8 fid n cs ds hν hl' _ ih=>exact .e8 fid n cs ds hν hl' fun i hi=>ih i hi (dq (by simpa[D.bI]using hn) i)
 |nilf=>exact .nilf
 |mp r es cl ds hIr hh hl' _ ih=>exact .mp r es cl ds (hI _ hIr) ((hk _ hIr).trans hh) hl' fun i hi=>ih i hi (dq (by simpa[D.bI]using hn) i)
 |it=>simp[D.bI]at hn
def RD.fQ {v:Value}{d:D}(h:RD ν x v d)(hn:d.fQ=true):RD ν x' v d:=by
 induction h with
 |any v=>exact .any v
 |bool b=>exact .bool b
 |int k n=>exact .int k n
 |str s h=>exact .str s h
 |agg cs ds hl' h1 _ ih=>exact .agg cs ds hl' h1 fun i hi=>ih i hi (jV (by simpa[D.fQ]using hn) i)
 |tup cs ds hl' _ ih=>exact .tup cs ds hl' fun i hi=>ih i hi (jV (by simpa[D.fQ]using hn) i)
 |bq=>exact .bq
 |sl=>simp[D.fQ]at hn
 |ref=>simp[D.fQ]at hn
 |ptr=>simp[D.fQ]at hn
 |own=>simp[D.fQ]at hn
 |own0=>simp[D.fQ]at hn
 |nilp=>exact .nilp
 |fn fid n cs ds hν hl' _ ih=>exact .fn fid n cs ds hν hl' fun i hi=>ih i hi (jV (by simp[D.fQ]at hn;exact hn.2) i)
 |e8 fid n cs ds hν hl' _ ih=>exact .e8 fid n cs ds hν hl' fun i hi=>ih i hi (jV (by simp[D.fQ]at hn;exact hn.2) i)
 |nilf=>exact .nilf
 |mp=>simp[D.fQ]at hn
 |it=>simp[D.fQ]at hn
theorem RD.cells {v:Value}{d:D}(h:RD ν x v d)(hd:0<d.cells.length):
  v.cells.size=d.cells.length/\∀j,j<d.cells.length->(v.cells.getD j undef).oneCell'=true/\RD ν x (v.cells.getD j undef) (d.cells.getD j .any):=by
 cases h with
 |any=>simp[D.cells]at hd
 |tup=>simp[D.cells]at hd
 |agg cs ds hl h1 h=>exact⟨hl,fun j hj=>⟨h1 j hj,h j hj⟩⟩
 |bool b=>exact⟨rfl,fun j hj=>by simp[D.cells]at hj;subst hj;exact⟨rfl,.bool b⟩⟩
 |int k n=>exact⟨rfl,fun j hj=>by simp[D.cells]at hj;subst hj;exact⟨rfl,.int k n⟩⟩
 |str s h=>exact⟨rfl,fun j hj=>by simp[D.cells]at hj;subst hj;exact⟨rfl,.str s h⟩⟩
 |bq=>exact⟨rfl,fun j hj=>by simp[D.cells]at hj;subst hj;exact⟨rfl,.bq⟩⟩
 |sl a b off len cap k es c hlen ha hcap hm hk hn hc h1 h=>exact⟨rfl,fun j hj=>by simp[D.cells]at hj;subst hj;exact⟨rfl,.sl a b off len cap k es c hlen ha hcap hm hk hn hc h1 h⟩⟩
 |ref b off k i o at_ es c hI hat hk hn hc h1 h=>exact⟨rfl,fun j hj=>by simp[D.cells]at hj;subst hj;exact⟨rfl,.ref b off k i o at_ es c hI hat hk hn hc h1 h⟩⟩
 |ptr l k i o b base tot at_ hβ hat=>exact⟨rfl,fun j hj=>by simp[D.cells]at hj;subst hj;exact⟨rfl,.ptr l k i o b base tot at_ hβ hat⟩⟩
 |own l k i n b base tot cap a hβ ha hcap hm ht=>exact⟨rfl,fun j hj=>by simp[D.cells]at hj;subst hj;exact⟨rfl,.own l k i n b base tot cap a hβ ha hcap hm ht⟩⟩
 |own0 l k i a=>exact⟨rfl,fun j hj=>by simp[D.cells]at hj;subst hj;exact⟨rfl,.own0 l k i a⟩⟩
 |nilp=>exact⟨rfl,fun j hj=>by simp[D.cells]at hj;subst hj;exact⟨rfl,.nilp⟩⟩
 |fn fid n cs ds hν hl h=>exact⟨rfl,fun j hj=>by simp[D.cells]at hj;subst hj;exact⟨rfl,.fn fid n cs ds hν hl h⟩⟩
 |e8 fid n cs ds hν hl h=>exact⟨rfl,fun j hj=>by simp[D.cells]at hj;subst hj;exact⟨rfl,.e8 fid n cs ds hν hl h⟩⟩
 |nilf=>exact⟨rfl,fun j hj=>by simp[D.cells]at hj;subst hj;exact⟨rfl,.nilf⟩⟩
 |mp r es cl ds hI hh hl h=>exact⟨rfl,fun j hj=>by simp[D.cells]at hj;subst hj;exact⟨rfl,.mp r es cl ds hI hh hl h⟩⟩
 |it l b base tot hβ=>exact⟨rfl,fun j hj=>by simp[D.cells]at hj;subst hj;exact⟨rfl,.it l b base tot hβ⟩⟩
end
end
section
section
variable {ν:List (Nat×Nat)} {x x':X}
class dR where
 tB:TypeId:=0
 tU:TypeId:=0
 gd:X->Prop
 le:∀x x':X,(∀b,x.I b->x'.I b)->(∀b,x.I b->x'.w.heap[b]? =x.w.heap[b]?)->gd x->gd x'
variable [dR]
def o9 (ν:List (Nat×Nat))(x:X)(b base tot:Nat):bW->Prop
 | .buf k es=>0<k/\es.length<=tot/\∃c T fr,x.w.heap[b]? =some (.cells c T fr)/\base+tot*k<=c.size/\
   (∀o,o<c.size->¬(fr.1<=o/\o<fr.2))/\
   ∀i,i<es.length->(es.getD i .any).cells.length=k/\∀j,j<k->
    (c.getD (base+i*k+j) undef).oneCell'=true/\RD ν x (c.getD (base+i*k+j) undef) ((es.getD i .any).cells.getD j .any)
 | .iter s pos=>x.w.heap[b]? =some (.stringIter ⟨⟨s⟩⟩ pos)/\s.length<=maxLen
 | .row s=>base=0/\∃c,x.w.heap[b]? =some (.cells c dR.tU (0,0))/\c.size=tot/\tot<=maxLen/\s.length<=tot/\∀i,i<s.length->c.getD i undef=.int .u8 (s.getD i 0).toNat
 | .bld o n u=>base=0/\∃v,x.w.heap[b]? =some (.cells #[.pointer (if u=true then some ⟨b,0,none⟩else none),v] dR.tB (0,0))/\
   match o with
   |none=>n=0/\v=.slice none 0 0
   |some l=>∃g t,v=.slice (some ⟨g,0,none⟩) n t/\n<=t/\x.β l=some (g,0,t)
def rE (h:Le x x')(hg:dR.gd x):dR.gd x':=dR.le x x' h.I h.pk hg
structure gv (ν:List (Nat×Nat))(x:X)(f:Nat->Option bW):Prop where
 own:∀l blk b base tot,f l=some blk->x.β l=some (b,base,tot)->¬x.I b/\o9 ν x b base tot blk
 inj:∀l l' b base tot base' tot',f l≠none->f l'≠none->x.β l=some (b,base,tot)->x.β l'=some (b,base',tot')->l=l'
 imm:∀b,x.I b->b<x.w.heap.size
 e8:∀l b base tot,x.β l=some (b,base,tot)->b<x.w.heap.size
 gd:dR.gd x
structure Step (x x':X):Prop where
 os:x'.w.os=x.w.os
 tape:x'.w.tape=x.w.tape
 output:x'.w.output=x.w.output
 size:x.w.heap.size<=x'.w.heap.size
 I:∀b,x.I b->x'.I b
 pk:∀b,x.I b->x'.w.heap[b]? =x.w.heap[b]?
 β:∀l p,x.β l=some p->x'.β l=some p
 old:∀b,b<x.w.heap.size->(∀l p,x.β l=some p->p.1≠b)->x'.w.heap[b]? =x.w.heap[b]?
 newI:∀b,x'.I b->x.I b\/x.w.heap.size<=b\/∃l p,x.β l=some p/\p.1=b
 newβ:∀l p,x'.β l=some p->x.β l=some p\/x.w.heap.size<=p.1\/∃l' p',x.β l'=some p'/\p'.1=p.1
def Step.le (h:Step x x'):Le x x':=⟨h.I,h.pk,h.β⟩
def Step.refl (x:X):Step x x:=⟨rfl,rfl,rfl,aL _,fun _ h=>h,fun _ _=>rfl,fun _ _ h=>h,fun _ _ _=>rfl,fun _ h=>.inl h,fun _ _ h=>.inl h⟩
def Step.trans {x'':X}(h:Step x x')(h':Step x' x''):Step x x'':=by
 refine⟨h'.os.trans h.os,h'.tape.trans h.tape,h'.output.trans h.output,dm h.size h'.size,fun b hb=>h'.I b (h.I b hb),
  fun b hb=>(h'.pk b (h.I b hb)).trans (h.pk b hb),fun l p hp=>h'.β l p (h.β l p hp), ?_, ?_, ?_⟩
 .intro b hb hn;refine(h'.old b (fm hb h.size) ?_).trans (h.old b hb hn);intro l p hp e;rcases h.newβ l p hp with h1|h1|⟨l',p',h1,h2⟩
  .exact hn l p h1 e
  .omega
  .exact hn l' p' h1 (h2.trans e)
 .intro b hb;rcases h'.newI b hb with h1|h1|⟨l,p,h1,h2⟩
  .exact h.newI b h1
  .exact .inr (.inl (dm h.size h1))
  .rcases h.newβ l p h1 with h3|h3|⟨l',p',h3,h4⟩
   .exact .inr (.inr ⟨l,p,h3,h2⟩)
   .exact .inr (.inl (h2▸h3))
   .exact .inr (.inr ⟨l',p',h3,h4.trans h2⟩)
 .intro l p hp;rcases h'.newβ l p hp with h1|h1|⟨l',p',h1,h2⟩
  .exact h.newβ l p h1
  .exact .inr (.inl (dm h.size h1))
  .rcases h.newβ l' p' h1 with h3|h3|⟨l'',p'',h3,h4⟩
   .exact .inr (.inr ⟨l',p',h3,h2⟩)
   .exact .inr (.inl (h2▸h3))
   .exact .inr (.inr ⟨l'',p'',h3,h4.trans h2⟩)
def o9.mono {b base tot:Nat}{blk:bW}(h:o9 ν x b base tot blk)(hl:Le x x')(hb:x'.w.heap[b]? =x.w.heap[b]?):o9 ν x' b base tot blk:=by
 cases blk with
 |buf k es=>
  obtain⟨hk,ht,c,T,fr,h1,h2,h3,h4⟩:=h;exact⟨hk,ht,c,T,fr,hb.trans h1,h2,h3,fun i hi=>⟨(h4 i hi).1,fun j hj=>⟨((h4 i hi).2 j hj).1,((h4 i hi).2 j hj).2.mono hl⟩⟩⟩
 |iter s pos=>exact⟨hb.trans h.1,h.2⟩
 |row s=>
  obtain⟨h0,c,h1,h2⟩:=h;exact⟨h0,c,hb.trans h1,h2⟩
 |bld o n u=>
  obtain⟨h0,v,h1,h2⟩:=h;refine⟨h0,v,hb.trans h1, ?_⟩;cases o with
  |none=>exact h2
  |some l=>
   obtain⟨g,t,h3,h4,h5⟩:=h2;exact⟨g,t,h3,h4,hl.β _ _ h5⟩
structure gU (w w':World):Prop where
 os:w'.os=w.os
 tape:w'.tape=w.tape
 output:w'.output=w.output
 size:w.heap.size<=w'.heap.size
 old:∀b,b<w.heap.size->w'.heap[b]? =w.heap[b]?
def gU.refl (w:World):gU w w:=⟨rfl,rfl,rfl,aL _,fun _ _=>rfl⟩
def mr (w:World)(o:Obj)(b:Nat)(hb:b<w.heap.size):(w.alloc o).heap[b]? =w.heap[b]? :=by
 simp only[World.alloc,Array.getElem?_push];rw[ak ae]
def eV (w:World)(o:Obj):(w.alloc o).heap[w.heap.size]? =some o:=by show(w.heap.push o)[w.heap.size]? =some o;simp
def gU.alloc (w:World)(o:Obj):gU w (w.alloc o):=⟨rfl,rfl,rfl,aJ,fun b hb=>mr w o b hb⟩
def gU.trans {w w' w'':World}(h:gU w w')(h':gU w' w''):gU w w'':=
 ⟨h'.os.trans h.os,h'.tape.trans h.tape,h'.output.trans h.output,dm h.size h'.size,fun b hb=>(h'.old b (fm hb h.size)).trans (h.old b hb)⟩
def gU.drew (w:World):gU w w.drew:=⟨rfl,rfl,rfl,aL _,fun _ _=>rfl⟩
def Step.grow {w':World}(hw:gU x.w w')(himm:∀b,x.I b->b<x.w.heap.size):Step x ⟨w',x.I,x.β⟩:=
 ⟨hw.os,hw.tape,hw.output,hw.size,fun _ h=>h,fun b hb=>hw.old b (himm b hb),fun _ _ h=>h,fun b hb _=>hw.old b hb,fun _ h=>.inl h,fun _ _ h=>.inl h⟩
def gv.grow {f:Nat->Option bW}{w':World}(h:gv ν x f)(hw:gU x.w w'):gv ν ⟨w',x.I,x.β⟩ f:=
 ⟨fun l blk b base tot h1 h2=>⟨(h.own l blk b base tot h1 h2).1,(h.own l blk b base tot h1 h2).2.mono (Step.grow hw h.imm).le (hw.old b (h.e8 l b base tot h2))⟩,
  h.inj,fun b hb=>fm (h.imm b hb) hw.size,fun l b base tot hb=>fm (h.e8 l b base tot hb) hw.size,rE (Step.grow hw h.imm).le h.gd⟩
def eU (β:Nat->Option (Nat×Nat×Nat))(L:Nat)(p:Nat×Nat×Nat):Nat->Option (Nat×Nat×Nat):=fun l=>if l=L then some p else β l
def mO (f:Nat->Option bW)(L:Nat)(b:Option bW):Nat->Option bW:=fun l=>if l=L then b else f l
def BF {w':World}{L n base tot:Nat}(hw:gU x.w w')(hn:x.w.heap.size<=n)(hL:x.β L=none)(himm:∀b,x.I b->b<x.w.heap.size):
  Step x ⟨w',x.I,eU x.β L (n,base,tot)⟩:=by
 refine⟨hw.os,hw.tape,hw.output,hw.size,fun _ h=>h,fun b hb=>hw.old b (himm b hb),fun l p hp=>?_,fun b hb _=>hw.old b hb,fun _ h=>.inl h,fun l p hp=>?_⟩
 .grind [eU]
 grind [eU]
def VR {f:Nat->Option bW}{w':World}{L n base tot:Nat}{blk:bW}(h:gv ν x f)(hw:gU x.w w')(hn:x.w.heap.size<=n)(hnw:n<w'.heap.size)(hL:x.β L=none)
  (hb:o9 ν ⟨w',x.I,eU x.β L (n,base,tot)⟩ n base tot blk):gv ν ⟨w',x.I,eU x.β L (n,base,tot)⟩ (mO f L (some blk)):=by
 have hle:=(BF (base:=base) (tot:=tot) hw hn hL h.imm).le;refine⟨fun l blk' b base' tot' h1 h2=>?_,fun l l' b base' tot' base'' tot'' h1 h1' h2 h2'=>?_,fun b hb=>fm (h.imm b hb) hw.size,fun l b base' tot' h2=>?_,rE hle h.gd⟩
 .by_cases e:l=L
  .subst e;simp only[eU,aW,bh,eG]at h2;simp only[mO,aW,bh]at h1;obtain⟨rfl,rfl,rfl⟩:=h2;subst h1;exact⟨fun hI=>by have:=h.imm _ hI;omega,hb⟩
  .simp only[eU,e,aX]at h2;simp only[mO,e,aX]at h1;obtain⟨a1,a2⟩:=h.own l blk' b base' tot' h1 h2;exact⟨a1,a2.mono hle (hw.old b (h.e8 l b base' tot' h2))⟩
 .by_cases e:l=L<;>by_cases e':l'=L
  .exact e.trans e'.symm
  .simp only[eU,e,aW,bh,eG]at h2;simp only[eU,e',aX]at h2';have:=h.e8 l' b base'' tot'' h2';obtain⟨h2,_,_⟩:=h2;omega
  .simp only[eU,e',aW,bh,eG]at h2';simp only[eU,e,aX]at h2;have:=h.e8 l b base' tot' h2;obtain⟨h2',_,_⟩:=h2';omega
  .simp only[eU,e,aX]at h2;simp only[eU,e',aX]at h2';simp only[mO,e,aX]at h1;simp only[mO,e',aX]at h1';exact h.inj l l' b base' tot' base'' tot'' h1 h1' h2 h2'
 .by_cases e:l=L
  .simp only[eU,e,aW,bh,eG]at h2;obtain⟨h2,_,_⟩:=h2;show b<w'.heap.size;omega
  .simp only[eU,e,aX]at h2;exact fm (h.e8 l b base' tot' h2) hw.size
variable {P:Program} {w:World}
def pj {t:TypeId}(h:P.cellsOf t≠0):∃i,P.info? t=some i/\i.size=P.cellsOf t:=by
 unfold Program.cellsOf at h⊢;cases hi:P.info? t with
 |none=>simp[hi]at h
 |some i=>exact⟨i,rfl,aJ⟩
def dY {t:TypeId}(h:P.cellsOf t≠0):(sizeOf t).run P w=.ok (P.cellsOf t) w:=by
 obtain⟨i,hi,hs⟩:=pj h;simp[sizeOf,typeInfo,hi,hs]
def uv {t:TypeId}(h:(P.underlying t).isNone=false):(isAgg t).run P w=.ok (cL P t) w:=by
 cases hu:P.underlying t with
 |none=>simp[hu]at h
 |some d=>unfold isAgg cL;rw[Sem.run_bind,run_underlying hu w];simp only[hu,Result.andThen];cases d<;>rfl
theorem Addr.yg (b o n:Nat):(⟨b,o,none⟩:Addr).add n=⟨b,o+n,none⟩:=by unfold Addr.add;split<;>simp_all
end
end
section
variable [dR]
section
variable {ν:List (Nat×Nat)} {x:X} {f:Nat->Option bW} {P:Program}
mutual
theorem ny:∀(v:Value) (d:D),fY v=some d->RD ν x v d
 | .bool b,d,h=>by simp[fY]at h;subst h;exact .bool b
 | .int k n,d,h=>by simp[fY]at h;subst h;exact .int k n
 | .string ⟨⟨s⟩⟩,d,h=>by
  simp only[fY]at h;split at h
  .rename_i hs;simp only[bh]at h;subst h;exact .str s (by simpa[maxLen,ByteArray.size]using hs)
  .cases h
 | .pointer none,d,h=>by simp[fY]at h;subst h;exact .nilp
 | .slice none 0 0,d,h=>by simp[fY]at h;subst h;exact .bq
 | .nilFunc,d,h=>by simp[fY]at h;subst h;exact .nilf
 | .agg ⟨cs⟩,d,h=>by
  simp only[fY]at h;split at h
  .rename_i hone;cases hc:sJ cs with
   |none=>simp[hc]at h
   |some ds=>
    simp[hc]at h;subst h;obtain⟨hl,hr⟩:=tp cs ds hc;refine .agg ⟨cs⟩ ds (by simpa using hl) (fun i hi=>?_) (fun i hi=>by simpa using hr i hi);have:=rj cs hone i ae;simpa using this
  .cases h
 | .float _ _,d,h=>by simp[fY]at h
 | .complex _ _ _,d,h=>by simp[fY]at h
 | .pointer (some _),d,h=>by simp[fY]at h
 | .slice (some _) _ _,d,h=>by simp[fY]at h
 | .slice none (_+1) _,d,h=>by simp[fY]at h
 | .slice none 0 (_+1),d,h=>by simp[fY]at h
 | .map _,d,h=>by simp[fY]at h
 | .chan _,d,h=>by simp[fY]at h
 | .func _ _ _,d,h=>by simp[fY]at h
 | .iface _ _,d,h=>by simp[fY]at h
 | .nilIface,d,h=>by simp[fY]at h
 | .tuple _,d,h=>by simp[fY]at h
theorem tp:∀(vs:List Value) (ds:List D),sJ vs=some ds->vs.length=ds.length/\∀i,i<ds.length->RD ν x (vs.getD i undef) (ds.getD i .any)
 |[],ds,h=>by simp[sJ]at h;subst h;simp
 |v::r,ds,h=>by
  simp only[sJ]at h;split at h
  .rename_i d ds' h1 h2;simp only[bh]at h;subst h;have a:=ny v d h1;obtain⟨b1,b2⟩:=tp r ds' h2;refine⟨by simp[b1],fun i hi=>?_⟩;cases i with
   |zero=>simpa using a
   |succ i=>simpa using b2 i (by simpa using hi)
  .cases h
theorem rj:∀(vs:List Value),uT vs=true->∀i,i<vs.length->(vs.getD i undef).oneCell'=true
 |[],_,i,hi=>by simp at hi
 |v::r,h,i,hi=>by
  simp only[uT,bB]at h;cases i with
  |zero=>simp;cases v<;>simp_all[Value.oneCell']
  |succ i=>simpa using rj r h.2 i (by simpa using hi)
end
def BZ (ν:List (Nat×Nat))(x:X)(f:Nat->Option bW)(L:Nat)(d:D)(r:Result Next):Prop:=
 ∃v x',(r=.ok (.value v) x'.w\/r=.ok .skip x'.w/\v=undef)/\Step x x'/\RD ν x' v d/\gv ν x' f/\∀l,l≠L->x'.β l=x.β l
def bT {L:Nat}{d:D}{v:Value}{r:Result Next}(hs:gv ν x f)(hr:r=.ok (.value v) x.w)(hd:RD ν x v d):BZ ν x f L d r:=
 ⟨v,x,.inl hr,.refl x,hd,hs,fun _ _=>rfl⟩
def xp (C:CC)(defs:List (Option Nat))(J:Src->cg)(ev:Operand->Value)(x:X)(os:List Operand):Prop:=
 ∀o,o∈os->∀s,C.src defs o=some s->(J s).ok=true->RD C.ν x (ev o) (J s).d
def RD.jR {v:Value}{b:Bool}(h:RD ν x v (.bool b)):v=.bool b:=by cases h;rfl
def RD.dW {v:Value}{k:IntKind}{n:Int}(h:RD ν x v (.int k n)):v=.int k n:=by cases h;rfl
def RD.ja {v:Value}{s:List UInt8}(h:RD ν x v (.str s)):v=.string ⟨⟨s⟩⟩/\s.length<=maxLen:=by cases h;exact⟨rfl,‹_›⟩
def RD.pick {b:Bool}{u v:Value}{d e:D}(h1:b=true->RD ν x u d)(h2:b=false->RD ν x v e):RD ν x (if b then u else v) (D.pick b d e):=by
 cases b
 .have:=h2 rfl;simp only[gy,aX];cases d<;>cases e<;>simp only[D.pick,cond_false]<;>exact this
 .have:=h1 rfl;simp only[aW];cases d<;>cases e<;>simp only[D.pick,cond_true]<;>exact this
def HL {op:BinOp}{t:TypeId}{k k':IntKind}{a b:Int}(w:World)(hb:jI op (.int k a) (.int k' b)):
  ∃v,(binOp op t (.int k a) (.int k' b)).run P w=.ok v w/\RD ν x v (jZ op (.int k a) (.int k' b)):=by
 cases op<;>simp only[jI]at hb<;>simp only[binOp,jZ,ne_eq]
 case shl=>exact⟨_,by simp[Op.shift,show ¬b<0 by omega],.int _ _⟩
 case shr=>exact⟨_,by simp[Op.shift,show ¬b<0 by omega],.int _ _⟩
 case quo=>obtain⟨rfl,hb⟩:=hb;exact⟨_,by simp[Op.intDiv,hb],.int _ _⟩
 case rem=>obtain⟨rfl,hb⟩:=hb;exact⟨_,by simp[Op.intDiv,hb],.int _ _⟩
 case and=>subst hb;exact⟨_,by simp[Op.intBits],.int _ _⟩
 case or=>subst hb;exact⟨_,by simp[Op.intBits],.int _ _⟩
 case xor=>subst hb;exact⟨_,by simp[Op.intBits],.int _ _⟩
 case andNot=>subst hb;exact⟨_,by simp[Op.intBits],.int _ _⟩
 case add=>subst hb;exact⟨_,by simp[Op.intArith],.int _ _⟩
 case sub=>subst hb;exact⟨_,by simp[Op.intArith],.int _ _⟩
 case mul=>subst hb;exact⟨_,by simp[Op.intArith],.int _ _⟩
 case eql=>subst hb;exact⟨_,by simp[Op.intCmp],.bool _⟩
 case neq=>subst hb;exact⟨_,by simp[Op.intCmp],.bool _⟩
 case lss=>subst hb;exact⟨_,by simp[Op.intCmp],.bool _⟩
 case leq=>subst hb;exact⟨_,by simp[Op.intCmp],.bool _⟩
 case gtr=>subst hb;exact⟨_,by simp[Op.intCmp],.bool _⟩
 case geq=>subst hb;exact⟨_,by simp[Op.intCmp],.bool _⟩
def Ee (a b:List UInt8):(⟨⟨a⟩⟩:ByteArray)++⟨⟨b⟩⟩=⟨⟨a++b⟩⟩:=by
 have h:((⟨⟨a⟩⟩:ByteArray)++⟨⟨b⟩⟩).data=(⟨a++b⟩:Array UInt8):=by
  rw[ByteArray.data_append];simp
 exact aj ByteArray.mk h
def HM {op:BinOp}{t:TypeId}{a b:List UInt8}(w:World)(hb:jI op (.str a) (.str b)):
  ∃v,(binOp op t (.string ⟨⟨a⟩⟩) (.string ⟨⟨b⟩⟩)).run P w=.ok v w/\RD ν x v (jZ op (.str a) (.str b)):=by
 have hs:∀l:List UInt8,(⟨⟨l⟩⟩:ByteArray).size=l.length:=fun _=>rfl
 cases op<;>simp only[jI]at hb<;>simp only[binOp,jZ]
 case add=>
  refine⟨.string ⟨⟨a++b⟩⟩, ?_,.str _ (by simp[maxLen];omega)⟩;have:¬(((⟨⟨a⟩⟩:ByteArray).size+(⟨⟨b⟩⟩:ByteArray).size:Nat):Int)>IntKind.i64.max:=by
   rw[hs,hs];simp only[IntKind.max,IntKind.signed,IntKind.bits,aW];omega
  simp only[Op.stringOp,this,aX,Sem.run_pure,Ee]
 all_goals
  refine⟨_,by simp only[Op.stringOp,Sem.run_pure];rfl, ?_⟩;simp only[ByteArray.toList_eq];exact .bool _
def mC (op:BinOp)(t:TypeId)(p q:Operand){u v:Value}(h:(∀cs,u≠.agg cs)/\u≠.nilIface)(w:World):(eqGuard op t p q u v).run P w=.ok () w:=by
 obtain⟨h1,h2⟩:=h;unfold eqGuard;cases op<;>simp<;>(split<;>first|rfl|simp_all)
def fj {α:Type}(l:List α)(o n:Nat)(d:α)(j:Nat)(hj:j<n):((l.drop o).take n).getD j d=l.getD (o+j) d:=by
 grind
def jA {α:Type}(l:List α)(o n:Nat)(h:o+n<=l.length):((l.drop o).take n).length=n:=by
 simp;omega
theorem cB (cs:Array Value)(i:Nat)(d:Value):cs.toList.getD i d=cs.getD i d:=by
 simp[List.getD,Array.getD];split<;>simp_all
def pW {t:TypeId}{cs:Array Value}{ds:List D}{off n:Nat}{ag:Bool}(w:World)(hv:RD ν x (.agg cs) (.agg ds))(ht:P.cellsOf t≠0)(hu:(P.underlying t).isNone=false)
  (hn:n=P.cellsOf t) (hag:ag=cL P t) (hle:off+n<=ds.length) (h1:ag=false->n=1):
  ∃v,(part t cs off).run P w=.ok v w/\RD ν x v (cut ds off n ag):=by
 cases hv with
 |agg _ _ hl hone h=>
  unfold part;rw[Sem.run_bind,uv hu];subst hag;cases hb:cL P t
  .have hn1:=h1 (by rw[hb]);have hlt:off<cs.size:=ae;refine⟨cs.getD off undef, ?_, ?_⟩
   .simp[Result.andThen,Array.getElem?_eq_getElem hlt,Array.getD,hlt]
   .simp only[cut,cond_false];exact h off ae
  .refine⟨.agg (cs.extract off (off+n)), ?_, ?_⟩
   .simp[Result.andThen,dY ht,hn]
   .simp only[cut,cond_true];refine .agg _ _ ?_ ?_ ?_
    .simp;omega
    .intro i hi;simp at hi;have:=hone (off+i) ae;rw[<-this];congr 1;simp[Array.getD,show off+i<cs.size by omega,show i<min (off+n) cs.size-off by omega]
    .intro i hi;simp at hi;rw[fj _ _ _ _ _ ae];have:=h (off+i) ae;have e:(cs.extract off (off+n)).getD i undef=cs.getD (off+i) undef:=by
      simp[Array.getD,show off+i<cs.size by omega,show i<min (off+n) cs.size-off by omega]
     rw[e];exact this
end
end
section
variable [dR]
section
variable {x:X} {f:Nat->Option bW} {C:CC} {defs:List (Option Nat)} {J:Src->cg} {ev:Operand->Value} {Y:Ctx} {m:List (Nat×bW)} {L:Nat}
def iC {os':List Operand}(hρ:xp C defs J ev x os'):∀(os:List Operand) (ss:List Src),(∀o∈os,o∈os')->C.uA defs os=some ss->xP J ss->
  os.length=ss.length/\(jj J ss).length=os.length/\∀i,i<(jj J ss).length->RD C.ν x ((os.map ev).getD i undef) ((jj J ss).getD i .any)
 |[],ss,_,h,_=>by simp[CC.uA]at h;subst h;simp[jj]
 |o::r,ss,hm,h,hk=>by
  simp only[CC.uA]at h;split at h
  .rename_i a l h1 h2;simp only[bh]at h;subst h;simp only[xP]at hk;obtain⟨b1,b2,b3⟩:=iC hρ r l (fun o ho=>hm o (.tail _ ho)) h2 hk.2;refine⟨by simp[b1],by simp[jj,b2],fun i hi=>?_⟩;cases i with
   |zero=>simpa[jj]using hρ o (hm o (.head _)) a h1 hk.1
   |succ i=>simpa[jj]using b3 i (by simpa[jj]using hi)
  .cases h
def Ar (off:Nat):∀(new:List Value) (st:Nat) (acc:Array Value),off+st+new.length<=acc.size->
  ((new.zipIdx st).foldl (fun cs (c,j)=>cs.setIfInBounds (off+j) c) acc).size=acc.size/\
  ∀q,((new.zipIdx st).foldl (fun cs (c,j)=>cs.setIfInBounds (off+j) c) acc)[q]? =if off+st<=q/\q<off+st+new.length then new[q-(off+st)]? else acc[q]?
 |[],st,acc,_=>⟨aJ,fun q=>cY⟩
 |c::r,st,acc,hb=>by
  simp only[aP]at hb;obtain⟨h1,h2⟩:=Ar off r (st+1) (acc.setIfInBounds (off+st) c) cY;refine⟨by simpa[List.zipIdx_cons]using h1,fun q=>?_⟩;rw[List.zipIdx_cons,List.foldl_cons,h2 q]
  grind
def rS {os':List Operand}(hρ:xp C defs J ev x os')(place:Nat->Option (Nat×Nat))(len:Nat):∀(ps:List (Nat×Operand)) (ss:List (Nat×Nat×Src)),
  (∀p∈ps,p.2∈os')->C.parts defs place ps=some ss->CT J len ss->∀(cs:Array Value) (ds:List D),cs.size=len->RD C.ν x (.agg cs) (.agg ds)->
  ∃cs',Instr.fill place cs (ps.map fun(i,o)=>(i,ev o))=some cs'/\RD C.ν x (.agg cs') (.agg (An J ds ss))
 |[],ss,_,h,_,cs,ds,_,hr=>by simp[CC.parts]at h;subst h;exact⟨cs,by simp[Instr.fill],by simpa[An]using hr⟩
 |(i,o)::r,ss,hm,h,hk,cs,ds,hlen,hr=>by
  simp only[CC.parts]at h;split at h
  .rename_i off n s l h1 h2 h3;split at h
   .cases h
   rename_i hn0;simp only[bh]at h;subst h;simp only[CT]at hk;obtain⟨k1,k2,k3,k4⟩:=hk;have hn:0<n:=ae;have hv:=hρ o (hm _ (.head _)) s h2 k1;obtain⟨c1,c2⟩:=hv.cells ae;have hsz:(ev o).cells.size=n:=ae;cases hr with
   |agg _ _ hl hone hh=>
   let cs1:Array Value:=((ev o).cells.toList.zipIdx 0).foldl (fun cs (c,j)=>cs.setIfInBounds (off+j) c) cs
   have harr:(ev o).cells.zipIdx.foldl (fun cs (c,j)=>cs.setIfInBounds (off+j) c) cs=cs1:=by
    rw[<-Array.foldl_toList];simp[cs1]
   have hcs1:=harr;obtain⟨hsz1,hgq⟩:=Ar off (ev o).cells.toList 0 cs cY;have hget:∀q,q<cs.size->cs1.getD q undef=if q<off then cs.getD q undef else if q<off+n then(ev o).cells.getD (q-off) undef else cs.getD q undef:=by
    intro q hq;have:=hgq q;rw[<-cB,<-cB cs,<-cB (ev o).cells];simp only[List.getD,Array.getElem?_toList];rw[show cs1[q]? =_ from this];simp only[Array.length_toList,hsz,Nat.add_zero];by_cases q1:q<off
    .rw[aw q1,ak ae]
    .rw[ak q1];by_cases q2:q<off+n
     .rw[aw q2,aw ae];simp
     .rw[ak q2,ak ae]
   have hsz1:cs1.size=cs.size:=hsz1;have hdlen:(over ds off (J s).d.cells).length=ds.length:=by simp[over];omega
   have hdget:∀q,q<ds.length->(over ds off (J s).d.cells).getD q .any=if q<off then ds.getD q .any else if q<off+n then(J s).d.cells.getD (q-off) .any else ds.getD q .any:=by
    intro q hq;simp only[over,List.getD,List.getElem?_append,er];by_cases q1:q<off
    .rw[aw ae,aw q1];simp[List.getElem?_take,q1]
    .rw[ak ae,ak q1,show q-min off ds.length=q-off by omega];by_cases q2:q<off+n
     .rw[aw q2,aw ae]
     .rw[ak q2,ak ae];simp only[List.getElem?_drop];congr 3;omega
   have hr1:RD C.ν x (.agg cs1) (.agg (over ds off (J s).d.cells)):=by
    refine .agg _ _ ae (fun q hq=>?_) (fun q hq=>?_)
    .rw[hdlen]at hq;rw[hget q ae];split
     .exact hone q hq
     .split
      .exact(c2 (q-off) ae).1
      .exact hone q hq
    .rw[hdlen]at hq;rw[hget q ae,hdget q hq];split
     .exact hh q hq
     .split
      .exact(c2 (q-off) ae).2
      .exact hh q hq
   obtain⟨cs',g1,g2⟩:=rS hρ place len r l (fun p hp=>hm p (.tail _ hp)) h3 k4 cs1 _ ae hr1;refine⟨cs', ?_,by simpa[An]using g2⟩;simp only[List.map_cons,Instr.fill,h1];rw[ak (by simp[hsz];omega),hcs1];exact g1
  .cases h
end
section
variable {ν:List (Nat×Nat)} {x:X} {P:Program}
def jy:∀(ks:List CK) (ds:List D),gE ks ds->ds.length=ks.length
 |[],[],_=>rfl
 |[],_::_,h=>by simp[gE]at h
 |_::_,[],h=>by simp[gE]at h
 |c::r,d::ds,h=>by have:=jy r ds (by simp[gE]at h;exact h.2);simp;omega
def kR:∀(a b:List CK) (ds:List D),gE (a++b) ds->gE a (ds.take a.length)/\gE b (ds.drop a.length)
 |[],b,ds,h=>by simpa[gE]using h
 |c::r,b,[],h=>by simp[gE]at h
 |c::r,b,d::ds,h=>by
  simp only[fB,gE]at h;obtain⟨h1,h2⟩:=kR r b ds h.2
  grind [gE]
def tL:∀(n:Nat) (ds es:List D),ds.length=es.length->jk ds es=(jk (ds.take n) (es.take n)&&jk (ds.drop n) (es.drop n))
 |0,ds,es,_=>by simp[jk]
 |n+1,[],[],_=>by simp[jk]
 |n+1,[],_::_,h=>by simp at h
 |n+1,_::_,[],h=>by simp at h
 |n+1,d::ds,e::es,h=>by
  simp only[jk,List.take_succ_cons,List.drop_succ_cons];rw[tL n ds es (by simpa using h),Bool.and_assoc]
def Gm {c:CK}{d:D}(h:c.fits d):d.cells=[d]/\d.isAgg=false:=by
 cases c<;>cases d<;>simp_all[CK.fits,D.cells,D.isAgg]
def mD {c:CK}{d:D}(h:gE [c] d.cells)(ha:d.isAgg=false):c.fits d:=by
 cases d<;>simp_all[D.cells,D.isAgg,gE]
def sK {ds:List D}{off n:Nat}{ag:Bool}{ks:List CK}(h:gE ks ((ds.drop off).take n))(hn:ag=false->n=1)(hle:off+n<=ds.length):
  (cut ds off n ag).cells=(ds.drop off).take n/\(cut ds off n ag).isAgg=ag:=by
 cases ag
 .have:=hn rfl;subst this;have hlt:off<ds.length:=ae;have e:(ds.drop off).take 1=[ds.getD off .any]:=by
   rw[iW hlt];simp[List.getD,hlt,List.take]
  rw[e]at h⊢;cases ks with
  |nil=>simp[gE]at h
  |cons c r=>
   simp only[gE]at h;exact Gm h.1
 .exact⟨rfl,rfl⟩
def IK (ν:List (Nat×Nat))(x:X)(P:Program)(n:Nat)(t:TypeId)(ks:List CK):Prop:=
 ∀u v d e (w:World),RD ν x u d->RD ν x v e->d.isAgg=cL P t->e.isAgg=cL P t->gE ks d.cells->gE ks e.cells->
  (Op.equalIn n t u v).run P w=.ok (jk d.cells e.cells) w
def Az {n:Nat}{t:TypeId}{ks:List CK}(h:gT P n t=some ks)(ha:cL P t=false):ks.length=1:=by
 cases n with
 |zero=>simp[gT]at h
 |succ n=>
  grind [gT,cL]
def vc (n depth:Nat)(ih:∀t ks,gT P depth t=some ks->IK ν x P n t ks)(xs ys:Array Value)(ds es:List D)(h1:RD ν x (.agg xs) (.agg ds))(h2:RD ν x (.agg ys) (.agg es))(w:World):
  ∀(fs:List Field) (off:Nat) (ks:List CK),mK P (fun t=>gT P depth t) off fs=some ks->off<=ds.length->off<=es.length->gE ks (ds.drop off)->gE ks (es.drop off)->
  (Op.eqFields n xs ys fs).run P w=.ok (jk (ds.drop off) (es.drop off)) w
 |[],off,ks,hk,_,_,f1,f2=>by
  simp[mK]at hk;subst hk;have a:=jy _ _ f1;have b:=jy _ _ f2;have a':ds.drop off=[]:=mh a;have b':es.drop off=[]:=mh b;rw[a',b'];simp[Op.eqFields,jk]
 |f::fs,off,ks,hk,l1,l2,f1,f2=>by
  simp only[mK]at hk;split at hk
  .cases hk
  .rename_i hne;have hname:f.name≠ "_" :=fun e=>hne (.inl e)
   have hoff:f.offset=off:=by
    rcases Nat.decEq f.offset off with h|h
    .exact absurd (.inr h) hne
    .exact h
   split at hk
   .rename_i a b ha hb;split at hk
    .rename_i hlen;obtain⟨hlen,hnz,hund⟩:=hlen;simp only[bh]at hk;subst hk;obtain⟨fa1,fb1⟩:=kR a b _ f1;obtain⟨fa2,fb2⟩:=kR a b _ f2;have la:=jy _ _ f1;have lb:=jy _ _ f2;simp only[jO,bP]at la lb;have hag:cL P f.type=false->P.cellsOf f.type=1:=fun e=>by rw[<-hlen];exact Az ha e
     obtain⟨u,r1,r2⟩:=pW (P:=P) (off:=off) (n:=P.cellsOf f.type) (ag:=cL P f.type) w h1 ae hund rfl rfl ae hag;obtain⟨v,s1,s2⟩:=pW (P:=P) (off:=off) (n:=P.cellsOf f.type) (ag:=cL P f.type) w h2 ae hund rfl rfl ae hag;rw[hlen]at fa1 fa2 fb1 fb2;obtain⟨c1,c2⟩:=sK (ag:=cL P f.type) fa1 hag ae;obtain⟨d1,d2⟩:=sK (ag:=cL P f.type) fa2 hag ae;have he:=ih f.type a ha u v _ _ w r2 s2 c2 d2 (by rw[c1];exact fa1) (by rw[d1];exact fa2);rw[List.drop_drop]at fb1 fb2;have hrest:=vc n depth ih xs ys ds es h1 h2 w fs (off+P.cellsOf f.type) b hb ae ae fb1 fb2;rw[tL (P.cellsOf f.type) (ds.drop off) (es.drop off) cY];simp only[Op.eqFields,hname,ne_eq,not_false_eq_true,aW,Sem.run_bind,hoff,r1,s1,he,Result.andThen_ok,Sem.run_ite,hrest];rw[c1,d1,List.drop_drop,List.drop_drop];cases jk ((ds.drop off).take (P.cellsOf f.type)) ((es.drop off).take (P.cellsOf f.type))<;>simp
    .cases hk
   .cases hk
def xA (n:Nat)(e:TypeId)(l:List CK)(ih:IK ν x P n e l)(hc:l.length=P.cellsOf e)(hnz:l.length≠0)(hund:(P.underlying e).isNone=false)(hag:cL P e=false->P.cellsOf e=1)
  (xs ys:Array Value) (ds es:List D) (h1:RD ν x (.agg xs) (.agg ds)) (h2:RD ν x (.agg ys) (.agg es)) (w:World):
  ∀(len j:Nat),j*P.cellsOf e<=ds.length->j*P.cellsOf e<=es.length->gE (List.replicate len l).flatten (ds.drop (j*P.cellsOf e))->gE (List.replicate len l).flatten (es.drop (j*P.cellsOf e))->
  (Op.eqItems n e (P.cellsOf e) xs ys (List.range' j len)).run P w=.ok (jk (ds.drop (j*P.cellsOf e)) (es.drop (j*P.cellsOf e))) w
 |0,j,_,_,f1,f2=>by
  have a:=jy _ _ f1;have b:=jy _ _ f2;have a':ds.drop (j*P.cellsOf e)=[]:=mh (by simpa using a);have b':es.drop (j*P.cellsOf e)=[]:=mh (by simpa using b);rw[a',b'];simp[Op.eqItems,jk]
 |len+1,j,l1,l2,f1,f2=>by
  simp only[List.replicate_succ,List.flatten_cons]at f1 f2;obtain⟨fa1,fb1⟩:=kR _ _ _ f1;obtain⟨fa2,fb2⟩:=kR _ _ _ f2;have la:=jy _ _ f1;have lb:=jy _ _ f2;simp only[jO,bP]at la lb;have hj:(j+1)*P.cellsOf e=j*P.cellsOf e+P.cellsOf e:=Nat.succ_mul _ _;obtain⟨u,r1,r2⟩:=pW (P:=P) (off:=j*P.cellsOf e) (n:=P.cellsOf e) (ag:=cL P e) w h1 ae hund rfl rfl ae hag;obtain⟨v,s1,s2⟩:=pW (P:=P) (off:=j*P.cellsOf e) (n:=P.cellsOf e) (ag:=cL P e) w h2 ae hund rfl rfl ae hag;rw[hc]at fa1 fa2 fb1 fb2;obtain⟨c1,c2⟩:=sK (ag:=cL P e) fa1 hag ae;obtain⟨d1,d2⟩:=sK (ag:=cL P e) fa2 hag ae;have he:=ih u v _ _ w r2 s2 c2 d2 (by rw[c1];exact fa1) (by rw[d1];exact fa2);rw[List.drop_drop,<-hj]at fb1 fb2;have hrest:=xA n e l ih hc hnz hund hag xs ys ds es h1 h2 w len (j+1) ae ae fb1 fb2;rw[tL (P.cellsOf e) (ds.drop (j*P.cellsOf e)) (es.drop (j*P.cellsOf e)) cY];simp only[List.range'_succ,Op.eqItems,Sem.run_bind,r1,s1,he,Result.andThen_ok,Sem.run_ite,hrest];rw[c1,d1,List.drop_drop,List.drop_drop,<-hj];cases jk ((ds.drop (j*P.cellsOf e)).take (P.cellsOf e)) ((es.drop (j*P.cellsOf e)).take (P.cellsOf e))<;>simp
def rr:∀(depth:Nat) (t:TypeId) (ks:List CK),gT P depth t=some ks->∀n,depth<=n->IK ν x P n t ks
 |0,t,ks,h,_,_=>by simp[gT]at h
 |depth+1,t,ks,h,n,hn=>by
  obtain⟨n,rfl⟩:∃k,n=k+1:=⟨n-1,ae⟩
  intro u v d e w r1 r2 a1 a2 f1 f2;simp only[gT]at h;split at h
  .rename_i hu;simp only[bh]at h;subst h;have hag:cL P t=false:=by simp[cL,hu]
   rw[hag]at a1 a2;have g1:=mD f1 a1;have g2:=mD f2 a2;cases d<;>simp only[CK.fits]at g1;cases e<;>simp only[CK.fits]at g2;rw[r1.jR,r2.jR,run_equalIn_bool w n t _ _ hu];simp[D.cells,jk,Yq]
  .rename_i k hu;simp only[bh]at h;subst h;have hag:cL P t=false:=by simp[cL,hu]
   rw[hag]at a1 a2;have g1:=mD f1 a1;have g2:=mD f2 a2;cases d<;>simp only[CK.fits]at g1;cases e<;>simp only[CK.fits]at g2;subst g1;subst g2;rw[r1.dW,r2.dW,run_equalIn_int w n t _ _ _ _ hu];simp[D.cells,jk,Yq]
  .rename_i hu;simp only[bh]at h;subst h;have hag:cL P t=false:=by simp[cL,hu]
   rw[hag]at a1 a2;have g1:=mD f1 a1;have g2:=mD f2 a2;cases d<;>simp only[CK.fits]at g1;cases e<;>simp only[CK.fits]at g2;rw[r1.ja.1,r2.ja.1,run_equalIn_string w n t _ _ hu];simp[D.cells,jk,Yq,ByteArray.toList_eq]
  .rename_i fs hu;split at h
   .cases h
   .rename_i hst;have hag:cL P t=true:=by simp[cL,hu]
    rw[hag]at a1 a2;cases d<;>simp only[D.isAgg,gy]at a1;cases e<;>simp only[D.isAgg,gy]at a2;have hf:P.fieldsOf t=fs:=by simp[Program.fieldsOf,hu]
    cases r1 with
    |agg xs _ p1 p2 p3=>
     cases r2 with
     |agg ys _ q1 q2 q3=>
      rw[run_equalIn_struct w n t xs ys (by rw[hf];exact hu) (by simpa using hst),hf];have:=vc (ν:=ν) (x:=x) n depth (fun t ks hk=>rr depth t ks hk n ae) xs ys _ _ (.agg xs _ p1 p2 p3) (.agg ys _ q1 q2 q3) w fs.toList 0 ks h aJ aJ (by simpa[D.cells]using f1) (by simpa[D.cells]using f2);simpa[D.cells]using this
  .rename_i len e' hu;split at h
   .rename_i l hl;split at h
    .rename_i hc;obtain⟨hc,hnz,hund⟩:=hc;simp only[bh]at h;subst h;have hag:cL P t=true:=by simp[cL,hu]
     rw[hag]at a1 a2;cases d<;>simp only[D.isAgg,gy]at a1;cases e<;>simp only[D.isAgg,gy]at a2;obtain⟨i,hi,_⟩:=pj (P:=P) (t:=e') ae;cases r1 with
     |agg xs _ p1 p2 p3=>
      cases r2 with
      |agg ys _ q1 q2 q3=>
       rw[run_equalIn_array w n xs ys hu hi,List.range_eq_range'];have:=xA (ν:=ν) (x:=x) n e' l (rr depth e' l hl n ae) hc hnz hund (fun e=>by rw[<-hc];exact Az hl e) xs ys _ _ (.agg xs _ p1 p2 p3) (.agg ys _ q1 q2 q3) w len 0 aJ aJ (by simpa[D.cells]using f1) (by simpa[D.cells]using f2);simpa[D.cells]using this
    .cases h
   .cases h
  .cases h
end
end
end Go.Abs
