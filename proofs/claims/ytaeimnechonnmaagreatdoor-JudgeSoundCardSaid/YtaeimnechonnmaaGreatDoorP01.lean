/- A part of the proofs. -/
import Derived.Attr
import Derived.ChangeKeysEq
import Derived.Deep.AppendSrc
import Derived.KernelRfl
import Derived.WalkKit
import GoSem.Dispatch
import GoSem.Step
set_option linter.all false
set_option maxRecDepth 4000
namespace Go.Abs
def aY:=@List.length_cons
def bg:=@List.length_nil
def dc:=@decide_eq_false_iff_not
def bC:=@decide_eq_true_eq
def bc:=@Option.some.injEq
def ai:=@if_neg
def ax:=@if_pos
def br:=@Bool.and_eq_true
def cK:=@List.length_append
def nw:=@Bool.not_eq_false'
def ef:=@Bool.not_eq_true'
def aA:=@Nat.le_refl
def bl:=@Option.some.inj
def aD:=@List.length_map
def aE:=@if_false
def aF:=@if_true
def aO:=@List.drop_zero
def cB:=@decide_eq_true
def aB:=@Nat.zero_add
def ig:=@Bool.or_eq_false_iff
def fD:=@Bool.and_eq_false_iff
def cS:=@Option.map_eq_some_iff
def df:=@decide_eq_false
def dZ:=@Bool.or_eq_true
def eZ:=@List.take_of_length_le
def dM:=@List.length_take
def lW:=@List.append_assoc
def bG:=@List.mem_singleton
def gV:=@Bool.false_eq_true
def eg:=@Prod.mk.injEq
def iF:=@Nat.mul_le_mul_right
def ea:=@Nat.le_trans
def jH:=@Nat.lt_of_lt_of_le
def wF:=@List.nil_append
def ij:=@List.eq_nil_of_length_eq_zero
def lf:=@List.drop_eq_getElem_cons
def qn:=@List.cons_append
def dz:=@List.mem_cons
def aP:=@true_and
def aQ:=@and_true
def aZ:=@false_and
def a7:=@and_false
def aX:=@and_self
def eU:=@Eq.trans
def b8:=@congrArg
def nk:=@List.drop_eq_nil_of_le
def Ka:=@List.append_nil
def wG:=@List.length_drop
def ec:=@List.not_mem_nil
def C1:=@UInt8.toNat_inj
def gW:=@List.getD_cons_zero
def ik:=@Bool.true_and
def eM:=@Bool.and_true
def eN:=@List.mem_map
def sy:=@List.cons.injEq
def C2:=@List.mem_of_mem_take
def wH:=@decide_eq_decide
def cT:=@Nat.lt_or_ge
def ae {p:Prop}(h:p:=by omega):p:=h
def nI {p:Prop}(h:p:=by simp only[List.length_cons,List.length_nil];omega):p:=h
def bZ {p:Prop}(h:p:=by decide):p:=h
def zzbk {p:Prop}(h:p:=by kernel_rfl):p:=h
def bz {p:Prop}(h:p:=by simp):p:=h
def e8 {p:Prop}(h:p:=by dsimp only;omega):p:=h
def eB {p:Prop}(h:p:=by simp;omega):p:=h
def bX {p:Prop}(h:p:=by exact rfl):p:=h
inductive D where
 |any
 |bool (b:Bool)
 |int (k:IntKind) (n:Int)
 |str (s:List UInt8)
 |agg (cs:List D)
 |tup (ds:List D)
 |aG
 |sl (k:Nat) (es:List D)
 |ref (k:Nat) (es:List D) (i o:Nat)
 |ptr (l k i o:Nat)
 |own (l k i n:Nat)
 |nilp
 |fn (f:Nat) (caps:List D)
 |nilf
 |it (l:Nat)
 deriving Inhabited
inductive Src where
 |s (n:Nat)
 |l (p:Nat)
 |c (d:D)
 deriving Inhabited
inductive Sh where
 |a
 |sl (k:Nat) (cs:List Sh)
 |pt (cs:List Sh)
 |kp (cs:List Sh)
 deriving Inhabited
inductive CK where
 |b|i (k:IntKind)|s
 deriving Inhabited
inductive aI where
 |mv (x:Src)
 |pick (c a b:Src)
 |box (k:Nat) (x:Src)
 |build (z:List D) (parts:List (Nat×Nat×Src))
 |bsl (k:Nat) (z:D) (n:Nat) (parts:List (Nat×Src))
 |ld (n:Nat) (ag:Bool) (p:Src)
 |st (n:Nat) (p v:Src)
 |nilck (x:Src)
 |bin (op:BinOp) (x y:Src)
 |eqA (neg ag:Bool) (ks:List CK) (x y:Src)
 |un (op:UnOp) (x:Src)
 |cvi (k:IntKind) (x:Src)
 |mn (x y:Src)
 |s2b (x:Src)
 |b2s (x:Src)
 |i2s (x:Src)
 |mkf (f:Nat) (caps:List Src)
 |mks (k:Nat) (z:D) (ln cp:Src)
 |slS (x:Src) (lo hi:Option Src)
 |slA (k:Nat) (x:Src) (lo hi:Option Src)
 |slX (k:Nat) (x hi mx:Src)
 |fa (off:Nat) (p:Src)
 |fld (off n:Nat) (ag:Bool) (x:Src)
 |ia (k:Nat) (x i:Src)
 |iaP (n k:Nat) (x i:Src)
 |ixS (x i:Src)
 |ixA (n k:Nat) (ag:Bool) (x i:Src)
 |ext (x:Src) (i:Nat)
 |len (x:Src)
 |lenS (x:Src)
 |app (k:Nat) (x y:Src)
 |call (f:Nat) (args:List Src) (sh:List (List Sh))
 |callv (f:Src) (args:List Src) (sh:List (List Sh))
 |callM (f:Nat) (args:List Src)
 |callvM (f:Src) (args:List Src)
 |ldI (n:Nat) (ag:Bool) (p:Src)
 |ldU (n:Nat) (ag:Bool) (p:Src)
 |callF (f:Nat) (r:Src) (args:List Src) (sh:List (List Sh))
 |appN (k:Nat) (y:Src)
 |bslI (k:Nat) (z:D) (n:Nat) (parts:List (Nat×Src))
 |rng (x:Src)
 |bR (x:Src)
 |mkB
 |lkp (x k:Src)
 |isF (x:Src)
 |isNl (x:Src) (neg:Bool)
 |mkI (n:Nat) (x:Src)
 |isI (x:Src)
 |tas (n:Nat) (z:D) (x:Src)
 |invk (x:Src)
 |zal
 |zst (p v:Src)
 |callL (f:Nat) (args:List Src) (chk:List (Nat×Nat×Bool×Src))
 deriving Inhabited
structure GI where
 i:aI
 g:Option (Nat×Bool)
 deriving Inhabited
inductive AC where
 |reg (draw:Bool) (ins:List GI) (cm:List (Nat×Nat))
 |seq (a b:AC)
 |cond (c:Src) (a b:AC)
 |block (id:Nat) (a:AC)
 |loop (a:AC)
 |exit (id:Nat)
 |ret
 |skip
 deriving Inhabited
structure Bx where
 s:Nat
 mem:Option (Nat×Bool)
 deriving Inhabited
structure aM where
 np:Nat
 ns:Nat
 res:List Bx
 rsh:List (List Sh)
 body:AC
 deriving Inhabited
@[go_sem] def D.cells:D->List D
 | .agg cs=>cs
 | .any=>[]
 | .tup _=>[]
 |d=>[d]
@[go_sem] def D.isBool:D->Bool
 | .bool _=>true
 |_=>false
@[go_sem] def D.isAgg:D->Bool
 | .agg _=>true
 |_=>false
mutual
@[go_sem] def D.bm:D->Bool
 | .agg cs=>aW cs
 | .tup cs=>aW cs
 | .fn _ cs=>aW cs
 | .ptr .. =>false
 | .own .. =>false
 | .it _=>false
 |_=>true
@[go_sem] def aW:List D->Bool
 |[]=>true
 |d::r=>d.bm&&aW r
end
mutual
@[go_sem] def D.eo:D->Bool
 | .agg cs=>kS cs
 | .tup cs=>kS cs
 | .fn n cs=>!(Nat.ble 2000000 n)&&kS cs
 | .ptr .. =>false
 | .own .. =>false
 | .it _=>false
 | .sl .. =>false
 | .ref .. =>false
 |_=>true
@[go_sem] def kS:List D->Bool
 |[]=>true
 |d::r=>d.eo&&kS r
end
inductive bT where
 |buf (k:Nat) (es:List D)
 |iter (s:List UInt8) (pos:Nat)
 |row (s:List UInt8)
 |bld (o:Option Nat) (n:Nat) (u:Bool)
 deriving Inhabited
structure St where
 nx:Nat
 m:List (Nat×bT)
@[go_sem] def look:List (Nat×bT)->Nat->Option bT
 |[],_=>none
 |(a,b)::r,l=>if a=l then some b else look r l
@[go_sem] def cR:List (Nat×bT)->Nat->bT->List (Nat×bT)
 |[],l,b=>[(l,b)]
 |(a,x)::r,l,b=>if a=l then(a,b)::r else(a,x)::cR r l b
@[go_sem] def bF:List (Nat×bT)->Nat->List (Nat×bT)
 |[],_=>[]
 |(a,x)::r,l=>if a=l then bF r l else(a,x)::bF r l
structure b7 where
 ok:Bool
 d:D
@[go_sem] def b7.un:b7:=⟨true,.any⟩
@[go_sem] def Src.ev (env vs:List b7):Src->b7
 | .s n=>env.getD n .un
 | .l p=>vs.getD p .un
 | .c d=>⟨true,d⟩
structure Ctx where
 pre:Nat->List D->Prop
 val:Nat->List D->D
 tr:Nat->List D->St->(D->St->Prop)->Prop
 fp:Nat->D->List D->Prop
 fv:Nat->D->List D->D
 fs:Nat->D->List D->D
 lo:Nat
@[go_sem] def ba (m:List (Nat×bT))(l:Nat):List D:=match look m l with
 |some (.buf _ es)=>es
 |_=>[]
@[go_sem] def ew (m:List (Nat×bT))(l k n:Nat):Prop:=match look m l with
 |some (.buf k' es)=>k=k'/\n<=es.length
 |_=>False
@[go_sem] def ny (m:List (Nat×bT)):D->List D
 | .sl _ es=>es
 | .own l _ i n=>((ba m l).drop i).take n
 | .str s=>s.map fun b=>.int .u8 b.toNat
 |_=>[]
@[go_sem] def yz (m:List (Nat×bT))(k:Nat):D->Prop
 | .sl k' _=>k'=k
 | .own l k' i n=>k'=k/\ew m l k (i+n)
 | .str _=>k=1
 | .aG=>True
 |_=>False
mutual
@[go_sem] def kU (m:List (Nat×bT)):Sh->D->D
 | .a,d=>match d with
  | .aG=>.sl 0 []
  |d=>d
 | .sl k cs,d=>match d with
  | .aG=>.sl k []
  | .own l k' i c=>.sl k' ((((ba m l).drop i).take c).map (iC m cs))
  |d=>d
 | .pt cs,d=>match d with
  | .ptr l k i o=>.ref k ((ba m l).map (iC m cs)) i o
  |d=>d
 | .kp cs,d=>match d with
  | .own l k' i c=>.sl k' ((((ba m l).drop i).take c).map (iC m cs))
  |d=>d
@[go_sem] def iC (m:List (Nat×bT)):List Sh->D->D
 |[],d=>d
 |s::r,d=>match d with
  | .agg cs=>.agg (mr m (s::r) cs)
  |d=>kU m s d
@[go_sem] def mr (m:List (Nat×bT)):List Sh->List D->List D
 |[],ds=>ds
 |s::r,ds=>match ds with
  |[]=>[]
  |d::ds=>kU m s d::mr m r ds
end
mutual
@[go_sem] def iK (m:List (Nat×bT)):Sh->D->Prop
 | .a,d=>d.bm=true
 | .sl _ cs,d=>match d with
  | .own l k' i c=>ew m l k' (i+c)/\∀e∈((ba m l).drop i).take c,gD m cs e
  |d=>d.bm=true
 | .pt cs,d=>match d with
  | .ptr l k _ _=>ew m l k 0/\∀e∈ba m l,gD m cs e
  |d=>d.bm=true
 | .kp cs,d=>match d with
  | .own l k' i c=>ew m l k' (i+c)/\∀e∈((ba m l).drop i).take c,gD m cs e
  |d=>d.bm=true
@[go_sem] def gD (m:List (Nat×bT)):List Sh->D->Prop
 |[],d=>d.bm=true
 |s::r,d=>match d with
  | .agg cs=>kl m (s::r) cs
  |d=>iK m s d
@[go_sem] def kl (m:List (Nat×bT)):List Sh->List D->Prop
 |[],ds=>aW ds=true
 |s::r,ds=>match ds with
  |[]=>True
  |d::ds=>iK m s d/\kl m r ds
end
@[go_sem] def ji (op:BinOp):D->D->D
 | .int k a,.int _ b=>match op with
  | .add=>.int k (k.wrap (a+b))
  | .sub=>.int k (k.wrap (a-b))
  | .mul=>.int k (k.wrap (a*b))
  | .quo=>.int k (k.wrap (a.tdiv b))
  | .rem=>.int k (a.tmod b)
  | .eql=>.bool (a==b)| .neq=>.bool (a !=b)| .lss=>.bool (decide (a<b))| .leq=>.bool (decide (a<=b))| .gtr=>.bool (decide (b<a))| .geq=>.bool (decide (b<=a))
  | .shl=>.int k (k.wrap (a*2^(min b.toNat k.bits)))
  | .shr=>.int k (a.fdiv (2^(min b.toNat k.bits)))
  | .and=>.int k (k.wrap (((BitVec.ofInt k.bits a)&&&(BitVec.ofInt k.bits b)).toNat))
  | .or=>.int k (k.wrap (((BitVec.ofInt k.bits a) |||(BitVec.ofInt k.bits b)).toNat))
  | .xor=>.int k (k.wrap (((BitVec.ofInt k.bits a)^^^(BitVec.ofInt k.bits b)).toNat))
  | .andNot=>.int k (k.wrap (((BitVec.ofInt k.bits a)&&& ~~~(BitVec.ofInt k.bits b)).toNat))
 | .str a,.str b=>match op with
  | .add=>.str (a++b)
  | .eql=>.bool (a==b)| .neq=>.bool (!(a==b))| .lss=>.bool (Op.bytesLess a b)| .geq=>.bool (!(Op.bytesLess a b))
  | .leq=>.bool (Op.bytesLess a b ||a==b)| .gtr=>.bool (!(Op.bytesLess a b ||a==b))
  |_=>.any
 |_,_=>.any
@[go_sem] def iN (op:BinOp):D->D->Prop
 | .int k a,.int k' b=>match op with
  | .quo=>k=k'/\b≠0
  | .rem=>k=k'/\b≠0
  | .shl=>0<=b
  | .shr=>0<=b
  |_=>k=k'
 | .str a,.str b=>match op with
  | .add=>a.length+b.length<=9223372036854775807
  | .eql=>True| .neq=>True| .lss=>True| .geq=>True| .leq=>True| .gtr=>True
  |_=>False
 |_,_=>False
@[go_sem] def D.pick (b:Bool):D->D->D
 | .bool x,.bool y=>.bool (bif b then x else y)
 |x,y=>bif b then x else y
@[go_sem] def cut (cs:List D)(o n:Nat)(ag:Bool):D:=bif ag then .agg ((cs.drop o).take n)else cs.getD o .any
@[go_sem] def mZ (e:D)(k n o:Nat)(ag:Bool):D:=bif (n==k)&&(e.isAgg==ag)then e else cut e.cells o n ag
@[go_sem] def tn (m:List (Nat×bT))(n:Nat)(ag:Bool):D->D
 | .ptr l k i o=>mZ ((ba m l).getD i .any) k n o ag
 | .ref k es i o=>mZ (es.getD i .any) k n o ag
 | .fn _ es=>mZ (es.getD 0 .any) 1 n 0 ag
 |_=>.any
@[go_sem] def wK (m:List (Nat×bT))(n:Nat):D->Prop
 | .ptr l k i o=>ew m l k (i+1)/\o+n<=k
 | .ref k es i o=>i<es.length/\o+n<=k
 | .fn q es=>q=3000000/\n=1/\es.length=1/\(es.getD 0 .any).cells=[es.getD 0 .any]
 |_=>False
mutual
@[go_sem] def N0:D->D->Bool
 | .bool a,.bool b=>a==b
 | .int _ a,.int _ b=>a==b
 | .str a,.str b=>a==b
 |_,_=>false
@[go_sem] def ic:List D->List D->Bool
 |[],[]=>true
 |a::r,b::s=>N0 a b&&ic r s
 |_,_=>false
end
@[go_sem] def CK.fits:CK->D->Prop
 | .b,.bool _=>True
 | .i k,.int k' _=>k'=k
 | .s,.str _=>True
 |_,_=>False
@[go_sem] def fg:List CK->List D->Prop
 |[],[]=>True
 |c::r,d::s=>c.fits d/\fg r s
 |_,_=>False
@[go_sem] def over (cs:List D)(o:Nat)(new:List D):List D:=cs.take o++(new++cs.drop (o+new.length))
@[go_sem] def oC (e:D)(k n o:Nat)(v:D):D:=bif (n==k)&&(v.isAgg ||!e.isAgg)then v else .agg (over e.cells o v.cells)
@[go_sem] def uJ (J:Src->b7)(cs:List D):List (Nat×Nat×Src)->List D
 |[]=>cs
 |(o,_,s)::r=>uJ J (over cs o (J s).d.cells) r
@[go_sem] def xm (J:Src->b7)(len:Nat):List (Nat×Nat×Src)->Prop
 |[]=>True
 |(o,n,s)::r=>(J s).ok=true/\(J s).d.cells.length=n/\o+n<=len/\xm J len r
@[go_sem] def jR (J:Src->b7)(es:List D):List (Nat×Src)->List D
 |[]=>es
 |(i,s)::r=>jR J (es.set i (J s).d) r
@[go_sem] def n7 (J:Src->b7)(k n:Nat):List (Nat×Src)->Prop
 |[]=>True
 |(i,s)::r=>i<n/\(J s).ok=true/\(J s).d.cells.length=k/\n7 J k n r
@[go_sem] def D.nat:D->Nat
 | .int _ n=>n.toNat
 |_=>0
@[go_sem] def ed (o:Option D)(dflt:Nat):Nat:=match o with
 |some (.int _ n)=>n.toNat
 |_=>dflt
@[go_sem] def mN (o:Option D)(hi:Nat):Prop:=match o with
 |none=>True
 |some (.int _ n)=>0<=n/\n<=hi
 |_=>False
@[go_sem] def GW (J:Src->b7):Option Src->Prop
 |none=>True
 |some s=>(J s).ok=true
@[go_sem] def dO (J:Src->b7):Option Src->Option D
 |none=>none
 |some s=>some (J s).d
@[go_sem] def sO (J:Src->b7):List Src->Prop
 |[]=>True
 |s::r=>(J s).ok=true/\sO J r
@[go_sem] def gL (J:Src->b7):List Src->List D
 |[]=>[]
 |s::r=>(J s).d::gL J r
@[go_sem] def D.u8:D->UInt8
 | .int _ n=>UInt8.ofNat n.toNat
 |_=>0
@[go_sem] def D.FU:D->Prop
 | .int k n=>k=.u8/\0<=n/\n<256
 |_=>False
def rv (s:List UInt8)(pos:Nat):Nat×Nat:=Utf8.decode ⟨⟨s⟩⟩ pos
def Jv (n:Int):List UInt8:=(Utf8.encode n).data.toList
@[go_sem] def fX (m:List (Nat×bT)):List (List Sh)->List D->List D
 |_,[]=>[]
 |[],d::r=>iC m [.a] d::fX m [] r
 |s::ss,d::r=>iC m s d::fX m ss r
@[go_sem] def iL (m:List (Nat×bT)):List (List Sh)->List D->Prop
 |_,[]=>True
 |[],d::r=>gD m [.a] d/\iL m [] r
 |s::ss,d::r=>gD m s d/\iL m ss r
@[go_sem] def Io (s:List UInt8):List D->D
 | .str a::f::r=>bif a==s then f else Io s r
 |_=>.nilf
@[go_sem] def Od:List D->Prop
 |[]=>True
 | .str _::_::r=>Od r
 |_=>False
@[go_sem] def aI.val (Y:Ctx)(J:Src->b7)(m:List (Nat×bT))(L:Nat):aI->D
 | .mv x=>(J x).d
 | .pick c a b=>match(J c).d with| .bool t=>D.pick t (J a).d (J b).d|_=>.any
 | .box k _=>.ptr L k 0 0
 | .build z ps=>.agg (uJ J z ps)
 | .bsl k _ n _=>.own L k 0 n
 | .ld n ag p=>tn m n ag (J p).d
 | .st _ _ _=>.any
 | .nilck x=>(J x).d
 | .bin op x y=>ji op (J x).d (J y).d
 | .eqA neg _ _ x y=>.bool (bif neg then !(ic (J x).d.cells (J y).d.cells)else ic (J x).d.cells (J y).d.cells)
 | .un op x=>match op,(J x).d with
  | .not,.bool b=>.bool (!b)
  | .neg,.int k n=>.int k (k.wrap (0-n))
  |_,_=>.any
 | .cvi k x=>match(J x).d with| .int _ n=>.int k (k.wrap n)|_=>.any
 | .mn x y=>match(J x).d,(J y).d with| .int k a,.int _ b=>.int k (if b<a then b else a)|_,_=>.any
 | .s2b x=>match(J x).d with| .str s=>.own L 1 0 s.length|_=>.any
 | .b2s x=>.str ((ny m (J x).d).map D.u8)
 | .i2s x=>match(J x).d with| .int _ n=>.str (Jv n)|_=>.any
 | .mkf f caps=>.fn f (gL J caps)
 | .mks k _ ln _=>.own L k 0 (J ln).d.nat
 | .slS x lo hi=>match(J x).d with
  | .str s=>.str ((s.take (ed (dO J hi) s.length)).drop (ed (dO J lo) 0))
  |_=>.any
 | .slA _ x lo hi=>match(J x).d with
  | .sl k es=>.sl k ((es.take (ed (dO J hi) es.length)).drop (ed (dO J lo) 0))
  | .own l k i n=>.own l k (i+ed (dO J lo) 0) (ed (dO J hi) n-ed (dO J lo) 0)
  | .aG=>.aG
  |_=>.any
 | .slX _ x hi _=>match(J x).d,(J hi).d with
  | .sl k es,.int _ h=>.sl k (es.take h.toNat)
  | .own l k i _,.int _ h=>.own l k i h.toNat
  | .aG,_=>.aG
  |_,_=>.any
 | .fa off p=>match(J p).d with
  | .ptr l k i o=>.ptr l k i (o+off)
  | .ref k es i o=>.ref k es i (o+off)
  |_=>.any
 | .fld off n ag x=>cut (J x).d.cells off n ag
 | .ia _ x i=>match(J x).d,(J i).d with
  | .sl k es,.int _ n=>.ref k es n.toNat 0
  | .own l k j _,.int _ n=>.ptr l k (j+n.toNat) 0
  |_,_=>.any
 | .iaP _ k x i=>match(J x).d,(J i).d with
  | .ptr l k' j o,.int _ n=>.ptr l k' j (o+n.toNat*k)
  | .ref k' es j o,.int _ n=>.ref k' es j (o+n.toNat*k)
  |_,_=>.any
 | .ixS x i=>match(J x).d,(J i).d with
  | .str s,.int _ n=>.int .u8 (s.getD n.toNat 0).toNat
  |_,_=>.any
 | .ixA _ k ag x i=>match(J i).d with
  | .int _ n=>cut (J x).d.cells (n.toNat*k) k ag
  |_=>.any
 | .ext x i=>match(J x).d with| .tup ds=>ds.getD i .any|_=>.any
 | .len x=>match(J x).d with
  | .sl _ es=>.int .i64 es.length
  | .own _ _ _ n=>.int .i64 n
  | .aG=>.int .i64 0
  |_=>.any
 | .lenS x=>match(J x).d with
  | .str s=>.int .i64 s.length
  |_=>.any
 | .app k x y=>match(J x).d with
  | .own _ _ _ n=>.own L k 0 (n+(ny m (J y).d).length)
  |_=>.own L k 0 (ny m (J y).d).length
 | .call f args sh=>Y.val f (fX m sh (gL J args))
 | .callv f args sh=>match(J f).d with
  | .fn n caps=>Y.val n (fX m sh (gL J args++caps))
  |_=>.any
 | .callM _ _=>.any
 | .callvM _ _=>.any
 | .callL .. =>.any
 | .ldU n ag p=>tn m n ag (J p).d
 | .ldI n ag p=>match(J p).d with
  | .ref k es i o=>mZ (es.getD i .any) k n o ag
  | .fn _ es=>mZ (es.getD 0 .any) 1 n 0 ag
  |_=>.any
 | .appN k y=>.own L k 0 (ny m (J y).d).length
 | .bslI k z n ps=>.sl k (jR J (List.replicate n z) ps)
 | .callF f r args sh=>match(J r).d with
  | .ptr l _ _ _=>Y.fv f ((ba m l).getD 0 .any) (fX [] sh (gL J args))
  |_=>.any
 | .rng _=>.it L
 | .mkB=>.ptr L 2 0 0
 | .lkp x k=>match(J x).d,(J k).d with| .fn _ es,.str s=>Io s es|_,_=>.any
 | .isF x=>match(J x).d with| .nilf=>.bool true|_=>.bool false
 | .isNl .. =>.any
 | .mkI n x=>.fn (n+4000000) [(J x).d]
 | .isI x=>match(J x).d with| .fn n _=>.bool (n==4600000)|_=>.any
 | .tas n z x=>match(J x).d with| .fn k cs=>bif k==n+4000000 then .tup [cs.getD 0 .any,.bool true]else .tup [z,.bool false]|_=>.any
 | .invk x=>match(J x).d with| .fn k cs=>Y.val (k-4000000) (fX m [] cs)|_=>.any
 | .zal=>.fn 4700000 []
 | .zst _ _=>.any
 | .bR x=>match(J x).d with
  | .it l=>match look m l with
   |some (.iter s pos)=>bif decide (pos<s.length)then .tup [.bool true,.int .i64 pos,.int .i32 (rv s pos).1]else .tup [.bool false]
   |_=>.any
  |_=>.any
@[go_sem] def nV (args:List D)(r:D):Bool:=aW args ||r.eo
@[go_sem] def aI.dG (Y:Ctx)(J:Src->b7)(m:List (Nat×bT)):aI->Prop
 | .mv x=>(J x).ok=true
 | .pick c a b=>(J c).ok=true/\match(J c).d with
  | .bool t=>(t=true->(J a).ok=true)/\(t=false->(J b).ok=true)
  |_=>False
 | .box k x=>(J x).ok=true/\(J x).d.cells.length=k
 | .build z ps=>xm J z.length ps
 | .bsl k z n ps=>z.cells.length=k/\n7 J k n ps
 | .ld n _ p=>(J p).ok=true/\wK m n (J p).d
 | .st n p v=>(J p).ok=true/\(J v).ok=true/\(J v).d.cells.length=n/\match(J p).d with
  | .ptr l k i o=>ew m l k (i+1)/\o+n<=k
  |_=>False
 | .nilck x=>(J x).ok=true/\match(J x).d with| .ptr .. =>True| .ref .. =>True|_=>False
 | .bin op x y=>(J x).ok=true/\(J y).ok=true/\iN op (J x).d (J y).d
 | .eqA _ ag ks x y=>(J x).ok=true/\(J y).ok=true/\(J x).d.isAgg=ag/\(J y).d.isAgg=ag/\fg ks (J x).d.cells/\fg ks (J y).d.cells
 | .un op x=>(J x).ok=true/\match op,(J x).d with
  | .not,.bool _=>True
  | .neg,.int _ _=>True
  |_,_=>False
 | .cvi _ x=>(J x).ok=true/\match(J x).d with| .int _ _=>True|_=>False
 | .mn x y=>(J x).ok=true/\(J y).ok=true/\match(J x).d,(J y).d with| .int _ _,.int _ _=>True|_,_=>False
 | .s2b x=>(J x).ok=true/\match(J x).d with| .str _=>True|_=>False
 | .b2s x=>(J x).ok=true/\(match(J x).d with| .str _=>False|_=>True)/\yz m 1 (J x).d/\∀e∈ny m (J x).d,e.FU
 | .i2s x=>(J x).ok=true/\match(J x).d with| .int _ _=>True|_=>False
 | .mkf _ caps=>sO J caps
 | .mks k z ln cp=>(J ln).ok=true/\(J cp).ok=true/\z.cells.length=k/\match(J ln).d,(J cp).d with
  | .int _ n,.int _ c=>0<=n/\n<=c/\c<=1073741824
  |_,_=>False
 | .slS x lo hi=>(J x).ok=true/\GW J lo/\GW J hi/\match(J x).d with
  | .str s=>mN (dO J hi) s.length/\mN (dO J lo) (ed (dO J hi) s.length)
  |_=>False
 | .slA k x lo hi=>(J x).ok=true/\GW J lo/\GW J hi/\match(J x).d with
  | .sl k' es=>k'=k/\mN (dO J hi) es.length/\mN (dO J lo) (ed (dO J hi) es.length)
  | .own _ k' _ n=>k'=k/\mN (dO J hi) n/\mN (dO J lo) (ed (dO J hi) n)
  | .aG=>mN (dO J hi) 0/\mN (dO J lo) 0
  |_=>False
 | .slX k x hi mx=>(J x).ok=true/\(J hi).ok=true/\(J mx).ok=true/\match(J hi).d,(J mx).d with
  | .int _ h,.int _ m=>0<=h/\h<=m/\(match(J x).d with
    | .sl k' es=>k'=k/\m<=es.length
    | .own _ k' _ n=>k'=k/\m<=n
    | .aG=>m=0
    |_=>False)
  |_,_=>False
 | .fa off p=>(J p).ok=true/\match(J p).d with| .ptr .. =>True| .ref .. =>True|_=>False
 | .fld off n ag x=>(J x).ok=true/\match(J x).d with| .agg cs=>off+n<=cs.length/\(ag=false->n=1)|_=>False
 | .ia k x i=>(J x).ok=true/\(J i).ok=true/\match(J x).d,(J i).d with
  | .sl k' es,.int _ n=>k'=k/\0<=n/\n<es.length
  | .own _ k' _ c,.int _ n=>k'=k/\0<=n/\n<c
  |_,_=>False
 | .iaP n k x i=>(J x).ok=true/\(J i).ok=true/\match(J x).d,(J i).d with
  | .ptr ..,.int _ c=>0<=c/\c<n
  | .ref ..,.int _ c=>0<=c/\c<n
  |_,_=>False
 | .ixS x i=>(J x).ok=true/\(J i).ok=true/\match(J x).d,(J i).d with
  | .str s,.int _ n=>0<=n/\n<s.length
  |_,_=>False
 | .ixA n k ag x i=>(J x).ok=true/\(J i).ok=true/\(ag=false->k=1)/\match(J x).d,(J i).d with
  | .agg cs,.int _ c=>0<=c/\c<n/\cs.length=n*k
  |_,_=>False
 | .ext x i=>(J x).ok=true/\match(J x).d with| .tup ds=>i<ds.length|_=>False
 | .len x=>(J x).ok=true/\match(J x).d with| .sl _ _=>True| .own .. =>True| .aG=>True|_=>False
 | .lenS x=>(J x).ok=true/\match(J x).d with| .str _=>True|_=>False
 | .app k x y=>(J x).ok=true/\(J y).ok=true/\yz m k (J y).d/\match(J x).d with
  | .own l k' i n=>k'=k/\ew m l k (i+n)/\n+(ny m (J y).d).length<=1073741824
  | .aG=>(ny m (J y).d).length<=1073741824
  |_=>False
 | .call f args sh=>sO J args/\iL m sh (gL J args)/\Y.pre f (fX m sh (gL J args))/\nV (gL J args) (Y.val f (fX m sh (gL J args)))=true
 | .callv f args sh=>(J f).ok=true/\sO J args/\match(J f).d with
  | .fn n caps=>n<1000000/\iL m sh (gL J args++caps)/\Y.pre n (fX m sh (gL J args++caps))/\nV (gL J args++caps) (Y.val n (fX m sh (gL J args++caps)))=true
  |_=>False
 | .callM _ args=>sO J args
 | .callvM _ args=>sO J args
 | .callL _ args _=>sO J args
 | .ldU n _ p=>(J p).ok=true/\match(J p).d with
  | .ptr l k i o=>(ew m l k (i+1)/\o+n<=k)/\aW (ba m l)=false
  | .ref k es i o=>i<es.length/\o+n<=k
  |_=>False
 | .ldI n _ p=>(J p).ok=true/\match(J p).d with
  | .ref k es i o=>i<es.length/\o+n<=k
  | .fn q es=>q=3000000/\n=1/\es.length=1/\(es.getD 0 .any).cells=[es.getD 0 .any]
  |_=>False
 | .appN k y=>(J y).ok=true/\yz m k (J y).d/\(ny m (J y).d).length<=1073741824
 | .bslI k z n ps=>z.cells.length=k/\n7 J k n ps/\aW (jR J (List.replicate n z) ps)=true
 | .callF f r args sh=>(J r).ok=true/\sO J args/\aW (gL J args)=true/\match(J r).d with
  | .ptr l k i o=>i=0/\o=0/\ew m l k 1/\(ba m l).length=1/\((ba m l).getD 0 .any).bm=true/\Y.fp f ((ba m l).getD 0 .any) (fX [] sh (gL J args))
  |_=>False
 | .rng x=>(J x).ok=true/\match(J x).d with| .str _=>True|_=>False
 | .mkB=>True
 | .lkp x k=>(J x).ok=true/\(J k).ok=true/\match(J x).d,(J k).d with
  | .fn n es,.str _=>n=2000000/\Od es
  |_,_=>False
 | .isNl .. =>True
 | .mkI _ x=>(J x).ok=true
 | .isI x=>(J x).ok=true/\match(J x).d with| .fn n _=>4000000<=n/\n<=4600000|_=>False
 | .tas n z x=>(J x).ok=true/\match(J x).d with| .fn k _=>4000000<=k/\k<=4600000|_=>False
 | .invk x=>(J x).ok=true/\match(J x).d with| .fn k cs=>(4000000<=k/\k<4600000)/\aW cs=true/\Y.pre (k-4000000) (fX m [] cs)|_=>False
 | .zal=>True
 | .zst p v=>(J p).ok=true/\(J v).ok=true/\match(J p).d,(J v).d with| .fn k _,.agg []=>k=4700000|_,_=>False
 | .isF x=>(J x).ok=true/\match(J x).d with| .nilf=>True| .fn n _=>n<2000000|_=>False
 | .bR x=>(J x).ok=true/\match(J x).d with
  | .it l=>match look m l with
   |some (.iter _ _)=>True
   |_=>False
  |_=>False
@[go_sem] def Src.DB:Src->Bool
 | .s _=>true
 |_=>false
@[go_sem] def aI.yo (draw:Bool)(J:Src->b7):aI->Prop
 | .len x=>bif draw&& !x.DB then True else(J x).ok=true->match(J x).d with
  | .sl _ es=>es.length<=9223372036854775807
  | .own _ _ _ n=>n<=9223372036854775807
  |_=>True
 | .lenS x=>bif draw&& !x.DB then True else(J x).ok=true->match(J x).d with
  | .str s=>s.length<=9223372036854775807
  |_=>True
 |_=>True
@[go_sem] def aI.cy (Y:Ctx)(J:Src->b7)(m:List (Nat×bT))(L:Nat):aI->List (Nat×bT)
 | .box k x=>cR m L (.buf k [(J x).d])
 | .bsl k z n ps=>cR m L (.buf k (jR J (List.replicate n z) ps))
 | .mks k z ln _=>cR m L (.buf k (List.replicate (J ln).d.nat z))
 | .s2b x=>match(J x).d with
  | .str s=>cR m L (.buf 1 (s.map fun b=>.int .u8 b.toNat))
  |_=>m
 | .st n p v=>match(J p).d with
  | .ptr l k i o=>cR m l (.buf k ((ba m l).set i (oC ((ba m l).getD i .any) k n o (J v).d)))
  |_=>m
 | .app k x y=>match(J x).d with
  | .own l k' i n=>cR (bF m l) L (.buf k ((((ba m l).drop i).take n)++ny m (J y).d))
  |_=>cR m L (.buf k (ny m (J y).d))
 | .appN k y=>cR m L (.buf k (ny m (J y).d))
 | .callF f r args sh=>match(J r).d with
  | .ptr l k _ _=>cR m l (.buf k [Y.fs f ((ba m l).getD 0 .any) (fX [] sh (gL J args))])
  |_=>m
 | .rng x=>match(J x).d with
  | .str s=>cR m L (.iter s 0)
  |_=>m
 | .mkB=>cR m L (.bld none 0 false)
 | .bR x=>match(J x).d with
  | .it l=>match look m l with
   |some (.iter s pos)=>bif decide (pos<s.length)then cR m l (.iter s (pos+(rv s pos).2))else m
   |_=>m
  |_=>m
 |_=>m
@[go_sem] def cY:D->List Nat
 | .ptr l _ _ _=>[l]
 | .own l _ _ _=>[l]
 | .it l=>[l]
 |_=>[]
@[go_sem] def aI.kH (J:Src->b7):aI->Option (List Nat)
 | .ld _ _ p=>some (cY (J p).d)
 | .ldU _ _ p=>some (cY (J p).d)
 | .st _ p _=>some (cY (J p).d)
 | .b2s x=>some (cY (J x).d)
 | .app _ x y=>some (cY (J x).d++cY (J y).d)
 | .bR x=>some (cY (J x).d)
 | .call _ args _=>bif aW (gL J args)then some []else none
 | .callv f args _=>match(J f).d with
  | .fn _ caps=>bif aW (gL J args++caps)then some []else none
  |_=>none
 | .callM _ _=>none
 | .callvM _ _=>none
 | .callL .. =>none
 | .isNl .. =>none
 | .callF _ r _ _=>some (cY (J r).d)
 | .appN _ y=>some (cY (J y).d)
 |_=>some []
@[go_sem] def aI.wr (J:Src->b7)(L:Nat):aI->List Nat
 | .box .. =>[L]
 | .bsl .. =>[L]
 | .mks .. =>[L]
 | .s2b _=>[L]
 | .rng _=>[L]
 | .mkB=>[L]
 | .st _ p _=>cY (J p).d
 | .app _ x _=>L::cY (J x).d
 | .bR x=>cY (J x).d
 | .callF _ r _ _=>cY (J r).d
 | .appN .. =>[L]
 |_=>[]
@[go_sem] def aI.calm:aI->Bool
 | .st .. =>false
 | .app .. =>false
 | .bR .. =>false
 | .callM .. =>false
 | .callvM .. =>false
 | .callL .. =>false
 | .isNl .. =>false
 | .callF .. =>false
 |_=>true
@[go_sem] def flag (vs:List b7):Option (Nat×Bool)->Bool
 |none=>true
 |some (j,w)=>(vs.getD j .un).ok&&match(vs.getD j .un).d with
  | .bool b=>b==w
  |_=>false
@[go_sem] def GV (vs:List b7)(i:aI):Option (Nat×Bool)->Prop
 |none=>True
 |some (j,_)=>i.calm=true/\((vs.getD j .un).ok=true->(vs.getD j .un).d.isBool=true)
@[go_sem] def aI.mg (draw:Bool)(g:Option (Nat×Bool))(i:aI):Bool:=!draw&&(!i.calm&&g.isSome)
@[go_sem] def yB (vs:List b7):Option (Nat×Bool)->Prop
 |none=>True
 |some (j,_)=>(vs.getD j .un).ok=true->(vs.getD j .un).d.isBool=true
@[go_sem] def Pf (d:D)(b:Bool):Prop:=match d with
 | .aG=>b=true
 | .sl _ es=>b=true->es=[]
 | .own _ _ _ n=>b=true->n=0
 |_=>True
@[go_sem] def Pg:D->Prop
 | .aG=>True
 | .sl .. =>True
 | .own .. =>True
 |_=>False
@[go_sem] def FC (n:Nat):Nat:=if n<1000000 then n else n-1000000
@[go_sem] def FB (n:Nat)(Z1 caps:List D):List D:=if n<1000000 then Z1++caps else caps++Z1
def ep (Y:Ctx)(draw:Bool):List GI->(env vs:List b7)->St->(List b7->St->Prop)->Prop
 |[],_,vs,st,K=>K vs {st with nx:=st.nx+vs.length}
 |⟨.callM f args,g⟩::r,env,vs,st,K=>
  yB vs g/\(flag vs g=true->sO (Src.ev env vs) args/\
   Y.tr f (gL (Src.ev env vs) args) {st with nx:=st.nx+vs.length} fun d st'=>st.nx+vs.length<=st'.nx/\ep Y draw r env (vs++[⟨true,d⟩]) {st' with nx:=st'.nx-vs.length} K)/\
   (flag vs g=false->ep Y draw r env (vs++[⟨false,.any⟩]) st K)
 |⟨.callvM f args,g⟩::r,env,vs,st,K=>
  yB vs g/\(flag vs g=true->(Src.ev env vs f).ok=true/\sO (Src.ev env vs) args/\match(Src.ev env vs f).d with
   | .fn n caps=>n<2000000/\Y.tr (FC n) (FB n (gL (Src.ev env vs) args) caps) {st with nx:=st.nx+vs.length} fun d st'=>st.nx+vs.length<=st'.nx/\ep Y draw r env (vs++[⟨true,d⟩]) {st' with nx:=st'.nx-vs.length} K
   |_=>False)/\
   (flag vs g=false->ep Y draw r env (vs++[⟨false,.any⟩]) st K)
 |⟨.callL f args chk,g⟩::r,env,vs,st,K=>
  g=none/\sO (Src.ev env vs) args/\
   Y.tr f (gL (Src.ev env vs) args) {st with nx:=st.nx+vs.length} fun d st'=>(∀c∈chk,(vs.getD c.1 .un).ok=true->wK st'.m c.2.1 (Src.ev env (vs.take c.1) c.2.2.2).d/\tn st'.m c.2.1 c.2.2.1 (Src.ev env (vs.take c.1) c.2.2.2).d=(vs.getD c.1 .un).d)/\
    st.nx+vs.length<=st'.nx/\ep Y draw r env (vs++[⟨true,d⟩]) {st' with nx:=st'.nx-vs.length} K
 |⟨.isNl x ng,g⟩::r,env,vs,st,K=>g=none/\(Src.ev env vs x).ok=true/\Pg (Src.ev env vs x).d/\∀b,Pf (Src.ev env vs x).d b->ep Y draw r env (vs++[⟨true,.bool (bif ng then !b else b)⟩]) st K
 |⟨i,g⟩::r,env,vs,st,K=>
  if i.mg draw g=true then
   yB vs g/\(flag vs g=true->i.dG Y (Src.ev env vs) st.m/\
     ep Y draw r env (vs++[⟨true,i.val Y (Src.ev env vs) st.m (st.nx+vs.length)⟩]) {st with m:=i.cy Y (Src.ev env vs) st.m (st.nx+vs.length)} K)/\
    (flag vs g=false->ep Y draw r env (vs++[⟨false,.any⟩]) st K)
  else
  GV vs i g/\(flag vs g=true->i.dG Y (Src.ev env vs) st.m)/\
   ((flag vs g=true->i.yo draw (Src.ev env vs))->∃d,(flag vs g=true->i.val Y (Src.ev env vs) st.m (st.nx+vs.length)=d)/\
     ep Y draw r env (vs++[⟨flag vs g,d⟩]) {st with m:=i.cy Y (Src.ev env vs) st.m (st.nx+vs.length)} K)
mutual
@[go_sem] def dy (l k:Nat)(es:List D):D->D
 | .own l' k' i n=>if l'=l/\k'=k/\i+n<=es.length then .sl k ((es.drop i).take n)else .own l' k' i n
 | .ptr l' k' i o=>if l'=l/\k'=k then .ref k es i o else .ptr l' k' i o
 | .agg cs=>.agg (du l k es cs)
 | .tup cs=>.tup (du l k es cs)
 | .fn f cs=>.fn f (du l k es cs)
 | .any=>.any
 | .bool b=>.bool b
 | .int k n=>.int k n
 | .str s=>.str s
 | .aG=>.aG
 | .sl k es=>.sl k es
 | .ref k es i o=>.ref k es i o
 | .nilp=>.nilp
 | .nilf=>.nilf
 | .it l=>.it l
@[go_sem] def du (l k:Nat)(es:List D):List D->List D
 |[]=>[]
 |d::r=>dy l k es d::du l k es r
end
@[go_sem] def eu (l k:Nat)(es:List D):bT->bT
 | .buf k' es'=>.buf k' (du l k es es')
 |b=>b
@[go_sem] def ek (l k:Nat)(es:List D):List (Nat×bT)->List (Nat×bT)
 |[]=>[]
 |(a,b)::r=>(a,eu l k es b)::ek l k es r
@[go_sem] def eh (l k:Nat)(es:List D):List b7->List b7
 |[]=>[]
 |⟨ok,d⟩::r=>⟨ok,dy l k es d⟩::eh l k es r
@[go_sem] def GU (l:Nat)(s:List b7×List (Nat×bT)):List b7×List (Nat×bT):=match look s.2 l with
 |some (.buf k es)=>bif aW es then(eh l k es s.1,ek l k es (bF s.2 l))else s
 |_=>s
@[go_sem] def frzs:List Nat->List b7×List (Nat×bT)->List b7×List (Nat×bT)
 |[],s=>s
 |l::r,s=>frzs r (GU l s)
inductive Ex where
 |normal|exit (id:Nat)|ret
@[go_sem] def fV (env vs:List b7):List (Nat×Nat)->List b7
 |[]=>env
 |(s,p)::r=>fV (env.set s (vs.getD p .un)) vs r
@[go_sem] def e9 (lo:Nat)(σ:List (Nat×Nat))(l:Nat):Option Nat:=match σ with
 |[]=>bif Nat.blt l lo then some l else none
 |(a,b)::r=>bif Nat.beq a l then some b else e9 lo r l
@[go_sem] def qg (lo:Nat)(σ:List (Nat×Nat))(l:Nat)(f:Nat->D):Option D:=match e9 lo σ l with
 |some l'=>some (f l')
 |none=>none
mutual
@[go_sem] def jk (lo:Nat)(σ:List (Nat×Nat)):D->Option D
 | .own l k i n=>qg lo σ l fun l=>.own l k i n
 | .ptr l k i o=>qg lo σ l fun l=>.ptr l k i o
 | .it l=>qg lo σ l fun l=>.it l
 | .agg cs=>match fk lo σ cs with
  |some cs=>some (.agg cs)
  |none=>none
 | .tup cs=>match fk lo σ cs with
  |some cs=>some (.tup cs)
  |none=>none
 | .fn f cs=>match fk lo σ cs with
  |some cs=>some (.fn f cs)
  |none=>none
 | .any=>some .any
 | .bool b=>some (.bool b)
 | .int k n=>some (.int k n)
 | .str s=>some (.str s)
 | .aG=>some .aG
 | .sl k es=>some (.sl k es)
 | .ref k es i o=>some (.ref k es i o)
 | .nilp=>some .nilp
 | .nilf=>some .nilf
@[go_sem] def fk (lo:Nat)(σ:List (Nat×Nat)):List D->Option (List D)
 |[]=>some []
 |d::r=>match jk lo σ d,fk lo σ r with
  |some d,some r=>some (d::r)
  |_,_=>none
end
mutual
def px:D->D->Prop
 | .aG,d'=>d'=.aG\/∃l k i,d'=.own l k i 0
 | .agg a,d'=>∃b,d'=.agg b/\BC a b
 |d,d'=>d'=d/\d.bm=true
def BC:List D->List D->Prop
 |[],b=>b=[]
 |d::r,b=>∃d' r',b=d'::r'/\px d d'/\BC r r'
end
def KJ (lo:Nat)(σ:List (Nat×Nat))(d d':D):Prop:=d'=d/\d.bm=true\/jk lo σ d=some d'\/px d d'
def mH (lo:Nat)(σ:List (Nat×Nat)):bT->bT->Prop
 | .buf k es,.buf k' es'=>k'=k/\(es'=es/\aW es=true\/fk lo σ es=some es'\/BC es es')
 | .iter s p,.iter s' p'=>s'=s/\p'=p
 | .row s,.row s'=>s'=s
 | .bld o n u,.bld o' n' u'=>(match o with
  |none=>o'=none
  |some l=>∃l',e9 lo σ l=some l'/\o'=some l')/\n'=n/\u'=u
 |_,_=>False
def aN (lo:Nat)(σ:List (Nat×Nat)):List b7->List b7->Prop
 |[],[]=>True
 |a::r,b::s=>(b.ok=a.ok/\KJ lo σ a.d b.d\/b=.un)/\aN lo σ r s
 |_,_=>False
def aK (lo c:Nat)(σ:List (Nat×Nat))(m:List (Nat×bT)):List (Nat×bT)->Prop
 |[]=>True
 |(l',b')::r=>((∃l b,e9 lo σ l=some l'/\look m l=some b/\mH lo σ b b')\/(Nat.ble lo l'=true/\Nat.blt l' c=true/\σ.all (fun p=>!Nat.beq p.2 l')=true/\∃k,b'=.buf k []))/\aK lo c σ m r
def eQ (lo c:Nat):List (Nat×Nat)->Bool
 |[]=>Nat.ble lo c
 |(a,b)::r=>(Nat.ble lo b&&(Nat.blt b c&&(r.all (fun p=>!Nat.beq p.1 a&& !Nat.beq p.2 b)&&eQ lo c r)))
@[go_sem] def Ob:List b7->List b7->Prop
 |[],[]=>True
 |a::r,b::s=>(b=a\/b=.un)/\Ob r s
 |_,_=>False
@[go_sem] def JI (m:List (Nat×bT)):List (Nat×bT)->Prop
 |[]=>True
 |(l,b)::r=>look m l=some b/\JI m r
inductive sZ:D->D->Prop
 |refl (d:D):sZ d d
 |nil (k:Nat):sZ .aG (.sl k [])
 |agg (a b:List D) (hl:b.length=a.length) (h:∀i,sZ (a.getD i .any) (b.getD i .any)):sZ (.agg a) (.agg b)
 |sl (k:Nat) (a b:List D) (hl:b.length=a.length) (h:∀i,sZ (a.getD i .any) (b.getD i .any)):sZ (.sl k a) (.sl k b)
def lX (a b:List D):Prop:=b.length=a.length/\∀i,sZ (a.getD i .any) (b.getD i .any)
def Pa:bT->bT->Prop
 | .buf k es,.buf k' es'=>k'=k/\lX es es'
 |b,b'=>b'=b
def Mw:List b7->List b7->Prop
 |[],[]=>True
 |a::r,b::s=>(b.ok=a.ok/\sZ a.d b.d)/\Mw r s
 |_,_=>False
def jJ (m:List (Nat×bT)):List (Nat×bT)->Prop
 |[]=>True
 |(l,b')::r=>(∃b,look m l=some b/\Pa b b')/\jJ m r
inductive aU (lo:Nat):List b7->St->List b7->St->Prop
 |refl (env:List b7) (st:St):aU lo env st env st
 |GU (l:Nat) (env:List b7) (st:St):aU lo env st (GU l (env,st.m)).1 ⟨st.nx,(GU l (env,st.m)).2⟩
 |ren (σ:List (Nat×Nat)) (c:Nat) (env env':List b7) (nx:Nat) (m m':List (Nat×bT)) (h:eQ lo c σ=true) (he:aN lo σ env env') (hm:aK lo c σ m m'):aU lo env ⟨nx,m⟩ env' ⟨c,m'⟩
 |wk (env env':List b7) (nx:Nat) (m m':List (Nat×bT)) (he:Ob env env') (hm:JI m m'):aU lo env ⟨nx,m⟩ env' ⟨nx,m'⟩
 |nz (env env':List b7) (nx:Nat) (m m':List (Nat×bT)) (he:Mw env env') (hm:jJ m m'):aU lo env ⟨nx,m⟩ env' ⟨nx,m'⟩
 |trans (env1 env2 env3:List b7) (st1 st2 st3:St) (h:aU lo env1 st1 env2 st2) (h':aU lo env2 st2 env3 st3):aU lo env1 st1 env3 st3
def Gh (lo:Nat)(p:List b7->St->Prop)(env:List b7)(st:St):Prop:=∃env' st',aU lo env st env' st'/\p env' st'
def cq (Y:Ctx):AC->(Ex->List b7->St->Prop)->List b7->St->Prop
 | .reg draw ins cm,Q=>Gh Y.lo fun env st=>ep Y draw ins env [] st fun vs st'=>Q .normal (fV env vs cm) st'
 | .seq a b,Q=>Gh Y.lo (cq Y a (fun e env st=>match e with
   | .normal=>cq Y b Q env st
   |e=>Q e env st))
 | .cond c a b,Q=>Gh Y.lo fun env st=>(c.ev env []).ok=true/\match(c.ev env []).d with
  | .bool t=>(t=true->cq Y a Q env st)/\(t=false->cq Y b Q env st)
  |_=>False
 | .block id a,Q=>Gh Y.lo (cq Y a (fun e env st=>match e with
   | .exit j=>if j=id then Q .normal env st else Q (.exit j) env st
   |e=>Q e env st))
 | .loop a,Q=>Gh Y.lo fun env st=>∃(I:List b7->St->Prop) (μ:List b7->St->Nat),
   I env st/\∀env st,I env st->
   cq Y a (fun e env' st'=>match e with
    | .normal=>∃env2 st2,aU Y.lo env' st' env2 st2/\I env2 st2/\μ env2 st2<μ env st
    |e=>Q e env' st') env st
 | .exit id,Q=>Gh Y.lo (Q (.exit id))
 | .ret,Q=>Gh Y.lo (Q .ret)
 | .skip,Q=>Gh Y.lo (Q .normal)
def Ctx.at (Y:Ctx)(n:Nat):Ctx:={Y with lo:=n}
@[go_sem] def AQ (m:List (Nat×bT))(env:List b7)(r:Bx):D:=match r.mem with
 |none=>(env.getD r.s .un).d
 |some (n,ag)=>tn m n ag (env.getD r.s .un).d
@[go_sem] def ow (m:List (Nat×bT))(env:List b7):List Bx->Prop
 |[]=>True
 |r::rs=>(env.getD r.s .un).ok=true/\(match r.mem with
   |none=>True
   |some (n,_)=>wK m n (env.getD r.s .un).d)/\ow m env rs
@[go_sem] def nE (m:List (Nat×bT))(env:List b7):List Bx->List D
 |[]=>[]
 |r::rs=>AQ m env r::nE m env rs
@[go_sem] def jD (a:aM)(env:List b7)(st:St):D:=match a.res with
 |[r]=>AQ st.m env r
 |rs=>.tup (nE st.m env rs)
@[go_sem] def LI (a:aM)(env:List b7)(st:St):D:=match a.res with
 |[r]=>iC st.m (a.rsh.getD 0 []) (AQ st.m env r)
 |rs=>.tup (fX st.m a.rsh (nE st.m env rs))
@[go_sem] def DU (a:aM)(env:List b7)(st:St):Prop:=match a.res with
 |[r]=>gD st.m (a.rsh.getD 0 []) (AQ st.m env r)
 |rs=>iL st.m a.rsh (nE st.m env rs)
@[go_sem] def Ex.home:Ex->Prop
 | .exit _=>False
 |_=>True
@[go_sem] def fK (a:aM)(ds:List D):List b7:=(ds.map fun d=>⟨true,d⟩)++List.replicate (a.ns-a.np) .un
mutual
def cW:Value->Option D
 | .bool b=>some (.bool b)
 | .int k n=>some (.int k n)
 | .string s=>if s.size<=9223372036854775807 then some (.str s.data.toList)else none
 | .pointer none=>some .nilp
 | .slice none 0 0=>some .aG
 | .nilFunc=>some .nilf
 | .nilIface=>some (.fn 4600000 [])
 | .agg ⟨cs⟩=>if qA cs then(oK cs).map .agg else none
 |_=>none
def oK:List Value->Option (List D)
 |[]=>some []
 |v::r=>match cW v,oK r with
  |some d,some ds=>some (d::ds)
  |_,_=>none
def qA:List Value->Bool
 |[]=>true
 |v::r=>(match v with
  | .agg _=>false
  | .tuple _=>false
  |_=>true)&&qA r
end
def y9 (P:Program):Nat->TypeId->List Sh
 |0,_=>[.a]
 |d+1,t=>match P.underlying t with
  |some (.struct fs)=>(fs.toList.map fun f=>y9 P d f.type).flatten
  |some (.array n e)=>(List.replicate n (y9 P d e)).flatten
  |some (.slice e)=>[.sl (P.cellsOf e) (y9 P d e)]
  |some (.pointer e)=>[.pt (y9 P d e)]
  |_=>[.a]
def N8:List Sh->List Sh
 |[.sl _ cs]=>[.kp cs]
 |l=>l
def RF (fn:Func):Nat:=100000000+fn.endLine*10000+fn.ntmps
structure CC where
 P:Program
 ν:List (Nat×Nat)
 cy:List Nat
 slots:List Nat
 ntmps:Nat
 vm:Bool
def dx:List (Nat×Nat)->Nat->Option Nat
 |[],_=>none
 |(a,b)::r,l=>if a=l then some b else dx r l
def ifN (P:Program)(ν:List (Nat×Nat))(t:TypeId):Option Nat:=match P.underlying t with
 |some (.interface _)=>none
 |none=>none
 |some _=>match dx ν (1000000000+t)with
  |some q=>if 500000<=q then some (q-500000)else none
  |none=>none
def Ma (k:Nat):Option Nat:=if k<1000000000 then none else some (k-1000000000)
def zZ (P:Program)(ν:List (Nat×Nat))(name:String)(t n:Nat):Bool:=match P.underlying t with
 |some (.pointer _)=>false
 |none=>false
 |some _=>match P.info? t with
  |some ti=>(match ti.methods.find? (·.name==name)with
   |some m=>m.path.toList.isEmpty&&(match m.func with
    |some (f,false)=>dx ν f==some n
    |_=>false)
   |none=>false)
  |none=>false
def Ia (P:Program)(ν:List (Nat×Nat))(name:String):Bool:=ν.all fun p=>match Ma p.1 with
 |none=>true
 |some t=>zZ P ν name t (p.2-500000)
def th:List Nat->Nat->Option Nat
 |[],_=>none
 |a::r,t=>if a=t then some 0 else(th r t).map (· +1)
def posOf (t:Nat):List (Option Nat)->Option Nat
 |[]=>none
 |a::r=>if a=some t then some 0 else(posOf t r).map (· +1)
def CC.src (C:CC)(defs:List (Option Nat)):Operand->Option Src
 | .tmp t=>match posOf t defs with
  |some p=>some (.l p)
  |none=>(th C.slots t).map .s
 | .const v=>(cW v).map .c
 | .func f=>(dx C.ν f).map fun n=>.c (.fn n [])
 | .global _=>none
def CC.qk (C:CC)(defs:List (Option Nat)):List Operand->Option (List Src)
 |[]=>some []
 |x::r=>match C.src defs x,C.qk defs r with
  |some a,some l=>some (a::l)
  |_,_=>none
def CC.opt (C:CC)(defs:List (Option Nat)):Option Operand->Option (Option Src)
 |none=>some none
 |some x=>(C.src defs x).map some
def cx (P:Program)(t:TypeId):Bool:=match P.underlying t with
 |some (.struct _)=>true
 |some (.array ..)=>true
 |_=>false
def jW (P:Program)(k:TypeId->Option (List CK)):Nat->List Field->Option (List CK)
 |_,[]=>some []
 |off,f::r=>if f.name= "_" \/f.offset≠off then none else
  match k f.type,jW P k (off+P.cellsOf f.type) r with
  |some a,some b=>if a.length=P.cellsOf f.type/\a.length≠0/\(P.underlying f.type).isNone=false then some (a++b)else none
  |_,_=>none
def fJ (P:Program):Nat->TypeId->Option (List CK)
 |0,_=>none
 |d+1,t=>match P.underlying t with
  |some .bool=>some [.b]
  |some (.int k)=>some [.i k]
  |some .string=>some [.s]
  |some (.struct fs)=>if P.stoodInHeld t then none else jW P (fun t=>fJ P d t) 0 fs.toList
  |some (.array n e)=>match fJ P d e with
   |some l=>if l.length=P.cellsOf e/\l.length≠0/\(P.underlying e).isNone=false then some (List.replicate n l).flatten else none
   |none=>none
  |_=>none
def CC.parts (C:CC)(defs:List (Option Nat))(place:Nat->Option (Nat×Nat)):List (Nat×Operand)->Option (List (Nat×Nat×Src))
 |[]=>some []
 |(i,x)::r=>match place i,C.src defs x,C.parts defs place r with
  |some (o,n),some s,some l=>if n=0 then none else some ((o,n,s)::l)
  |_,_,_=>none
def CC.rX (C:CC)(defs:List (Option Nat)):List (Nat×Operand)->Option (List (Nat×Src))
 |[]=>some []
 |(i,x)::r=>match C.src defs x,C.rX defs r with
  |some s,some l=>some ((i,s)::l)
  |_,_=>none
def nv (P:Program)(t:TypeId):Option D:=((P.info? t).bind (·.zero)).bind cW
def zVD:D:=.agg [.int .i64 0,.int .i64 0,.int .i64 0,.str [],.str []]
def CC.H4 (C:CC)(t:TypeId):Operand->Option D
 | .global g=>if C.cy.contains (500000000+g)=true/\C.P.cellsOf t=5/\cx C.P t=true/\(C.P.underlying t).isNone=false then some zVD else none
 |_=>none
def mF (P:Program)(t:TypeId):Bool:=match nv P t with
 |some z=>z.cells.length==P.cellsOf t
 |none=>false
def CC.op (C:CC)(defs:List (Option Nat))(o:Oper):Option aI:=
 match o.op with
 | .move x=>(C.src defs x).map .mv
 | .assign x=>(C.src defs x).map .mv
 | .pick c a b=>match C.src defs c,C.src defs a,C.src defs b with
  |some c,some a,some b=>some (.pick c a b)
  |_,_,_=>none
 | .alloc t=>match nv C.P t with
  |some z=>if C.P.cellsOf t=0 then some .zal else if C.cy.contains (1000000000+t)then(match z with
   | .agg [.nilp,.aG]=>some .mkB
   |_=>none)else some (.box (C.P.cellsOf t) (.c z))
  |none=>none
 | .box t x=>match C.src defs x with
  |some s=>if C.P.cellsOf t=0 then some .zal else some (.box (C.P.cellsOf t) s)
  |none=>none
 | .build t ps=>match nv C.P t,C.P.underlying t with
  |some (.agg z),some (.struct fs)=>if fs.toList.all (fun f=>(C.P.info? f.type).isSome)then(C.parts defs (fun i=>(fs[i]?).map fun f=>(f.offset,C.P.cellsOf f.type)) ps.toList).map (.build z)else none
  |some (.agg z),some (.array _ e)=>if C.P.cellsOf e=0 then none else(C.parts defs (fun i=>some (i*C.P.cellsOf e,C.P.cellsOf e)) ps.toList).map (.build z)
  |_,_=>none
 | .buildSlice t n ps=>match C.P.underlying t with
  |some (.slice e)=>match nv C.P e,C.rX defs ps.toList with
   |some z,some l=>if C.P.cellsOf e=0\/n*C.P.cellsOf e>16777216 then none else some (.bsl (C.P.cellsOf e) z n l)
   |_,_=>none
  |_=>none
 | .load t a=>match C.H4 t a with
  |some d=>some (.mv (.c d))
  |none=>match C.src defs a with
  |some s=>if C.P.cellsOf t=0\/(C.P.underlying t).isNone\/(cx C.P t=false/\C.P.cellsOf t≠1)then none else some (.ld (C.P.cellsOf t) (cx C.P t) s)
  |none=>none
 | .store t a x=>match C.src defs a,C.src defs x with
  |some a,some x=>if C.P.cellsOf t=0 then(if(C.P.info? t).isSome then some (.zst a x)else none)else some (.st (C.P.cellsOf t) a x)
  |_,_=>none
 | .nilCheck x=>(C.src defs x).map .nilck
 | .binOp op t x y _=>match C.src defs x,C.src defs y with
  |some a,some b=>match C.P.underlying t with
   |some (.int _)=>some (.bin op a b)
   |some .string=>some (.bin op a b)
   |some (.interface _)=>match op,b with
    | .eql,.c (.fn 4600000 [])=>some (.isI a)
    |_,_=>none
   |_=>if C.P.eqGuardType C.P.depth t then none else match fJ C.P 30 t,op with
    |some ks,.eql=>some (.eqA false (cx C.P t) ks a b)
    |some ks,.neq=>some (.eqA true (cx C.P t) ks a b)
    |none,.eql=>match C.P.underlying t,b with
     |some (.func ..),.c .nilf=>some (.isF a)
     |some (.slice _),.c .aG=>some (.isNl a false)
     |_,_=>none
    |none,.neq=>match C.P.underlying t,b with
     |some (.slice _),.c .aG=>some (.isNl a true)
     |_,_=>none
    |_,_=>none
  |_,_=>none
 | .unOp op _ x=>(C.src defs x).map (.un op)
 | .convert s d x=>match C.P.underlying s,C.P.underlying d,C.src defs x with
  |some (.int _),some (.int k),some a=>some (.cvi k a)
  |some (.int _),some .string,some a=>some (.i2s a)
  |some .string,some (.slice e),some a=>match C.P.underlying e with
   |some (.int .u8)=>some (.s2b a)
   |_=>none
  |some (.slice e),some .string,some a=>match C.P.underlying e with
   |some (.int .u8)=>some (.b2s a)
   |_=>none
  |_,_,_=>none
 | .makeFunc (.func f) first caps=>match dx C.ν f,C.qk defs caps.toList with
  |some n,some l=>if first.isEmpty then some (.mkf n l)else if l.isEmpty then(C.qk defs first.toList).map (.mkf (n+1000000))else none
  |_,_=>none
 | .makeSlice t l c=>match C.P.underlying t with
  |some (.slice e)=>match nv C.P e,C.src defs l,C.src defs c with
   |some z,some l,some c=>if C.P.cellsOf e=0\/C.P.bytesOf e>65536 then none else some (.mks (C.P.cellsOf e) z l c)
   |_,_,_=>none
  |_=>none
 | .slice t x lo hi mx=>match C.P.underlying t,C.src defs x,C.opt defs lo,C.opt defs hi,mx with
  |some .string,some a,some l,some h,none=>some (.slS a l h)
  |some (.slice e),some a,some l,some h,none=>if C.P.cellsOf e=0 then none else some (.slA (C.P.cellsOf e) a l h)
  |some (.slice e),some a,some none,some (some h),some m=>match C.src defs m with
   |some m=>if C.P.cellsOf e=0 then none else some (.slX (C.P.cellsOf e) a h m)
   |none=>none
  |_,_,_,_,_=>none
 | .fieldAddr t x f=>match C.P.underlying t,C.src defs x with
  |some (.struct fs),some a=>match fs[f]? with
   |some f=>if C.P.cellsOf f.type=0 then none else some (.fa f.offset a)
   |none=>none
  |_,_=>none
 | .field t x f=>match C.P.underlying t,C.src defs x with
  |some (.struct fs),some a=>match fs[f]? with
   |some f=>if C.P.cellsOf f.type=0\/(C.P.underlying f.type).isNone then none else some (.fld f.offset (C.P.cellsOf f.type) (cx C.P f.type) a)
   |none=>none
  |_,_=>none
 | .indexAddr t x i=>match C.P.underlying t,C.src defs x,C.src defs i with
  |some (.slice e),some a,some b=>if C.P.cellsOf e=0 then none else some (.ia (C.P.cellsOf e) a b)
  |some (.array n e),some a,some b=>if C.P.cellsOf e=0 then none else some (.iaP n (C.P.cellsOf e) a b)
  |_,_,_=>none
 | .index t x i=>match C.P.underlying t,C.src defs x,C.src defs i with
  |some .string,some a,some b=>some (.ixS a b)
  |some (.array n e),some a,some b=>if C.P.cellsOf e=0\/(C.P.underlying e).isNone then none else some (.ixA n (C.P.cellsOf e) (cx C.P e) a b)
  |_,_,_=>none
 | .lookup t x y false=>match C.src defs x,C.src defs y,C.P.underlying t with
  |some a,some b,some (.map k e)=>match C.P.underlying k,nv C.P e with
   |some .string,some .nilf=>some (.lkp a b)
   |_,_=>none
  |_,_,_=>none
 | .range t x=>match C.P.underlying t,C.src defs x with
  |some .string,some a=>some (.rng a)
  |_,_=>none
 | .next it true=>(C.src defs it).map .bR
 | .makeInterface t x=>match C.src defs x,ifN C.P C.ν t with
  |some s,some n=>some (.mkI n s)
  |_,_=>none
 | .typeAssert x _ t true=>match C.src defs x,ifN C.P C.ν t,nv C.P t with
  |some s,some n,some z=>if n<500000/\C.ν.all (fun p=>p.1==1000000000+t ||p.2 !=500000+n)=true then some (.tas n z s)else none
  |_,_,_=>none
 | .extract t i=>(C.src defs t).map fun s=>.ext s i
 | .call c=>match c.callee with
  | .builtin .len=>match c.args.toList,c.argTypes.toList with
   |[x],[t]=>match C.src defs x,C.P.underlying t with
    |some a,some .string=>some (.lenS a)
    |some a,some (.slice _)=>some (.len a)
    |_,_=>none
   |_,_=>none
  | .builtin .min=>match c.args.toList with
   |[x,y]=>match C.src defs x,C.src defs y with
    |some a,some b=>some (.mn a b)
    |_,_=>none
   |_=>none
  | .builtin .append=>match c.args.toList,c.argTypes.toList with
   |[x,y],[t,u]=>match C.src defs x,C.src defs y,C.P.underlying t,C.P.underlying u with
    |some a,some b,some (.slice e),some (.slice _)=>if C.P.cellsOf e=0\/C.P.bytesOf e>65536\/C.P.bytesOf e=0\/mF C.P e=false then none else some (.app (C.P.cellsOf e) a b)
    |some a,some b,some (.slice e),some .string=>if C.P.cellsOf e=0\/C.P.bytesOf e>65536\/C.P.bytesOf e=0\/mF C.P e=false then none else some (.app (C.P.cellsOf e) a b)
    |_,_,_,_=>none
   |_,_=>none
  | .value (.func f)=>match dx C.ν f,C.qk defs c.args.toList with
   |some n,some l=>if C.cy.contains (2*n)then some (.callM n l)else if C.cy.contains (2*n+1)then(match l with
     |r::rest=>some (.callF n r rest ((c.argTypes.toList.map (y9 C.P 8)).drop 1))
     |[]=>none)else some (.call n l (c.argTypes.toList.map (y9 C.P 8)))
   |_,_=>none
  | .value (.tmp t)=>match C.src defs (.tmp t),C.qk defs c.args.toList with
   |some s,some l=>if C.vm then some (.callvM s l)else some (.callv s l (c.argTypes.toList.map (y9 C.P 8)))
   |_,_=>none
  | .invoke r name=>if c.args.toList.isEmpty&&Ia C.P C.ν name then(C.src defs r).map .invk else none
  |_=>none
 |_=>none
def CC.guard (defs:List (Option Nat)):Option (Nat×Bool)->Option (Option (Nat×Bool))
 |none=>some none
 |some (j,w)=>match defs[j]? with
  |some (some _)=>some (some (j,w))
  |_=>none
def CC.ops (C:CC):(defs:List (Option Nat))->List Oper->Option (List GI)
 |_,[]=>some []
 |defs,o::r=>match C.op defs o,CC.guard defs o.guard,C.ops (defs++[o.dst]) r with
  |some i,some g,some l=>if o.dst.all (fun d=>d<C.ntmps&& !defs.contains (some d))then some (⟨i,g⟩::l)else none
  |_,_,_=>none
def CC.ff (C:CC):Nat->List Oper->List (Nat×Nat)
 |_,[]=>[]
 |p,o::r=>match o.dst.bind (th C.slots)with
  |some s=>(s,p)::C.ff (p+1) r
  |none=>C.ff (p+1) r
def nn (acc:List Nat):List Edge->Nat
 |[]=>0
 |e::r=>if Region.binds .any e then(2^e.on |||acc.getD e.on 0) |||nn acc r else nn acc r
def jv:List Nat->List Oper->List Nat
 |acc,[]=>acc
 |acc,o::r=>jv (acc++[nn acc o.after.toList]) r
def tmpsOf (ops:List Oper)(o:Oper):List Nat:=
 (o.op.operands.toList.filterMap fun
   | .tmp t=>some t
   |_=>none)++(match o.guard with
   |some (g,_)=>((ops[g]?).bind (·.dst)).toList
   |none=>[])
def oY (ops:List Oper)(bs:List Nat):Bool:=
 (List.range ops.length).all fun j=>(List.range ops.length).all fun p=>match ops[j]?,ops[p]? with
   |some oj,some op=>match op.dst with
    |some t=>p==j ||!(tmpsOf ops oj).contains t ||(bs.getD (max j p) 0).testBit (min j p)
    |none=>true
   |_,_=>false
def aI.pure:aI->Bool
 | .mv _=>true
 | .pick .. =>true
 | .build .. =>true
 | .nilck _=>true
 | .bin .. =>true
 | .eqA .. =>true
 | .un .. =>true
 | .cvi .. =>true
 | .mn .. =>true
 | .i2s _=>true
 | .mkf .. =>true
 | .slS .. =>true
 | .slA .. =>true
 | .slX .. =>true
 | .fa .. =>true
 | .fld .. =>true
 | .ia .. =>true
 | .iaP .. =>true
 | .ixS .. =>true
 | .ixA .. =>true
 | .ext .. =>true
 | .len _=>true
 | .lenS _=>true
 | .ldI .. =>true
 | .bslI .. =>true
 | .lkp .. =>true
 | .isF _=>true
 | .mkI .. =>true
 | .isI _=>true
 | .tas .. =>true
 | .zst .. =>true
 |_=>false
def Sh.Pc:Sh->Bool
 | .a=>true
 |_=>false
def aI.free:aI->Bool
 | .call _ _ sh=>sh.all fun s=>s.all Sh.Pc
 |i=>i.pure
def aI.iw:aI->Bool
 | .box .. =>true
 | .bsl .. =>true
 | .mks .. =>true
 | .s2b .. =>true
 | .rng .. =>true
 | .mkB=>true
 |_=>false
def aI.isApp:aI->Bool
 | .app .. =>true
 |_=>false
def aI.kC:aI->Bool
 | .callF .. =>true
 |_=>false
def aI.qL:aI->Bool
 | .ldU .. =>true
 |_=>false
def exU (l:List GI)(gj gi:aI)(j i:Nat):Bool:=gi.qL&&((gj.isApp&&decide (j<i)) ||(gj.kC&&(decide (i<j)&&(List.range j).all fun q=>decide (q<=i) ||match l[q]? with
 |some g=>g.i.calm ||g.i.kC
 |none=>true)))
def Mz (l:List GI)(bs:List Nat):Bool:=
 (List.range l.length).all fun j=>(List.range l.length).all fun i=>match l[j]?,l[i]? with
   |some gj,some gi=>gj.i.calm ||gi.i.free ||(gi.i.iw&&(!gj.i.isApp ||decide (j<i))) ||i==j ||(bs.getD (max j i) 0).testBit (min j i) ||exU l gj.i gi.i j i
   |_,_=>false
def aI.cz:aI->Bool
 | .callM .. =>true
 | .callvM .. =>true
 | .callL .. =>true
 | .isNl .. =>true
 |_=>false
def mT:Nat->List Oper->Bool
 |_,[]=>true
 |p,o::r=>o.after.toList.all (fun e=>!Region.binds .any e ||decide (e.on<p))&&mT (p+1) r
def L7:GI->Bool
 |⟨.mv _,none⟩=>true
 |⟨.un ..,_⟩=>true
 |⟨.pick ..,none⟩=>true
 |_=>false
def DY:List GI->Bool
 |⟨.callM ..,_⟩::r=>r.all L7
 |⟨.callvM ..,_⟩::r=>r.all L7
 |_=>false
def DG (l:List GI)(bs:List Nat):Bool:=
 let n:=l.findIdx fun g=>g.i.cz
 DY (l.drop n)&&((l.take n).all (fun g=>!g.i.cz)&&(List.range (l.length-n)).all fun q=>(List.range (n+q)).all fun p=>(bs.getD (n+q) 0).testBit p)
def uH (ops:List Oper)(l:List GI):Bool:=
 let bs:=jv [] ops
 oY ops bs&&(Mz l bs&&(((l.all fun g=>!g.i.cz) ||DG l bs)&&mT 0 ops))
def aI.O1:aI->aI
 | .app k (.c .aG) y=>.appN k y
 |i=>i
def looseAt (bs:List Nat)(l:List GI)(i:Nat):Bool:=
 (List.range l.length).any fun j=>match l[j]? with
   |some gj=>!(gj.i.O1.calm ||i==j ||(bs.getD (max j i) 0).testBit (min j i))
   |none=>false
def Oc (bs:List Nat)(l:List GI)(i:Nat):Bool:=
 (List.range l.length).all fun j=>match l[j]? with
   |some gj=>gj.i.O1.calm ||i==j ||(bs.getD (max j i) 0).testBit (min j i) ||(gj.i.isApp&&decide (j<i)) ||(gj.i.kC&&(decide (i<j)&&(List.range j).all fun q=>decide (q<=i) ||match l[q]? with
    |some g=>g.i.O1.calm ||g.i.kC
    |none=>true))
   |none=>true
def N6 (bs:List Nat)(l:List GI)(p:Nat):Bool:=
 (List.range l.length).any fun j=>match l[j]? with
   |some ⟨.ia _ (.l q) _,_⟩=>Nat.beq q p&&(List.range l.length).any fun i=>match l[i]? with
    |some ⟨.ld _ _ (.l r),_⟩=>Nat.beq r j&&looseAt bs l i
    |_=>false
   |_=>false
def Rn (l:List GI)(p:Nat):Bool:=l.any fun g=>match g.i with
 | .call _ args _=>args.any fun s=>match s with
  | .l q=>Nat.beq q p
  |_=>false
 |_=>false
def ke (bs:List Nat)(l0:List GI):Nat->List GI->List GI
 |_,[]=>[]
 |p,g::r=>(match g.i with
  | .ld n ag x=>if looseAt bs l0 p then(if Oc bs l0 p then⟨.ldU n ag x,g.g⟩else⟨.ldI n ag x,g.g⟩)else g
  | .bsl k z n ps=>if(N6 bs l0 p ||(Nat.ble 2 k&&Rn l0 p))=true then⟨.bslI k z n ps,g.g⟩else g
  |i=>⟨i.O1,g.g⟩)::ke bs l0 (p+1) r
def sB (b:Nat):Nat->List GI->List (Nat×Nat×Bool×Src)
 |_,[]=>[]
 |p,⟨.ld n ag x,_⟩::r=>if b.testBit p=true then sB b (p+1) r else(p,n,ag,x)::sB b (p+1) r
 |p,_::r=>sB b (p+1) r
def aI.wW:aI->Bool
 | .ld .. =>true
 |_=>false
def B4 (ops:List Oper)(l:List GI):Option (List GI):=
 let bs:=jv [] ops
 let n:=l.findIdx fun g=>g.i.cz
 match l.drop n with
 |⟨.callM f args,none⟩::suf=>if((l.take n).all (fun g=>g.i.pure ||g.i.wW)&&(suf.all (fun g=>g.g.isNone&& !g.i.cz)&&(oY ops bs&&(mT 0 ops&&((List.range suf.length).all fun q=>(List.range (n+1+q)).all fun p=>((l.take n).getD p ⟨.mkB,none⟩).i.pure ||(bs.getD (n+1+q) 0).testBit p)))))=true
   then some (l.take n++⟨.callL f args (sB (bs.getD n 0) 0 (l.take n)),none⟩::suf)else none
 |_=>none
def CC.code (C:CC):Code->Option AC
 | .skip=>some .skip
 | .region _ ops draw=>match C.ops [] ops.toList with
  |some l=>if draw then
    if uH ops.toList (ke (jv [] ops.toList) l 0 l)then some (.reg true (ke (jv [] ops.toList) l 0 l) (C.ff 0 ops.toList))else(B4 ops.toList l).map fun l'=>.reg true l' (C.ff 0 ops.toList)
   else some (.reg false l (C.ff 0 ops.toList))
  |none=>none
 | .seq a b=>match C.code a,C.code b with
  |some a,some b=>some (.seq a b)
  |_,_=>none
 | .cond c a b=>match C.src [] c,C.code a,C.code b with
  |some c,some a,some b=>some (.cond c a b)
  |_,_,_=>none
 | .block id a=>(C.code a).map (.block id)
 | .loop a=>(C.code a).map .loop
 | .exit id=>some (.exit id)
 | .ret=>some .ret
 | .scope a=>C.code a
 | .label _=>some .skip
 |_=>none
def D4:(defs:List (Option Nat))->List Oper->List Nat
 |_,[]=>[]
 |defs,o::r=>(o.op.operands.toList.filterMap fun
   | .tmp t=>if(posOf t defs).isNone then some t else none
   |_=>none)++D4 (defs++[o.dst]) r
def wm:Code->List Nat
 | .region _ ops _=>D4 [] ops.toList
 | .seq a b=>wm a++wm b
 | .cond c a b=>(match c with
  | .tmp t=>[t]
  |_=>[])++wm a++wm b
 | .block _ a=>wm a
 | .loop a=>wm a
 | .scope a=>wm a
 |_=>[]
def oZ:List ResultVar->List Nat
 |[]=>[]
 | .tmp t::r=>t::oZ r
 | .cell t _::r=>t::oZ r
def dedup:List Nat->List Nat->List Nat
 |acc,[]=>acc.reverse
 |acc,a::r=>if acc.contains a then dedup acc r else dedup (a::acc) r
def qV (P:Program)(sl:List Nat):List ResultVar->Option (List Bx)
 |[]=>some []
 | .tmp t::r=>match th sl t,qV P sl r with
  |some a,some l=>some (⟨a,none⟩::l)
  |_,_=>none
 | .cell t ty::r=>match th sl t,qV P sl r with
  |some a,some l=>if P.cellsOf ty=0\/(P.underlying ty).isNone\/(cx P ty=false/\P.cellsOf ty≠1)then none else some (⟨a,some (P.cellsOf ty,cx P ty)⟩::l)
  |_,_=>none
def slotsOf (fn:Func):List Nat:=dedup [] (List.range (fn.params.size+fn.nfree)++oZ fn.results.toList++wm (fn.body.getD .skip))
def R4 (P:Program)(ops:List Oper):Bool:=ops.any fun o=>match o.op with
 | .makeFunc _ first _=>!first.isEmpty
 | .lookup t _ _ _=>(match P.underlying t with
  |some (.map _ e)=>(match P.underlying e with
   |some (.func ..)=>true
   |_=>false)
  |_=>false)
 | .call c=>(match c.callee with
  | .value (.tmp _)=>c.argTypes.toList.any fun t=>match P.underlying t with
   |some (.pointer _)=>true
   |_=>false
  |_=>false)
 |_=>false
def Be (P:Program):Code->Bool
 | .region _ ops _=>R4 P ops.toList
 | .seq a b=>Be P a ||Be P b
 | .cond _ a b=>Be P a ||Be P b
 | .block _ a=>Be P a
 | .loop a=>Be P a
 | .scope a=>Be P a
 |_=>false
def GH (P:Program)(fn:Func):Bool:=Be P (fn.body.getD .skip)
def compile (P:Program)(ν:List (Nat×Nat))(cy:List Nat)(fn:Func):Option aM:=
 match fn.body with
 |some body=>
  match CC.code {P,ν,cy,slots:=slotsOf fn,ntmps:=fn.ntmps,vm:=GH P fn} body,qV P (slotsOf fn) fn.results.toList with
  |some a,some res=>
   if fn.params.size+fn.nfree<=fn.ntmps then some {np:=fn.params.size+fn.nfree,ns:=(slotsOf fn).length,res,rsh:=fn.resultTypes.toList.map fun t=>bif cy.contains (RF fn)then N8 (y9 P 8 t)else y9 P 8 t,body:=a}else none
  |_,_=>none
 |none=>none
section
structure X where
 w:World
 I:Nat->Prop
 β:Nat->Option (Nat×Nat×Nat)
def Pe (es:List MapEntry)(i:Nat):Value:=match es[i/2]? with
 |some e=>if i%2=0 then e.key else e.val
 |none=>undef
inductive RD (ν:List (Nat×Nat))(x:X):Value->D->Prop
 |any (v:Value):RD ν x v .any
 |bool (b:Bool):RD ν x (.bool b) (.bool b)
 |int (k:IntKind) (n:Int):RD ν x (.int k n) (.int k n)
 |str (s:List UInt8) (h:s.length<=maxLen):RD ν x (.string ⟨⟨s⟩⟩) (.str s)
 |agg (cs:Array Value) (ds:List D) (hl:cs.size=ds.length) (h1:∀i,i<ds.length->(cs.getD i undef).oneCell'=true)
   (h:∀i,i<ds.length->RD ν x (cs.getD i undef) (ds.getD i .any)):RD ν x (.agg cs) (.agg ds)
 |tup (cs:Array Value) (ds:List D) (hl:cs.size=ds.length)
   (h:∀i,i<ds.length->RD ν x (cs.getD i undef) (ds.getD i .any)):RD ν x (.tuple cs) (.tup ds)
 |aG:RD ν x (.slice none 0 0) .aG
 |sl (a:Option Addr) (b off len cap k:Nat) (es:List D) (c:Nat->Nat->Value) (hlen:len=es.length)
   (ha:es=[]\/(a=some ⟨b,off,none⟩/\x.I b)) (hcap:len<=cap) (hm:cap<=maxLen)
   (hk:∀i,i<len->(es.getD i .any).cells.length=k) (hn:∀i,i<len->(es.getD i .any).bm=true)
   (hc:∀i j,i<len->j<k->x.w.cell? ⟨b,off+i*k+j,none⟩=some (c i j))
   (h1:∀i j,i<len->j<k->(c i j).oneCell'=true)
   (h:∀i j,i<len->j<k->RD ν x (c i j) ((es.getD i .any).cells.getD j .any)):RD ν x (.slice a len cap) (.sl k es)
 |ref (b off k i o at_:Nat) (es:List D) (c:Nat->Nat->Value) (hI:x.I b) (hat:at_=off+i*k+o)
   (hk:∀i,i<es.length->(es.getD i .any).cells.length=k) (hn:∀i,i<es.length->(es.getD i .any).bm=true)
   (hc:∀i j,i<es.length->j<k->x.w.cell? ⟨b,off+i*k+j,none⟩=some (c i j))
   (h1:∀i j,i<es.length->j<k->(c i j).oneCell'=true)
   (h:∀i j,i<es.length->j<k->RD ν x (c i j) ((es.getD i .any).cells.getD j .any)):RD ν x (.pointer (some ⟨b,at_,none⟩)) (.ref k es i o)
 |ptr (l k i o b base tot at_:Nat) (hβ:x.β l=some (b,base,tot)) (hat:at_=base+i*k+o):RD ν x (.pointer (some ⟨b,at_,none⟩)) (.ptr l k i o)
 |own (l k i n b base tot cap:Nat) (a:Addr) (hβ:x.β l=some (b,base,tot)) (ha:0<cap->a=⟨b,base+i*k,none⟩)
   (hcap:n<=cap) (hm:cap<=maxLen) (ht:i+cap<=tot):RD ν x (.slice (some a) n cap) (.own l k i n)
 |own0 (l k i:Nat) (a:Option Addr):RD ν x (.slice a 0 0) (.own l k i 0)
 |nilp:RD ν x (.pointer none) .nilp
 |fn (fid n:Nat) (cs:Array Value) (ds:List D) (hν:dx ν fid=some n) (hl:cs.size=ds.length)
   (h:∀i,i<ds.length->RD ν x (cs.getD i undef) (ds.getD i .any)):RD ν x (.func (.func fid) #[] cs) (.fn n ds)
 |ed (fid n:Nat) (fs:Array Value) (ds:List D) (hν:dx ν fid=some n) (hl:fs.size=ds.length)
   (h:∀i,i<ds.length->RD ν x (fs.getD i undef) (ds.getD i .any)):RD ν x (.func (.func fid) fs #[]) (.fn (n+1000000) ds)
 |nilf:RD ν x .nilFunc .nilf
 |mp (r:Nat) (es:Array MapEntry) (cl:Nat) (ds:List D) (hI:x.I r) (hh:x.w.heap[r]? =some (.map es cl)) (hl:2*es.size=ds.length)
   (h:∀i,i<ds.length->RD ν x (Pe es.toList i) (ds.getD i .any)):RD ν x (.map (some r)) (.fn 2000000 ds)
 |bx (b at_:Nat) (ds:List D) (v:Value) (hI:x.I b) (hc:x.w.cell? ⟨b,at_,none⟩=some v) (h1:v.oneCell'=true) (hl:ds.length=1)
   (h:∀i,i<ds.length->RD ν x v (ds.getD i .any)):RD ν x (.pointer (some ⟨b,at_,none⟩)) (.fn 3000000 ds)
 |ifc (t n:Nat) (v:Value) (ds:List D) (hν:dx ν (1000000000+t)=some (500000+n)) (hn:n<500000) (hl:ds.length=1)
   (h:∀i,i<ds.length->RD ν x v (ds.getD i .any)):RD ν x (.iface t v) (.fn (n+4000000) ds)
 |ifn:RD ν x .nilIface (.fn 4600000 [])
 |zp (a:Addr):RD ν x (.pointer (some a)) (.fn 4700000 [])
 |it (l b base tot:Nat) (hβ:x.β l=some (b,base,tot)):RD ν x (.pointer (some ⟨b,0,none⟩)) (.it l)
section
variable {ν:List (Nat×Nat)} {x x':X}
structure Le (x x':X):Prop where
 I:∀b,x.I b->x'.I b
 keep:∀b,x.I b->x'.w.heap[b]? =x.w.heap[b]?
 β:∀l p,x.β l=some p->x'.β l=some p
theorem gZ {w w':World}{b o:Nat}{v:Value}(h:w'.heap[b]? =w.heap[b]?)(hc:w.cell? ⟨b,o,none⟩=some v):w'.cell? ⟨b,o,none⟩=some v:=by
 rw[<-hc];unfold World.cell?;simp only[h]
def Le.refl (x:X):Le x x:=⟨fun _ h=>h,fun _ _=>rfl,fun _ _ h=>h⟩
def Le.trans {x'':X}(h:Le x x')(h':Le x' x''):Le x x'':=
 ⟨fun b hb=>h'.I b (h.I b hb),fun b hb=>(h'.keep b (h.I b hb)).trans (h.keep b hb),fun l p hp=>h'.β l p (h.β l p hp)⟩
def RD.mono {v:Value}{d:D}(h:RD ν x v d)(hl:Le x x'):RD ν x' v d:=by
 induction h with
 |any v=>exact .any v
 |bool b=>exact .bool b
 |int k n=>exact .int k n
 |str s h=>exact .str s h
 |agg cs ds hl' h1 _ ih=>exact .agg cs ds hl' h1 ih
 |tup cs ds hl' _ ih=>exact .tup cs ds hl' ih
 |aG=>exact .aG
 |sl a b off len cap k es c hlen ha hcap hm hk hn hc h1 _ ih=>
  refine .sl a b off len cap k es c hlen (ha.imp id fun⟨p,q⟩=>⟨p,hl.I _ q⟩) hcap hm hk hn (fun i j hi hj=>?_) h1 ih;rcases ha with rfl|⟨_,hI⟩
  .simp at hlen;omega
  .exact gZ (hl.keep _ hI) (hc i j hi hj)
 |ref b off k i o at_ es c hI hat hk hn hc h1 _ ih=>
  exact .ref b off k i o at_ es c (hl.I _ hI) hat hk hn (fun i j hi hj=>gZ (hl.keep _ hI) (hc i j hi hj)) h1 ih
 |ptr l k i o b base tot at_ hβ hat=>exact .ptr l k i o b base tot at_ (hl.β _ _ hβ) hat
 |own l k i n b base tot cap a hβ ha hcap hm ht=>exact .own l k i n b base tot cap a (hl.β _ _ hβ) ha hcap hm ht
 |own0 l k i a=>exact .own0 l k i a
 |nilp=>exact .nilp
 |fn fid n cs ds hν hl' _ ih=>exact .fn fid n cs ds hν hl' ih
 |ed fid n cs ds hν hl' _ ih=>exact .ed fid n cs ds hν hl' ih
 |nilf=>exact .nilf
 |mp r es cl ds hI hh hl' _ ih=>exact .mp r es cl ds (hl.I _ hI) ((hl.keep _ hI).trans hh) hl' ih
 |bx b at_ ds v hI hc h1 hl' _ ih=>exact .bx b at_ ds v (hl.I _ hI) (gZ (hl.keep _ hI) hc) h1 hl' ih
 |ifc t n v ds hν hn hl' _ ih=>exact .ifc t n v ds hν hn hl' ih
 |ifn=>exact .ifn
 |zp a=>exact .zp a
 |it l b base tot hβ=>exact .it l b base tot (hl.β _ _ hβ)
def cC:∀{ds:List D},aW ds=true->∀i,(ds.getD i .any).bm=true
 |[],_,i=>by simp[D.bm]
 |d::r,h,0=>by simp[aW]at h;simpa using h.1
 |d::r,h,i+1=>by simp[aW]at h;simpa using cC h.2 i
def ix:∀{ds:List D},kS ds=true->∀i,(ds.getD i .any).eo=true
 |[],_,i=>by simp[D.eo]
 |d::r,h,0=>by simp[kS]at h;simpa using h.1
 |d::r,h,i+1=>by simp[kS]at h;simpa using ix h.2 i
def oq:∀{ds:List D},(∀i,i<ds.length->(ds.getD i .any).bm=true)->aW ds=true
 |[],_=>rfl
 |d::r,h=>by
  simp only[aW,br];exact⟨by simpa using h 0 bz,oq fun i hi=>by simpa using h (i+1) eB⟩
def jA {d:D}(h:d.bm=true)(j:Nat):(d.cells.getD j .any).bm=true:=by
 cases d<;>simp only[D.cells]<;>first
  |(simp only[D.bm]at h;exact cC h j)
  |(cases j<;>simp_all[D.bm])
def RD.bm {v:Value}{d:D}(h:RD ν x v d)(hn:d.bm=true)(hI:∀b,x.I b->x'.I b)(hk:∀b,x.I b->x'.w.heap[b]? =x.w.heap[b]?):RD ν x' v d:=by
 induction h with
 |any v=>exact .any v
 |bool b=>exact .bool b
 |int k n=>exact .int k n
 |str s h=>exact .str s h
 |agg cs ds hl' h1 _ ih=>exact .agg cs ds hl' h1 fun i hi=>ih i hi (cC (by simpa[D.bm]using hn) i)
 |tup cs ds hl' _ ih=>exact .tup cs ds hl' fun i hi=>ih i hi (cC (by simpa[D.bm]using hn) i)
 |aG=>exact .aG
 |sl a b off len cap k es c hlen ha hcap hm hk' hn' hc h1 _ ih=>
  refine .sl a b off len cap k es c hlen (ha.imp id fun⟨p,q⟩=>⟨p,hI _ q⟩) hcap hm hk' hn' (fun i j hi hj=>?_) h1 fun i j hi hj=>ih i j hi hj (jA (hn' i hi) j)
  grind [gZ]
 |ref b off k i o at_ es c hIb hat hk' hn' hc h1 _ ih=>
  exact .ref b off k i o at_ es c (hI _ hIb) hat hk' hn' (fun i j hi hj=>gZ (hk _ hIb) (hc i j hi hj)) h1 fun i j hi hj=>ih i j hi hj (jA (hn' i hi) j)
 |ptr=>simp[D.bm]at hn
 |own=>simp[D.bm]at hn
 |own0=>simp[D.bm]at hn
 |nilp=>exact .nilp
 |fn fid n cs ds hν hl' _ ih=>exact .fn fid n cs ds hν hl' fun i hi=>ih i hi (cC (by simpa[D.bm]using hn) i)
 |ed fid n cs ds hν hl' _ ih=>exact .ed fid n cs ds hν hl' fun i hi=>ih i hi (cC (by simpa[D.bm]using hn) i)
 |nilf=>exact .nilf
 |mp r es cl ds hIr hh hl' _ ih=>exact .mp r es cl ds (hI _ hIr) ((hk _ hIr).trans hh) hl' fun i hi=>ih i hi (cC (by simpa[D.bm]using hn) i)
 |bx b at_ ds v hIr hc h1 hl' _ ih=>exact .bx b at_ ds v (hI _ hIr) (gZ (hk _ hIr) hc) h1 hl' fun i hi=>ih i hi (cC (by simpa[D.bm]using hn) i)
 |ifc t n v ds hν hnn hl' _ ih=>exact .ifc t n v ds hν hnn hl' fun i hi=>ih i hi (cC (by simpa[D.bm]using hn) i)
 |ifn=>exact .ifn
 |zp a=>exact .zp a
 |it=>simp[D.bm]at hn
def RD.eo {v:Value}{d:D}(h:RD ν x v d)(hn:d.eo=true):RD ν x' v d:=by
 induction h with
 |any v=>exact .any v
 |bool b=>exact .bool b
 |int k n=>exact .int k n
 |str s h=>exact .str s h
 |agg cs ds hl' h1 _ ih=>exact .agg cs ds hl' h1 fun i hi=>ih i hi (ix (by simpa[D.eo]using hn) i)
 |tup cs ds hl' _ ih=>exact .tup cs ds hl' fun i hi=>ih i hi (ix (by simpa[D.eo]using hn) i)
 |aG=>exact .aG
 |sl=>simp[D.eo]at hn
 |ref=>simp[D.eo]at hn
 |ptr=>simp[D.eo]at hn
 |own=>simp[D.eo]at hn
 |own0=>simp[D.eo]at hn
 |nilp=>exact .nilp
 |fn fid n cs ds hν hl' _ ih=>exact .fn fid n cs ds hν hl' fun i hi=>ih i hi (ix (by simp[D.eo]at hn;exact hn.2) i)
 |ed fid n cs ds hν hl' _ ih=>exact .ed fid n cs ds hν hl' fun i hi=>ih i hi (ix (by simp[D.eo]at hn;exact hn.2) i)
 |nilf=>exact .nilf
 |mp=>simp[D.eo]at hn
 |bx=>simp[D.eo]at hn
 |ifc t n v ds=>simp[D.eo,show Nat.ble 2000000 (n+4000000)=true from(by rw[Nat.ble_eq];omega)]at hn
 |ifn=>exact .ifn
 |zp a=>exact .zp a
 |it=>simp[D.eo]at hn
theorem RD.cells {v:Value}{d:D}(h:RD ν x v d)(hd:0<d.cells.length):
  v.cells.size=d.cells.length/\∀j,j<d.cells.length->(v.cells.getD j undef).oneCell'=true/\RD ν x (v.cells.getD j undef) (d.cells.getD j .any):=by
 cases h with
 |any=>simp[D.cells]at hd
 |tup=>simp[D.cells]at hd
 |agg cs ds hl h1 h=>exact⟨hl,fun j hj=>⟨h1 j hj,h j hj⟩⟩
 |bool b=>exact⟨rfl,fun j hj=>by simp[D.cells]at hj;subst hj;exact⟨rfl,.bool b⟩⟩
 |int k n=>exact⟨rfl,fun j hj=>by simp[D.cells]at hj;subst hj;exact⟨rfl,.int k n⟩⟩
 |str s h=>exact⟨rfl,fun j hj=>by simp[D.cells]at hj;subst hj;exact⟨rfl,.str s h⟩⟩
 |aG=>exact⟨rfl,fun j hj=>by simp[D.cells]at hj;subst hj;exact⟨rfl,.aG⟩⟩
 |sl a b off len cap k es c hlen ha hcap hm hk hn hc h1 h=>exact⟨rfl,fun j hj=>by simp[D.cells]at hj;subst hj;exact⟨rfl,.sl a b off len cap k es c hlen ha hcap hm hk hn hc h1 h⟩⟩
 |ref b off k i o at_ es c hI hat hk hn hc h1 h=>exact⟨rfl,fun j hj=>by simp[D.cells]at hj;subst hj;exact⟨rfl,.ref b off k i o at_ es c hI hat hk hn hc h1 h⟩⟩
 |ptr l k i o b base tot at_ hβ hat=>exact⟨rfl,fun j hj=>by simp[D.cells]at hj;subst hj;exact⟨rfl,.ptr l k i o b base tot at_ hβ hat⟩⟩
 |own l k i n b base tot cap a hβ ha hcap hm ht=>exact⟨rfl,fun j hj=>by simp[D.cells]at hj;subst hj;exact⟨rfl,.own l k i n b base tot cap a hβ ha hcap hm ht⟩⟩
 |own0 l k i a=>exact⟨rfl,fun j hj=>by simp[D.cells]at hj;subst hj;exact⟨rfl,.own0 l k i a⟩⟩
 |nilp=>exact⟨rfl,fun j hj=>by simp[D.cells]at hj;subst hj;exact⟨rfl,.nilp⟩⟩
 |fn fid n cs ds hν hl h=>exact⟨rfl,fun j hj=>by simp[D.cells]at hj;subst hj;exact⟨rfl,.fn fid n cs ds hν hl h⟩⟩
 |ed fid n cs ds hν hl h=>exact⟨rfl,fun j hj=>by simp[D.cells]at hj;subst hj;exact⟨rfl,.ed fid n cs ds hν hl h⟩⟩
 |nilf=>exact⟨rfl,fun j hj=>by simp[D.cells]at hj;subst hj;exact⟨rfl,.nilf⟩⟩
 |mp r es cl ds hI hh hl h=>exact⟨rfl,fun j hj=>by simp[D.cells]at hj;subst hj;exact⟨rfl,.mp r es cl ds hI hh hl h⟩⟩
 |bx b at_ ds v hI hc h1 hl h=>exact⟨rfl,fun j hj=>by simp[D.cells]at hj;subst hj;exact⟨rfl,.bx b at_ ds v hI hc h1 hl h⟩⟩
 |ifc t n v ds hν hn hl h=>exact⟨rfl,fun j hj=>by simp[D.cells]at hj;subst hj;exact⟨rfl,.ifc t n v ds hν hn hl h⟩⟩
 |ifn=>exact⟨rfl,fun j hj=>by simp[D.cells]at hj;subst hj;exact⟨rfl,.ifn⟩⟩
 |zp a=>exact⟨rfl,fun j hj=>by simp[D.cells]at hj;subst hj;exact⟨rfl,.zp a⟩⟩
 |it l b base tot hβ=>exact⟨rfl,fun j hj=>by simp[D.cells]at hj;subst hj;exact⟨rfl,.it l b base tot hβ⟩⟩
end
end
section
section
variable {ν:List (Nat×Nat)} {x x':X}
def MT (j:Nat):Value:=if j<3 then .int .i64 0 else .string ⟨⟨[]⟩⟩
class dw where
 tB:TypeId:=0
 tU:TypeId:=0
 gd:X->Prop
 le:∀x x':X,(∀b,x.I b->x'.I b)->(∀b,x.I b->x'.w.heap[b]? =x.w.heap[b]?)->gd x->gd x'
 gz:Nat->Prop:=fun _=>False
 gzr:∀(x:X) (g:Nat),gd x->gz g->∀j,j<5->x.w.cell? ⟨g,j,none⟩=some (MT j):=by exact fun _ _ _ h=>h.elim
variable [dw]
def lG (ν:List (Nat×Nat))(x:X)(b base tot:Nat):bT->Prop
 | .buf k es=>0<k/\es.length<=tot/\∃c T fr,x.w.heap[b]? =some (.cells c T fr)/\base+tot*k<=c.size/\
   (∀o,o<c.size->¬(fr.1<=o/\o<fr.2))/\
   ∀i,i<es.length->(es.getD i .any).cells.length=k/\∀j,j<k->
    (c.getD (base+i*k+j) undef).oneCell'=true/\RD ν x (c.getD (base+i*k+j) undef) ((es.getD i .any).cells.getD j .any)
 | .iter s pos=>x.w.heap[b]? =some (.stringIter ⟨⟨s⟩⟩ pos)/\s.length<=maxLen
 | .row s=>base=0/\∃c,x.w.heap[b]? =some (.cells c dw.tU (0,0))/\c.size=tot/\tot<=maxLen/\s.length<=tot/\∀i,i<s.length->c.getD i undef=.int .u8 (s.getD i 0).toNat
 | .bld o n u=>base=0/\∃v,x.w.heap[b]? =some (.cells #[.pointer (if u=true then some ⟨b,0,none⟩else none),v] dw.tB (0,0))/\
   match o with
   |none=>n=0/\v=.slice none 0 0
   |some l=>∃g t,v=.slice (some ⟨g,0,none⟩) n t/\n<=t/\x.β l=some (g,0,t)
def qI (h:Le x x')(hg:dw.gd x):dw.gd x':=dw.le x x' h.I h.keep hg
structure eI (ν:List (Nat×Nat))(x:X)(f:Nat->Option bT):Prop where
 own:∀l blk b base tot,f l=some blk->x.β l=some (b,base,tot)->¬x.I b/\lG ν x b base tot blk
 inj:∀l l' b base tot base' tot',f l≠none->f l'≠none->x.β l=some (b,base,tot)->x.β l'=some (b,base',tot')->l=l'
 imm:∀b,x.I b->b<x.w.heap.size
 ed:∀l b base tot,x.β l=some (b,base,tot)->b<x.w.heap.size
 gd:dw.gd x
structure Step (x x':X):Prop where
 os:x'.w.os=x.w.os
 tape:x'.w.tape=x.w.tape
 output:x'.w.output=x.w.output
 size:x.w.heap.size<=x'.w.heap.size
 I:∀b,x.I b->x'.I b
 keep:∀b,x.I b->x'.w.heap[b]? =x.w.heap[b]?
 β:∀l p,x.β l=some p->x'.β l=some p
 old:∀b,b<x.w.heap.size->(∀l p,x.β l=some p->p.1≠b)->x'.w.heap[b]? =x.w.heap[b]?
 newI:∀b,x'.I b->x.I b\/x.w.heap.size<=b\/∃l p,x.β l=some p/\p.1=b
 newβ:∀l p,x'.β l=some p->x.β l=some p\/x.w.heap.size<=p.1\/∃l' p',x.β l'=some p'/\p'.1=p.1
def Step.le (h:Step x x'):Le x x':=⟨h.I,h.keep,h.β⟩
def Step.refl (x:X):Step x x:=⟨rfl,rfl,rfl,aA _,fun _ h=>h,fun _ _=>rfl,fun _ _ h=>h,fun _ _ _=>rfl,fun _ h=>.inl h,fun _ _ h=>.inl h⟩
def Step.trans {x'':X}(h:Step x x')(h':Step x' x''):Step x x'':=by
 refine⟨h'.os.trans h.os,h'.tape.trans h.tape,h'.output.trans h.output,ea h.size h'.size,fun b hb=>h'.I b (h.I b hb),
  fun b hb=>(h'.keep b (h.I b hb)).trans (h.keep b hb),fun l p hp=>h'.β l p (h.β l p hp), ?_, ?_, ?_⟩
 .intro b hb hn;refine(h'.old b (jH hb h.size) ?_).trans (h.old b hb hn);intro l p hp e;rcases h.newβ l p hp with h1|h1|⟨l',p',h1,h2⟩
  .exact hn l p h1 e
  .omega
  .exact hn l' p' h1 (h2.trans e)
 .intro b hb;rcases h'.newI b hb with h1|h1|⟨l,p,h1,h2⟩
  .exact h.newI b h1
  .exact .inr (.inl (ea h.size h1))
  .rcases h.newβ l p h1 with h3|h3|⟨l',p',h3,h4⟩
   .exact .inr (.inr ⟨l,p,h3,h2⟩)
   .exact .inr (.inl (h2▸h3))
   .exact .inr (.inr ⟨l',p',h3,h4.trans h2⟩)
 .intro l p hp;rcases h'.newβ l p hp with h1|h1|⟨l',p',h1,h2⟩
  .exact h.newβ l p h1
  .exact .inr (.inl (ea h.size h1))
  .rcases h.newβ l' p' h1 with h3|h3|⟨l'',p'',h3,h4⟩
   .exact .inr (.inr ⟨l',p',h3,h2⟩)
   .exact .inr (.inl (h2▸h3))
   .exact .inr (.inr ⟨l'',p'',h3,h4.trans h2⟩)
def lG.mono {b base tot:Nat}{blk:bT}(h:lG ν x b base tot blk)(hl:Le x x')(hb:x'.w.heap[b]? =x.w.heap[b]?):lG ν x' b base tot blk:=by
 cases blk with
 |buf k es=>
  obtain⟨hk,ht,c,T,fr,h1,h2,h3,h4⟩:=h;exact⟨hk,ht,c,T,fr,hb.trans h1,h2,h3,fun i hi=>⟨(h4 i hi).1,fun j hj=>⟨((h4 i hi).2 j hj).1,((h4 i hi).2 j hj).2.mono hl⟩⟩⟩
 |iter s pos=>exact⟨hb.trans h.1,h.2⟩
 |row s=>
  obtain⟨h0,c,h1,h2⟩:=h;exact⟨h0,c,hb.trans h1,h2⟩
 |bld o n u=>
  obtain⟨h0,v,h1,h2⟩:=h;refine⟨h0,v,hb.trans h1, ?_⟩;cases o with
  |none=>exact h2
  |some l=>
   obtain⟨g,t,h3,h4,h5⟩:=h2;exact⟨g,t,h3,h4,hl.β _ _ h5⟩
structure gY (w w':World):Prop where
 os:w'.os=w.os
 tape:w'.tape=w.tape
 output:w'.output=w.output
 size:w.heap.size<=w'.heap.size
 old:∀b,b<w.heap.size->w'.heap[b]? =w.heap[b]?
def gY.refl (w:World):gY w w:=⟨rfl,rfl,rfl,aA _,fun _ _=>rfl⟩
def pB (w:World)(o:Obj)(b:Nat)(hb:b<w.heap.size):(w.alloc o).heap[b]? =w.heap[b]? :=by
 simp only[World.alloc,Array.getElem?_push];rw[ai ae]
def fu (w:World)(o:Obj):(w.alloc o).heap[w.heap.size]? =some o:=by show(w.heap.push o)[w.heap.size]? =some o;simp
def gY.alloc (w:World)(o:Obj):gY w (w.alloc o):=⟨rfl,rfl,rfl,bz,fun b hb=>pB w o b hb⟩
def gY.trans {w w' w'':World}(h:gY w w')(h':gY w' w''):gY w w'':=
 ⟨h'.os.trans h.os,h'.tape.trans h.tape,h'.output.trans h.output,ea h.size h'.size,fun b hb=>(h'.old b (jH hb h.size)).trans (h.old b hb)⟩
def gY.drew (w:World):gY w w.drew:=⟨rfl,rfl,rfl,aA _,fun _ _=>rfl⟩
def Step.grow {w':World}(hw:gY x.w w')(himm:∀b,x.I b->b<x.w.heap.size):Step x ⟨w',x.I,x.β⟩:=
 ⟨hw.os,hw.tape,hw.output,hw.size,fun _ h=>h,fun b hb=>hw.old b (himm b hb),fun _ _ h=>h,fun b hb _=>hw.old b hb,fun _ h=>.inl h,fun _ _ h=>.inl h⟩
def eI.grow {f:Nat->Option bT}{w':World}(h:eI ν x f)(hw:gY x.w w'):eI ν ⟨w',x.I,x.β⟩ f:=
 ⟨fun l blk b base tot h1 h2=>⟨(h.own l blk b base tot h1 h2).1,(h.own l blk b base tot h1 h2).2.mono (Step.grow hw h.imm).le (hw.old b (h.ed l b base tot h2))⟩,
  h.inj,fun b hb=>jH (h.imm b hb) hw.size,fun l b base tot hb=>jH (h.ed l b base tot hb) hw.size,qI (Step.grow hw h.imm).le h.gd⟩
def eX (β:Nat->Option (Nat×Nat×Nat))(L:Nat)(p:Nat×Nat×Nat):Nat->Option (Nat×Nat×Nat):=fun l=>if l=L then some p else β l
def jX (f:Nat->Option bT)(L:Nat)(b:Option bT):Nat->Option bT:=fun l=>if l=L then b else f l
def wb {w':World}{L n base tot:Nat}(hw:gY x.w w')(hn:x.w.heap.size<=n)(hL:x.β L=none)(himm:∀b,x.I b->b<x.w.heap.size):
  Step x ⟨w',x.I,eX x.β L (n,base,tot)⟩:=by
 refine⟨hw.os,hw.tape,hw.output,hw.size,fun _ h=>h,fun b hb=>hw.old b (himm b hb),fun l p hp=>?_,fun b hb _=>hw.old b hb,fun _ h=>.inl h,fun l p hp=>?_⟩
 .grind [eX]
 grind [eX]
def L2 {f:Nat->Option bT}{w':World}{L n base tot:Nat}{blk:bT}(h:eI ν x f)(hw:gY x.w w')(hn:x.w.heap.size<=n)(hnw:n<w'.heap.size)(hL:x.β L=none)
  (hb:lG ν ⟨w',x.I,eX x.β L (n,base,tot)⟩ n base tot blk):eI ν ⟨w',x.I,eX x.β L (n,base,tot)⟩ (jX f L (some blk)):=by
 have hle:=(wb (base:=base) (tot:=tot) hw hn hL h.imm).le;refine⟨fun l blk' b base' tot' h1 h2=>?_,fun l l' b base' tot' base'' tot'' h1 h1' h2 h2'=>?_,fun b hb=>jH (h.imm b hb) hw.size,fun l b base' tot' h2=>?_,qI hle h.gd⟩
 .by_cases e:l=L
  .subst e;simp only[eX,aF,bc,eg]at h2;simp only[jX,aF,bc]at h1;obtain⟨rfl,rfl,rfl⟩:=h2;subst h1;exact⟨fun hI=>by have:=h.imm _ hI;omega,hb⟩
  .simp only[eX,e,aE]at h2;simp only[jX,e,aE]at h1;obtain⟨a1,a2⟩:=h.own l blk' b base' tot' h1 h2;exact⟨a1,a2.mono hle (hw.old b (h.ed l b base' tot' h2))⟩
 .by_cases e:l=L<;>by_cases e':l'=L
  .exact e.trans e'.symm
  .simp only[eX,e,aF,bc,eg]at h2;simp only[eX,e',aE]at h2';have:=h.ed l' b base'' tot'' h2';obtain⟨h2,_,_⟩:=h2;omega
  .simp only[eX,e',aF,bc,eg]at h2';simp only[eX,e,aE]at h2;have:=h.ed l b base' tot' h2;obtain⟨h2',_,_⟩:=h2';omega
  .simp only[eX,e,aE]at h2;simp only[eX,e',aE]at h2';simp only[jX,e,aE]at h1;simp only[jX,e',aE]at h1';exact h.inj l l' b base' tot' base'' tot'' h1 h1' h2 h2'
 .by_cases e:l=L
  .simp only[eX,e,aF,bc,eg]at h2;obtain⟨h2,_,_⟩:=h2;show b<w'.heap.size;omega
  .simp only[eX,e,aE]at h2;exact jH (h.ed l b base' tot' h2) hw.size
variable {P:Program} {w:World}
def lO {t:TypeId}(h:P.cellsOf t≠0):∃i,P.info? t=some i/\i.size=P.cellsOf t:=by
 unfold Program.cellsOf at h⊢;cases hi:P.info? t with
 |none=>simp[hi]at h
 |some i=>exact⟨i,rfl,bz⟩
def dE {t:TypeId}(h:P.cellsOf t≠0):(sizeOf t).run P w=.ok (P.cellsOf t) w:=by
 obtain⟨i,hi,hs⟩:=lO h;simp[sizeOf,typeInfo,hi,hs]
def qh {t:TypeId}(h:(P.underlying t).isNone=false):(isAgg t).run P w=.ok (cx P t) w:=by
 cases hu:P.underlying t with
 |none=>simp[hu]at h
 |some d=>unfold isAgg cx;rw[Sem.run_bind,run_underlying hu w];simp only[hu,Result.andThen];cases d<;>rfl
theorem Addr.wL (b o n:Nat):(⟨b,o,none⟩:Addr).add n=⟨b,o+n,none⟩:=by unfold Addr.add;split<;>simp_all
end
end
section
variable [dw]
section
variable {ν:List (Nat×Nat)} {x:X} {f:Nat->Option bT} {P:Program}
mutual
theorem ku:∀(v:Value) (d:D),cW v=some d->RD ν x v d
 | .bool b,d,h=>by simp[cW]at h;subst h;exact .bool b
 | .int k n,d,h=>by simp[cW]at h;subst h;exact .int k n
 | .string ⟨⟨s⟩⟩,d,h=>by
  simp only[cW]at h;split at h
  .rename_i hs;simp only[bc]at h;subst h;exact .str s (by simpa[maxLen,ByteArray.size]using hs)
  .cases h
 | .pointer none,d,h=>by simp[cW]at h;subst h;exact .nilp
 | .slice none 0 0,d,h=>by simp[cW]at h;subst h;exact .aG
 | .nilFunc,d,h=>by simp[cW]at h;subst h;exact .nilf
 | .nilIface,d,h=>by simp[cW]at h;subst h;exact .ifn
 | .agg ⟨cs⟩,d,h=>by
  simp only[cW]at h;split at h
  .rename_i hone;cases hc:oK cs with
   |none=>simp[hc]at h
   |some ds=>
    simp[hc]at h;subst h;obtain⟨hl,hr⟩:=pz cs ds hc;refine .agg ⟨cs⟩ ds (by simpa using hl) (fun i hi=>?_) (fun i hi=>by simpa using hr i hi);have:=nW cs hone i ae;simpa using this
  .cases h
 | .float _ _,d,h=>by simp[cW]at h
 | .complex _ _ _,d,h=>by simp[cW]at h
 | .pointer (some _),d,h=>by simp[cW]at h
 | .slice (some _) _ _,d,h=>by simp[cW]at h
 | .slice none (_+1) _,d,h=>by simp[cW]at h
 | .slice none 0 (_+1),d,h=>by simp[cW]at h
 | .map _,d,h=>by simp[cW]at h
 | .chan _,d,h=>by simp[cW]at h
 | .func _ _ _,d,h=>by simp[cW]at h
 | .iface _ _,d,h=>by simp[cW]at h
 | .tuple _,d,h=>by simp[cW]at h
theorem pz:∀(vs:List Value) (ds:List D),oK vs=some ds->vs.length=ds.length/\∀i,i<ds.length->RD ν x (vs.getD i undef) (ds.getD i .any)
 |[],ds,h=>by simp[oK]at h;subst h;simp
 |v::r,ds,h=>by
  simp only[oK]at h;split at h
  .rename_i d ds' h1 h2;simp only[bc]at h;subst h;have a:=ku v d h1;obtain⟨b1,b2⟩:=pz r ds' h2;refine⟨by simp[b1],fun i hi=>?_⟩;cases i with
   |zero=>simpa using a
   |succ i=>simpa using b2 i (by simpa using hi)
  .cases h
theorem nW:∀(vs:List Value),qA vs=true->∀i,i<vs.length->(vs.getD i undef).oneCell'=true
 |[],_,i,hi=>by simp at hi
 |v::r,h,i,hi=>by
  simp only[qA,br]at h;cases i with
  |zero=>simp;cases v<;>simp_all[Value.oneCell']
  |succ i=>simpa using nW r h.2 i (by simpa using hi)
end
def wI (ν:List (Nat×Nat))(x:X)(f:Nat->Option bT)(L:Nat)(d:D)(r:Result Next):Prop:=
 ∃v x',(r=.ok (.value v) x'.w\/r=.ok .skip x'.w/\v=undef)/\Step x x'/\RD ν x' v d/\eI ν x' f/\∀l,l≠L->x'.β l=x.β l
def nY {L:Nat}{d:D}{v:Value}{r:Result Next}(hs:eI ν x f)(hr:r=.ok (.value v) x.w)(hd:RD ν x v d):wI ν x f L d r:=
 ⟨v,x,.inl hr,.refl x,hd,hs,fun _ _=>rfl⟩
def pI (C:CC)(defs:List (Option Nat))(J:Src->b7)(ev:Operand->Value)(x:X)(os:List Operand):Prop:=
 ∀o,o∈os->∀s,C.src defs o=some s->(J s).ok=true->RD C.ν x (ev o) (J s).d
def RD.iq {v:Value}{b:Bool}(h:RD ν x v (.bool b)):v=.bool b:=by cases h;rfl
def RD.dH {v:Value}{k:IntKind}{n:Int}(h:RD ν x v (.int k n)):v=.int k n:=by cases h;rfl
def RD.hZ {v:Value}{s:List UInt8}(h:RD ν x v (.str s)):v=.string ⟨⟨s⟩⟩/\s.length<=maxLen:=by cases h;exact⟨rfl,‹_›⟩
def RD.pick {b:Bool}{u v:Value}{d e:D}(h1:b=true->RD ν x u d)(h2:b=false->RD ν x v e):RD ν x (if b then u else v) (D.pick b d e):=by
 cases b
 .have:=h2 rfl;simp only[gV,aE];cases d<;>cases e<;>simp only[D.pick,cond_false]<;>exact this
 .have:=h1 rfl;simp only[aF];cases d<;>cases e<;>simp only[D.pick,cond_true]<;>exact this
def AZ {op:BinOp}{t:TypeId}{k k':IntKind}{a b:Int}(w:World)(hb:iN op (.int k a) (.int k' b)):
  ∃v,(binOp op t (.int k a) (.int k' b)).run P w=.ok v w/\RD ν x v (ji op (.int k a) (.int k' b)):=by
 cases op<;>simp only[iN]at hb<;>simp only[binOp,ji,ne_eq]
 case shl=>exact⟨_,by simp[Op.shift,show ¬b<0 by omega],.int _ _⟩
 case shr=>exact⟨_,by simp[Op.shift,show ¬b<0 by omega],.int _ _⟩
 case quo=>obtain⟨rfl,hb⟩:=hb;exact⟨_,by simp[Op.intDiv,hb],.int _ _⟩
 case rem=>obtain⟨rfl,hb⟩:=hb;exact⟨_,by simp[Op.intDiv,hb],.int _ _⟩
 case and=>subst hb;exact⟨_,by simp[Op.intBits],.int _ _⟩
 case or=>subst hb;exact⟨_,by simp[Op.intBits],.int _ _⟩
 case xor=>subst hb;exact⟨_,by simp[Op.intBits],.int _ _⟩
 case andNot=>subst hb;exact⟨_,by simp[Op.intBits],.int _ _⟩
 case add=>subst hb;exact⟨_,by simp[Op.intArith],.int _ _⟩
 case sub=>subst hb;exact⟨_,by simp[Op.intArith],.int _ _⟩
 case mul=>subst hb;exact⟨_,by simp[Op.intArith],.int _ _⟩
 case eql=>subst hb;exact⟨_,by simp[Op.intCmp],.bool _⟩
 case neq=>subst hb;exact⟨_,by simp[Op.intCmp],.bool _⟩
 case lss=>subst hb;exact⟨_,by simp[Op.intCmp],.bool _⟩
 case leq=>subst hb;exact⟨_,by simp[Op.intCmp],.bool _⟩
 case gtr=>subst hb;exact⟨_,by simp[Op.intCmp],.bool _⟩
 case geq=>subst hb;exact⟨_,by simp[Op.intCmp],.bool _⟩
def yw (a b:List UInt8):(⟨⟨a⟩⟩:ByteArray)++⟨⟨b⟩⟩=⟨⟨a++b⟩⟩:=by
 have h:((⟨⟨a⟩⟩:ByteArray)++⟨⟨b⟩⟩).data=(⟨a++b⟩:Array UInt8):=by
  rw[ByteArray.data_append];simp
 exact b8 ByteArray.mk h
def A0 {op:BinOp}{t:TypeId}{a b:List UInt8}(w:World)(hb:iN op (.str a) (.str b)):
  ∃v,(binOp op t (.string ⟨⟨a⟩⟩) (.string ⟨⟨b⟩⟩)).run P w=.ok v w/\RD ν x v (ji op (.str a) (.str b)):=by
 have hs:∀l:List UInt8,(⟨⟨l⟩⟩:ByteArray).size=l.length:=fun _=>rfl
 cases op<;>simp only[iN]at hb<;>simp only[binOp,ji]
 case add=>
  refine⟨.string ⟨⟨a++b⟩⟩, ?_,.str _ (by simp[maxLen];omega)⟩;have:¬(((⟨⟨a⟩⟩:ByteArray).size+(⟨⟨b⟩⟩:ByteArray).size:Nat):Int)>IntKind.i64.max:=by
   rw[hs,hs];simp only[IntKind.max,IntKind.signed,IntKind.bits,aF];omega
  simp only[Op.stringOp,this,aE,Sem.run_pure,yw]
 all_goals
  refine⟨_,by simp only[Op.stringOp,Sem.run_pure];rfl, ?_⟩;simp only[ByteArray.toList_eq];exact .bool _
def jP (op:BinOp)(t:TypeId)(p q:Operand){u v:Value}(h:(∀cs,u≠.agg cs)/\u≠.nilIface)(w:World):(eqGuard op t p q u v).run P w=.ok () w:=by
 obtain⟨h1,h2⟩:=h;unfold eqGuard;cases op<;>simp<;>(split<;>first|rfl|simp_all)
def dU {α:Type}(l:List α)(o n:Nat)(d:α)(j:Nat)(hj:j<n):((l.drop o).take n).getD j d=l.getD (o+j) d:=by
 grind
def fM {α:Type}(l:List α)(o n:Nat)(h:o+n<=l.length):((l.drop o).take n).length=n:=by
 simp;omega
theorem cv (cs:Array Value)(i:Nat)(d:Value):cs.toList.getD i d=cs.getD i d:=by
 simp[List.getD,Array.getD];split<;>simp_all
def my {t:TypeId}{cs:Array Value}{ds:List D}{off n:Nat}{ag:Bool}(w:World)(hv:RD ν x (.agg cs) (.agg ds))(ht:P.cellsOf t≠0)(hu:(P.underlying t).isNone=false)
  (hn:n=P.cellsOf t) (hag:ag=cx P t) (hle:off+n<=ds.length) (h1:ag=false->n=1):
  ∃v,(part t cs off).run P w=.ok v w/\RD ν x v (cut ds off n ag):=by
 cases hv with
 |agg _ _ hl hone h=>
  unfold part;rw[Sem.run_bind,qh hu];subst hag;cases hb:cx P t
  .have hn1:=h1 (by rw[hb]);have hlt:off<cs.size:=ae;refine⟨cs.getD off undef, ?_, ?_⟩
   .simp[Result.andThen,Array.getElem?_eq_getElem hlt,Array.getD,hlt]
   .simp only[cut,cond_false];exact h off ae
  .refine⟨.agg (cs.extract off (off+n)), ?_, ?_⟩
   .simp[Result.andThen,dE ht,hn]
   .simp only[cut,cond_true];refine .agg _ _ ?_ ?_ ?_
    .simp;omega
    .intro i hi;simp at hi;have:=hone (off+i) ae;rw[<-this];congr 1;simp[Array.getD,show off+i<cs.size by omega,show i<min (off+n) cs.size-off by omega]
    .intro i hi;simp at hi;rw[dU _ _ _ _ _ ae];have:=h (off+i) ae;have e:(cs.extract off (off+n)).getD i undef=cs.getD (off+i) undef:=by
      simp[Array.getD,show off+i<cs.size by omega,show i<min (off+n) cs.size-off by omega]
     rw[e];exact this
end
end
section
variable [dw]
section
variable {x:X} {f:Nat->Option bT} {C:CC} {defs:List (Option Nat)} {J:Src->b7} {ev:Operand->Value} {Y:Ctx} {m:List (Nat×bT)} {L:Nat}
def fY {os':List Operand}(hρ:pI C defs J ev x os'):∀(os:List Operand) (ss:List Src),(∀o∈os,o∈os')->C.qk defs os=some ss->sO J ss->
  os.length=ss.length/\(gL J ss).length=os.length/\∀i,i<(gL J ss).length->RD C.ν x ((os.map ev).getD i undef) ((gL J ss).getD i .any)
 |[],ss,_,h,_=>by simp[CC.qk]at h;subst h;simp[gL]
 |o::r,ss,hm,h,hk=>by
  simp only[CC.qk]at h;split at h
  .rename_i a l h1 h2;simp only[bc]at h;subst h;simp only[sO]at hk;obtain⟨b1,b2,b3⟩:=fY hρ r l (fun o ho=>hm o (.tail _ ho)) h2 hk.2;refine⟨by simp[b1],by simp[gL,b2],fun i hi=>?_⟩;cases i with
   |zero=>simpa[gL]using hρ o (hm o (.head _)) a h1 hk.1
   |succ i=>simpa[gL]using b3 i (by simpa[gL]using hi)
  .cases h
def uM (off:Nat):∀(new:List Value) (st:Nat) (acc:Array Value),off+st+new.length<=acc.size->
  ((new.zipIdx st).foldl (fun cs (c,j)=>cs.setIfInBounds (off+j) c) acc).size=acc.size/\
  ∀q,((new.zipIdx st).foldl (fun cs (c,j)=>cs.setIfInBounds (off+j) c) acc)[q]? =if off+st<=q/\q<off+st+new.length then new[q-(off+st)]? else acc[q]?
 |[],st,acc,_=>⟨bz,fun q=>eB⟩
 |c::r,st,acc,hb=>by
  simp only[aY]at hb;obtain⟨h1,h2⟩:=uM off r (st+1) (acc.setIfInBounds (off+st) c) eB;refine⟨by simpa[List.zipIdx_cons]using h1,fun q=>?_⟩;rw[List.zipIdx_cons,List.foldl_cons,h2 q]
  grind
def ot {os':List Operand}(hρ:pI C defs J ev x os')(place:Nat->Option (Nat×Nat))(len:Nat):∀(ps:List (Nat×Operand)) (ss:List (Nat×Nat×Src)),
  (∀p∈ps,p.2∈os')->C.parts defs place ps=some ss->xm J len ss->∀(cs:Array Value) (ds:List D),cs.size=len->RD C.ν x (.agg cs) (.agg ds)->
  ∃cs',Instr.fill place cs (ps.map fun(i,o)=>(i,ev o))=some cs'/\RD C.ν x (.agg cs') (.agg (uJ J ds ss))
 |[],ss,_,h,_,cs,ds,_,hr=>by simp[CC.parts]at h;subst h;exact⟨cs,by simp[Instr.fill],by simpa[uJ]using hr⟩
 |(i,o)::r,ss,hm,h,hk,cs,ds,hlen,hr=>by
  simp only[CC.parts]at h;split at h
  .rename_i off n s l h1 h2 h3;split at h
   .cases h
   rename_i hn0;simp only[bc]at h;subst h;simp only[xm]at hk;obtain⟨k1,k2,k3,k4⟩:=hk;have hn:0<n:=ae;have hv:=hρ o (hm _ (.head _)) s h2 k1;obtain⟨c1,c2⟩:=hv.cells ae;have hsz:(ev o).cells.size=n:=ae;cases hr with
   |agg _ _ hl hone hh=>
   let cs1:Array Value:=((ev o).cells.toList.zipIdx 0).foldl (fun cs (c,j)=>cs.setIfInBounds (off+j) c) cs
   have harr:(ev o).cells.zipIdx.foldl (fun cs (c,j)=>cs.setIfInBounds (off+j) c) cs=cs1:=by
    rw[<-Array.foldl_toList];simp[cs1]
   have hcs1:=harr;obtain⟨hsz1,hgq⟩:=uM off (ev o).cells.toList 0 cs eB;have hget:∀q,q<cs.size->cs1.getD q undef=if q<off then cs.getD q undef else if q<off+n then(ev o).cells.getD (q-off) undef else cs.getD q undef:=by
    intro q hq;have:=hgq q;rw[<-cv,<-cv cs,<-cv (ev o).cells];simp only[List.getD,Array.getElem?_toList];rw[show cs1[q]? =_ from this];simp only[Array.length_toList,hsz,Nat.add_zero];by_cases q1:q<off
    .rw[ax q1,ai ae]
    .rw[ai q1];by_cases q2:q<off+n
     .rw[ax q2,ax ae];simp
     .rw[ai q2,ai ae]
   have hsz1:cs1.size=cs.size:=hsz1;have hdlen:(over ds off (J s).d.cells).length=ds.length:=by simp[over];omega
   have hdget:∀q,q<ds.length->(over ds off (J s).d.cells).getD q .any=if q<off then ds.getD q .any else if q<off+n then(J s).d.cells.getD (q-off) .any else ds.getD q .any:=by
    intro q hq;simp only[over,List.getD,List.getElem?_append,dM];by_cases q1:q<off
    .rw[ax ae,ax q1];simp[List.getElem?_take,q1]
    .rw[ai ae,ai q1,show q-min off ds.length=q-off by omega];by_cases q2:q<off+n
     .rw[ax q2,ax ae]
     .rw[ai q2,ai ae];simp only[List.getElem?_drop];congr 3;omega
   have hr1:RD C.ν x (.agg cs1) (.agg (over ds off (J s).d.cells)):=by
    refine .agg _ _ ae (fun q hq=>?_) (fun q hq=>?_)
    .rw[hdlen]at hq;rw[hget q ae];split
     .exact hone q hq
     .split
      .exact(c2 (q-off) ae).1
      .exact hone q hq
    .rw[hdlen]at hq;rw[hget q ae,hdget q hq];split
     .exact hh q hq
     .split
      .exact(c2 (q-off) ae).2
      .exact hh q hq
   obtain⟨cs',g1,g2⟩:=ot hρ place len r l (fun p hp=>hm p (.tail _ hp)) h3 k4 cs1 _ ae hr1;refine⟨cs', ?_,by simpa[uJ]using g2⟩;simp only[List.map_cons,Instr.fill,h1];rw[ai (by simp[hsz];omega),hcs1];exact g1
  .cases h
end
section
variable {ν:List (Nat×Nat)} {x:X} {P:Program}
def hJ:∀(ks:List CK) (ds:List D),fg ks ds->ds.length=ks.length
 |[],[],_=>rfl
 |[],_::_,h=>by simp[fg]at h
 |_::_,[],h=>by simp[fg]at h
 |c::r,d::ds,h=>by have:=hJ r ds (by simp[fg]at h;exact h.2);simp;omega
def iT:∀(a b:List CK) (ds:List D),fg (a++b) ds->fg a (ds.take a.length)/\fg b (ds.drop a.length)
 |[],b,ds,h=>by simpa[fg]using h
 |c::r,b,[],h=>by simp[fg]at h
 |c::r,b,d::ds,h=>by
  simp only[qn,fg]at h;obtain⟨h1,h2⟩:=iT r b ds h.2
  grind [fg]
def pO:∀(n:Nat) (ds es:List D),ds.length=es.length->ic ds es=(ic (ds.take n) (es.take n)&&ic (ds.drop n) (es.drop n))
 |0,ds,es,_=>by simp[ic]
 |n+1,[],[],_=>by simp[ic]
 |n+1,[],_::_,h=>by simp at h
 |n+1,_::_,[],h=>by simp at h
 |n+1,d::ds,e::es,h=>by
  simp only[ic,List.take_succ_cons,List.drop_succ_cons];rw[pO n ds es (by simpa using h),Bool.and_assoc]
def zT {c:CK}{d:D}(h:c.fits d):d.cells=[d]/\d.isAgg=false:=by
 cases c<;>cases d<;>simp_all[CK.fits,D.cells,D.isAgg]
def jS {c:CK}{d:D}(h:fg [c] d.cells)(ha:d.isAgg=false):c.fits d:=by
 cases d<;>simp_all[D.cells,D.isAgg,fg]
def oL {ds:List D}{off n:Nat}{ag:Bool}{ks:List CK}(h:fg ks ((ds.drop off).take n))(hn:ag=false->n=1)(hle:off+n<=ds.length):
  (cut ds off n ag).cells=(ds.drop off).take n/\(cut ds off n ag).isAgg=ag:=by
 cases ag
 .have:=hn rfl;subst this;have hlt:off<ds.length:=ae;have e:(ds.drop off).take 1=[ds.getD off .any]:=by
   rw[lf hlt];simp[List.getD,hlt,List.take]
  rw[e]at h⊢;cases ks with
  |nil=>simp[fg]at h
  |cons c r=>
   simp only[fg]at h;exact zT h.1
 .exact⟨rfl,rfl⟩
def BA (ν:List (Nat×Nat))(x:X)(P:Program)(n:Nat)(t:TypeId)(ks:List CK):Prop:=
 ∀u v d e (w:World),RD ν x u d->RD ν x v e->d.isAgg=cx P t->e.isAgg=cx P t->fg ks d.cells->fg ks e.cells->
  (Op.equalIn n t u v).run P w=.ok (ic d.cells e.cells) w
def uU {n:Nat}{t:TypeId}{ks:List CK}(h:fJ P n t=some ks)(ha:cx P t=false):ks.length=1:=by
 cases n with
 |zero=>simp[fJ]at h
 |succ n=>
  grind [fJ,cx]
def qE (n depth:Nat)(ih:∀t ks,fJ P depth t=some ks->BA ν x P n t ks)(xs ys:Array Value)(ds es:List D)(h1:RD ν x (.agg xs) (.agg ds))(h2:RD ν x (.agg ys) (.agg es))(w:World):
  ∀(fs:List Field) (off:Nat) (ks:List CK),jW P (fun t=>fJ P depth t) off fs=some ks->off<=ds.length->off<=es.length->fg ks (ds.drop off)->fg ks (es.drop off)->
  (Op.eqFields n xs ys fs).run P w=.ok (ic (ds.drop off) (es.drop off)) w
 |[],off,ks,hk,_,_,f1,f2=>by
  simp[jW]at hk;subst hk;have a:=hJ _ _ f1;have b:=hJ _ _ f2;have a':ds.drop off=[]:=ij a;have b':es.drop off=[]:=ij b;rw[a',b'];simp[Op.eqFields,ic]
 |f::fs,off,ks,hk,l1,l2,f1,f2=>by
  simp only[jW]at hk;split at hk
  .cases hk
  .rename_i hne;have hname:f.name≠ "_" :=fun e=>hne (.inl e)
   have hoff:f.offset=off:=by
    rcases Nat.decEq f.offset off with h|h
    .exact absurd (.inr h) hne
    .exact h
   split at hk
   .rename_i a b ha hb;split at hk
    .rename_i hlen;obtain⟨hlen,hnz,hund⟩:=hlen;simp only[bc]at hk;subst hk;obtain⟨fa1,fb1⟩:=iT a b _ f1;obtain⟨fa2,fb2⟩:=iT a b _ f2;have la:=hJ _ _ f1;have lb:=hJ _ _ f2;simp only[wG,cK]at la lb;have hag:cx P f.type=false->P.cellsOf f.type=1:=fun e=>by rw[<-hlen];exact uU ha e
     obtain⟨u,r1,r2⟩:=my (P:=P) (off:=off) (n:=P.cellsOf f.type) (ag:=cx P f.type) w h1 ae hund rfl rfl ae hag;obtain⟨v,s1,s2⟩:=my (P:=P) (off:=off) (n:=P.cellsOf f.type) (ag:=cx P f.type) w h2 ae hund rfl rfl ae hag;rw[hlen]at fa1 fa2 fb1 fb2;obtain⟨c1,c2⟩:=oL (ag:=cx P f.type) fa1 hag ae;obtain⟨d1,d2⟩:=oL (ag:=cx P f.type) fa2 hag ae;have he:=ih f.type a ha u v _ _ w r2 s2 c2 d2 (by rw[c1];exact fa1) (by rw[d1];exact fa2);rw[List.drop_drop]at fb1 fb2;have hrest:=qE n depth ih xs ys ds es h1 h2 w fs (off+P.cellsOf f.type) b hb ae ae fb1 fb2;rw[pO (P.cellsOf f.type) (ds.drop off) (es.drop off) eB];simp only[Op.eqFields,hname,ne_eq,not_false_eq_true,aF,Sem.run_bind,hoff,r1,s1,he,Result.andThen_ok,Sem.run_ite,hrest];rw[c1,d1,List.drop_drop,List.drop_drop];cases ic ((ds.drop off).take (P.cellsOf f.type)) ((es.drop off).take (P.cellsOf f.type))<;>simp
    .cases hk
   .cases hk
def sF (n:Nat)(e:TypeId)(l:List CK)(ih:BA ν x P n e l)(hc:l.length=P.cellsOf e)(hnz:l.length≠0)(hund:(P.underlying e).isNone=false)(hag:cx P e=false->P.cellsOf e=1)
  (xs ys:Array Value) (ds es:List D) (h1:RD ν x (.agg xs) (.agg ds)) (h2:RD ν x (.agg ys) (.agg es)) (w:World):
  ∀(len j:Nat),j*P.cellsOf e<=ds.length->j*P.cellsOf e<=es.length->fg (List.replicate len l).flatten (ds.drop (j*P.cellsOf e))->fg (List.replicate len l).flatten (es.drop (j*P.cellsOf e))->
  (Op.eqItems n e (P.cellsOf e) xs ys (List.range' j len)).run P w=.ok (ic (ds.drop (j*P.cellsOf e)) (es.drop (j*P.cellsOf e))) w
 |0,j,_,_,f1,f2=>by
  have a:=hJ _ _ f1;have b:=hJ _ _ f2;have a':ds.drop (j*P.cellsOf e)=[]:=ij (by simpa using a);have b':es.drop (j*P.cellsOf e)=[]:=ij (by simpa using b);rw[a',b'];simp[Op.eqItems,ic]
 |len+1,j,l1,l2,f1,f2=>by
  simp only[List.replicate_succ,List.flatten_cons]at f1 f2;obtain⟨fa1,fb1⟩:=iT _ _ _ f1;obtain⟨fa2,fb2⟩:=iT _ _ _ f2;have la:=hJ _ _ f1;have lb:=hJ _ _ f2;simp only[wG,cK]at la lb;have hj:(j+1)*P.cellsOf e=j*P.cellsOf e+P.cellsOf e:=Nat.succ_mul _ _;obtain⟨u,r1,r2⟩:=my (P:=P) (off:=j*P.cellsOf e) (n:=P.cellsOf e) (ag:=cx P e) w h1 ae hund rfl rfl ae hag;obtain⟨v,s1,s2⟩:=my (P:=P) (off:=j*P.cellsOf e) (n:=P.cellsOf e) (ag:=cx P e) w h2 ae hund rfl rfl ae hag;rw[hc]at fa1 fa2 fb1 fb2;obtain⟨c1,c2⟩:=oL (ag:=cx P e) fa1 hag ae;obtain⟨d1,d2⟩:=oL (ag:=cx P e) fa2 hag ae;have he:=ih u v _ _ w r2 s2 c2 d2 (by rw[c1];exact fa1) (by rw[d1];exact fa2);rw[List.drop_drop,<-hj]at fb1 fb2;have hrest:=sF n e l ih hc hnz hund hag xs ys ds es h1 h2 w len (j+1) ae ae fb1 fb2;rw[pO (P.cellsOf e) (ds.drop (j*P.cellsOf e)) (es.drop (j*P.cellsOf e)) eB];simp only[List.range'_succ,Op.eqItems,Sem.run_bind,r1,s1,he,Result.andThen_ok,Sem.run_ite,hrest];rw[c1,d1,List.drop_drop,List.drop_drop,<-hj];cases ic ((ds.drop (j*P.cellsOf e)).take (P.cellsOf e)) ((es.drop (j*P.cellsOf e)).take (P.cellsOf e))<;>simp
def nZ:∀(depth:Nat) (t:TypeId) (ks:List CK),fJ P depth t=some ks->∀n,depth<=n->BA ν x P n t ks
 |0,t,ks,h,_,_=>by simp[fJ]at h
 |depth+1,t,ks,h,n,hn=>by
  obtain⟨n,rfl⟩:∃k,n=k+1:=⟨n-1,ae⟩
  intro u v d e w r1 r2 a1 a2 f1 f2;simp only[fJ]at h;split at h
  .rename_i hu;simp only[bc]at h;subst h;have hag:cx P t=false:=by simp[cx,hu]
   rw[hag]at a1 a2;have g1:=jS f1 a1;have g2:=jS f2 a2;cases d<;>simp only[CK.fits]at g1;cases e<;>simp only[CK.fits]at g2;rw[r1.iq,r2.iq,run_equalIn_bool w n t _ _ hu];simp[D.cells,ic,N0]
  .rename_i k hu;simp only[bc]at h;subst h;have hag:cx P t=false:=by simp[cx,hu]
   rw[hag]at a1 a2;have g1:=jS f1 a1;have g2:=jS f2 a2;cases d<;>simp only[CK.fits]at g1;cases e<;>simp only[CK.fits]at g2;subst g1;subst g2;rw[r1.dH,r2.dH,run_equalIn_int w n t _ _ _ _ hu];simp[D.cells,ic,N0]
  .rename_i hu;simp only[bc]at h;subst h;have hag:cx P t=false:=by simp[cx,hu]
   rw[hag]at a1 a2;have g1:=jS f1 a1;have g2:=jS f2 a2;cases d<;>simp only[CK.fits]at g1;cases e<;>simp only[CK.fits]at g2;rw[r1.hZ.1,r2.hZ.1,run_equalIn_string w n t _ _ hu];simp[D.cells,ic,N0,ByteArray.toList_eq]
  .rename_i fs hu;split at h
   .cases h
   .rename_i hst;have hag:cx P t=true:=by simp[cx,hu]
    rw[hag]at a1 a2;cases d<;>simp only[D.isAgg,gV]at a1;cases e<;>simp only[D.isAgg,gV]at a2;have hf:P.fieldsOf t=fs:=by simp[Program.fieldsOf,hu]
    cases r1 with
    |agg xs _ p1 p2 p3=>
     cases r2 with
     |agg ys _ q1 q2 q3=>
      rw[run_equalIn_struct w n t xs ys (by rw[hf];exact hu) (by simpa using hst),hf];have:=qE (ν:=ν) (x:=x) n depth (fun t ks hk=>nZ depth t ks hk n ae) xs ys _ _ (.agg xs _ p1 p2 p3) (.agg ys _ q1 q2 q3) w fs.toList 0 ks h bz bz (by simpa[D.cells]using f1) (by simpa[D.cells]using f2);simpa[D.cells]using this
  .rename_i len e' hu;split at h
   .rename_i l hl;split at h
    .rename_i hc;obtain⟨hc,hnz,hund⟩:=hc;simp only[bc]at h;subst h;have hag:cx P t=true:=by simp[cx,hu]
     rw[hag]at a1 a2;cases d<;>simp only[D.isAgg,gV]at a1;cases e<;>simp only[D.isAgg,gV]at a2;obtain⟨i,hi,_⟩:=lO (P:=P) (t:=e') ae;cases r1 with
     |agg xs _ p1 p2 p3=>
      cases r2 with
      |agg ys _ q1 q2 q3=>
       rw[run_equalIn_array w n xs ys hu hi,List.range_eq_range'];have:=sF (ν:=ν) (x:=x) n e' l (nZ depth e' l hl n ae) hc hnz hund (fun e=>by rw[<-hc];exact uU hl e) xs ys _ _ (.agg xs _ p1 p2 p3) (.agg ys _ q1 q2 q3) w len 0 bz bz (by simpa[D.cells]using f1) (by simpa[D.cells]using f2);simpa[D.cells]using this
    .cases h
   .cases h
  .cases h
end
end
end Go.Abs
